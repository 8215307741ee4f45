import PyProof.Rows.All
import Wide.All
import OpenK.AllK
import Wide.FinOn
import KE.KStateDown
import Lean
import HandS.Base
import HandS.Call
import HandS.CallLocal
import HandS.CallSlots
import HandS.Conv
import HandS.Deep
import HandS.Defaults
import HandS.Ends
import HandS.ExcIs
import HandS.ExcOwn
import HandS.Flow
import HandS.ForMost
import HandS.Head0
import HandS.Head1
import HandS.Head2
import HandS.HeadEnd
import HandS.HeadHook1
import HandS.HeadHook2
import HandS.HeadHook4
import HandS.IsInst
import HandS.More
import HandS.SetFor
import HandS.SortInts
import HandS.Strs
import HandS.Style
import HandS.TryOnly
import HandS.TupAny
import HandS.TupMul
import HandS.Wide
import HandS.Words
import HandS.WordsExc
import KE.DataCmp
import PySem.Challenge.RW_texttoticks_k70_sentences_of_moments_and
set_option Elab.async false
set_option linter.all false
set_option maxRecDepth 100000
set_option maxHeartbeats 40000000
/-! The abstract reading of the Python used here: pure data D, a heap of lists and dicts, and what must hold so that a piece of syntax comes to an end that is wanted. -/
namespace Py
open PySem (Str)

/-- data: tuples are pure; a list or a dict stands at an address -/
inductive D where
  | non | bl (b : Bool) | int (i : Int) | str (s : Str) | tup (xs : List D) | loc (a : Nat) | fn (x : Str)
  /-- a list that stands locked: the script -/
  | fl (xs : List D)
  deriving Inhabited
inductive AO where
  | lst (xs : List D)
  | dct (kvs : List (D × D))
abbrev AH := Nat → Option AO
def put (h : AH) (a : Nat) (o : AO) : AH := fun b => if b = a then some o else h b
@[simp] theorem put_self {h : AH} {a : Nat} {o : AO} : put h a o a = some o := by simp [put]
theorem put_ne {h : AH} {a b : Nat} {o : AO} (e : b ≠ a) : put h a o b = h b := by simp [put, e]
@[simp] theorem put_put {h : AH} {a : Nat} {o o' : AO} : put (put h a o) a o' = put h a o' := by
  funext b; simp only [put]; split <;> rfl

/-! ### equality of data, as Python has it -/
mutual
def eqv : D → D → Bool
  | .tup xs, .tup ys => eqvs xs ys
  | .non, .non => true
  | .bl a, .bl b => a == b
  | .bl a, .int j => (if a then 1 else 0) == j
  | .int i, .bl b => i == (if b then 1 else 0)
  | .int i, .int j => i == j
  | .str x, .str y => x == y
  | _, _ => false
def eqvs : List D → List D → Bool
  | [], [] => true
  | x :: xs, y :: ys => eqv x y && eqvs xs ys
  | _, _ => false
end
/-- data that can be compared: no address, texts of code points, not deep -/
def pu : Nat → D → Bool
  | _, .non => true
  | _, .bl _ => true
  | _, .int _ => true
  | _, .str s => s.cps.all (· < 0x110000)
  | n + 1, .tup xs => xs.all (pu n)
  | _, _ => false
/-- the same, without bools -/
def pk : Nat → D → Bool
  | _, .non => true
  | _, .int _ => true
  | _, .str s => s.cps.all (· < 0x110000)
  | n + 1, .tup xs => xs.all (pk n)
  | _, _ => false

/-! ### what an expression comes to: a value, or an object that is just made -/
inductive Rv where
  | v (d : D)
  | o (x : AO)
def gd {α : Type} (o : Option α) (k : α → Prop) : Prop := ∃ a, o = some a ∧ k a
@[simp] theorem gd_some {α : Type} {a : α} {k : α → Prop} : gd (some a) k = k a := by simp [gd]
@[simp] theorem gd_none {α : Type} {k : α → Prop} : gd (none : Option α) k = False := by simp [gd]
theorem gd_ite {α : Type} {c : Prop} [Decidable c] {a b : Option α} {k : α → Prop} : gd (if c then a else b) k = if c then gd a k else gd b k := by split <;> rfl
theorem gd_bite {α : Type} {c : Bool} {a b : Option α} {k : α → Prop} : gd (bif c then a else b) k = if c = true then gd a k else gd b k := by cases c <;> rfl
theorem gd.mono {α : Type} {o : Option α} {k k' : α → Prop} (h : gd o k) (m : ∀ a, k a → k' a) : gd o k' := let ⟨a, e, q⟩ := h; ⟨a, e, m a q⟩
theorem ite_false_and {c : Prop} [Decidable c] {p : Prop} : (if c then p else False) = (c ∧ p) := by split <;> simp [*]

def rv (r : Rv) (h : AH) (Q : D → AH → Prop) : Prop := match r with
  | .v d => Q d h
  | .o x => ∀ a, h a = none → Q (.loc a) (put h a x)
@[simp] theorem rv_v {d : D} {h : AH} {Q : D → AH → Prop} : rv (.v d) h Q = Q d h := rfl
@[simp] theorem rv_o {x : AO} {h : AH} {Q : D → AH → Prop} : rv (.o x) h Q = ∀ a, h a = none → Q (.loc a) (put h a x) := rfl
theorem rv.mono {r : Rv} {h : AH} {Q Q' : D → AH → Prop} (q : rv r h Q) (m : ∀ d h, Q d h → Q' d h) : rv r h Q' := by
  cases r with
  | v d => exact m _ _ q
  | o x => exact fun a e => m _ _ (q a e)

/-- the object that is read -/
def ob (r : Rv) (h : AH) : Option AO := match r with
  | .v (.loc a) => h a
  | .o x => some x
  | _ => none
/-- the items of a list -/
def lsV (r : Rv) (h : AH) : Option (List D) := match r with
  | .v (.fl xs) => some xs
  | _ => match ob r h with
    | some (.lst xs) => some xs
    | _ => none
/-- .. of one that is not locked -/
def ltV (r : Rv) (h : AH) : Option (List D) := match ob r h with
  | some (.lst xs) => some xs
  | _ => none
/-- the items of a list or a tuple -/
def sqV (r : Rv) (h : AH) : Option (List D) := match r with
  | .v (.tup xs) => some xs
  | _ => lsV r h
def dcV (r : Rv) (h : AH) : Option (List (D × D)) := match ob r h with
  | some (.dct kvs) => some kvs
  | _ => none
def tru (r : Rv) (h : AH) : Option Bool := match r with
  | .v .non => some false
  | .v (.bl b) => some b
  | .v (.int i) => some (i != 0)
  | .v (.str s) => if s.length ≤ 16777216 then some (s.length != 0) else none
  | .v (.tup xs) => some (!xs.isEmpty)
  | _ => match ob r h with
    | some (.lst xs) => some (!xs.isEmpty)
    | some (.dct kvs) => some (!kvs.isEmpty)
    | none => none
def asInt (r : Rv) : Option Int := match r with
  | .v (.int i) => some i
  | _ => none
def asBool (r : Rv) : Option Bool := match r with
  | .v (.bl b) => some b
  | _ => none

/-! ### operators -/
inductive Bop | add | sub | mul | fdiv | mod | pow | shl | shr | band | bxor | bor
inductive Cop | eq | ne | lt | le | gt | ge | inn | nin
def mulOk (i j : Int) : Bool := (decide (-18446744073709551616 < i) && decide (i < 18446744073709551616)) || (decide (-18446744073709551616 < j) && decide (j < 18446744073709551616))
def wideOk (i j : Int) : Bool := decide (i.natAbs < 2 ^ 4000) && decide (j.natAbs < 2 ^ 4000)
def intOp (op : Bop) (i j : Int) : Option Int := match op with
  | .add => none
  | .sub => some (i - j)
  | .mul => none
  | .fdiv => if 0 < j ∧ j < 1073741824 then some (i / j) else none
  | .mod => if 0 < j then some (i % j) else none
  | .pow => if 0 ≤ j ∧ j ≤ 1000000 ∧ i.natAbs < 2 ^ 64 then some (i ^ j.toNat) else none
  | .shl => if 0 ≤ j ∧ j ≤ 1000000 ∧ i.natAbs < 2 ^ 64 then some (i * 2 ^ j.toNat) else none
  | .shr => if 0 ≤ j then some (i / 2 ^ j.toNat) else none
  | .band => some (PySem.Builtin.bitAnd i j)
  | .bxor => some (PySem.Builtin.bitXor i j)
  | .bor => some (PySem.Builtin.bitOr i j)
def rept (xs : List D) (k : Int) : List D := (List.replicate k.toNat xs).flatten
def addD (x y : Rv) (h : AH) : Option Rv := match x, y with
  | .v (.int i), .v (.int j) => some (.v (.int (i + j)))
  | .v (.str s), .v (.str t) => if s.length + t.length ≤ 16777216 then some (.v (.str (s ++ t))) else none
  | .v (.tup xs), .v (.tup ys) => if xs.length + ys.length ≤ 16777216 then some (.v (.tup (xs ++ ys))) else none
  | .v (.int i), .v (.bl b) => some (.v (.int (i + if b then 1 else 0)))
  | x, y => match ltV x h with
    | none => none
    | some xs => match ltV y h with
      | none => none
      | some ys => if xs.length + ys.length ≤ 16777216 then some (.o (.lst (xs ++ ys))) else none
def mulD (x y : Rv) (h : AH) : Option Rv := match y with
  | .v (.int k) => match x with
    | .v (.int i) => if mulOk i k || wideOk i k then some (.v (.int (i * k))) else none
    | .v (.tup xs) => if -9223372036854775808 ≤ k ∧ k < 9223372036854775808 ∧ xs.length * k.toNat ≤ 16777216 then some (.v (.tup (rept xs k))) else none
    | x => match ltV x h with
      | some xs => if -9223372036854775808 ≤ k ∧ k < 9223372036854775808 ∧ xs.length * k.toNat ≤ 16777216 then some (.o (.lst (rept xs k))) else none
      | none => none
  | _ => none
def binD (op : Bop) (x y : Rv) (h : AH) : Option Rv := match op with
  | .add => addD x y h
  | .mul => mulD x y h
  | op => match x with
    | .v (.int i) => match y with
      | .v (.int j) => match intOp op i j with
        | some k => some (.v (.int k))
        | none => none
      | _ => none
    | _ => none
/-- x op= y: the value and the heap -/
def augD (op : Bop) (x : D) (y : Rv) (h : AH) : Option (Rv × AH) := match x with
  | .loc a => match op with
    | .add => match h a with
      | some (.lst xs) => match ltV y h with
        | some ys => if xs.length + ys.length ≤ 16777216 then some (.v (.loc a), put h a (.lst (xs ++ ys))) else none
        | none => none
      | _ => none
    | _ => none
  | .int i => match y with
    | .v (.int j) => match op with
      | .add => some (.v (.int (i + j)), h)
      | .sub => some (.v (.int (i - j)), h)
      | _ => none
    | _ => none
  | .str s => match y with
    | .v (.str t) => match op with
      | .add => if s.length + t.length ≤ 16777216 then some (.v (.str (s ++ t)), h) else none
      | _ => none
    | _ => none
  | _ => none
def eqD (x y : Rv) (h : AH) : Option Bool := match x, y with
  | .v (.int i), .v (.int j) => some (decide (i = j))
  | .v (.str s), .v (.str t) => some (decide (s = t))
  | .v (.tup xs), .v (.tup ys) => if xs.all (pu 40) && ys.all (pu 40) then some (eqvs xs ys) else none
  | x, y => match lsV x h, lsV y h with
    | some xs, some ys => if xs.all (pu 40) && ys.all (pu 40) then some (eqvs xs ys) else none
    | none, none => match x, y with
      | .v d, .v e => if pu 40 d && pu 40 e then some (eqv d e) else none
      | _, _ => none
    | _, _ => none
def inD (x y : Rv) (h : AH) : Option Bool := match x with
  | .v d => match sqV y h with
    | some ys => if pu 40 d && ys.all (pu 40) then some (ys.any fun z => eqv z d) else none
    | none => match dcV y h with
      | some kvs => if pk 8 d then some (kvs.any fun p => eqv p.1 d) else none
      | none => none
  | _ => none
def cmpD (op : Cop) (x y : Rv) (h : AH) : Option Bool := match op with
  | .eq => eqD x y h
  | .ne => (eqD x y h).map (!·)
  | .inn => inD x y h
  | .nin => (inD x y h).map (!·)
  | .lt => match x, y with
    | .v (.int i), .v (.int j) => some (decide (i < j))
    | .v (.tup [.int a, .int b]), .v (.tup [.int c, .int d]) => some (decide (a < c ∨ (a = c ∧ b < d)))
    | _, _ => none
  | .le => match x, y with
    | .v (.int i), .v (.int j) => some (decide (i ≤ j))
    | _, _ => none
  | .gt => match x, y with
    | .v (.int i), .v (.int j) => some (decide (j < i))
    | _, _ => none
  | .ge => match x, y with
    | .v (.int i), .v (.int j) => some (decide (j ≤ i))
    | _, _ => none
/-- x is None, x is True, x is False -/
def isD (x : Rv) (c : D) : Option Bool := match c with
  | .non => match x with
    | .v .non => some true
    | _ => some false
  | .bl b => match x with
    | .v (.bl k) => some (k == b)
    | _ => none
  | _ => none

/-! ### items and slices -/
def ixN (n : Nat) (i : Int) : Option Nat :=
    if 0 ≤ i then (if i < n then some i.toNat else none) else if -(n : Int) ≤ i then some (i + n).toNat else none
def atI {α : Type} (xs : List α) (i : Int) : Option α := (ixN xs.length i).bind fun j =>
    xs[j]?
def look (kvs : List (D × D)) (k : D) : Option D := match kvs.find? fun p => eqv p.1 k with
  | some p => some p.2
  | none => none
def dput (kvs : List (D × D)) (k v : D) : List (D × D) := match kvs with
  | [] => [(k, v)]
  | p :: r => if eqv p.1 k then (p.1, v) :: r else p :: dput r k v
def ixD (x i : Rv) (h : AH) : Option D := match i with
  | .v k => match sqV x h with
    | some xs => match k with
      | .int j => atI xs j
      | _ => none
    | none => match dcV x h with
      | some kvs => if pk 8 k then look kvs k else none
      | none => match x, k with
        | .v (.str z), .int j => if z.length ≤ 16777216 then (atI z.cps.toList j).map fun c => .str ⟨#[c]⟩ else none
        | _, _ => none
  | _ => none
def sIx (n d : Nat) :
    Option Int → Nat
  | none => d
  | some v =>
      if v < 0 then (v + (n : Int)).toNat else min v.toNat n
def cut {α : Type} (xs : List α) (lo hi : Option Int) : List α := (xs.drop (sIx xs.length 0 lo)).take (sIx xs.length xs.length hi - sIx xs.length 0 lo)
def slD (x : Rv) (lo hi : Option Int) (h : AH) : Option Rv := match x with
  | .v (.tup xs) => some (.v (.tup (cut xs lo hi)))
  | x => match lsV x h with
    | some xs => some (.o (.lst (cut xs lo hi)))
    | none => none
/-- the items of xs[lo:hi:st], a list's -/
def pkL {α : Type} (st : Int) (lo hi : Option Int) (xs : List α) : List α := (PySem.sliceRange (PySem.sliceBounds lo hi (some st) xs.length).1 (PySem.sliceBounds lo hi (some st) xs.length).2.1 (PySem.sliceBounds lo hi (some st) xs.length).2.2).filterMap fun k => xs[k]?
/-- .. a tuple's -/
def pkT {α : Type} (st : Int) (lo hi : Option Int) (xs : List α) : List α := ((List.range (PySem.Builtin.Slice.slicePlaces (PySem.Builtin.Slice.sliceAdjust lo hi st xs.length).1 (PySem.Builtin.Slice.sliceAdjust lo hi st xs.length).2 st)).map fun (k : Nat) => ((PySem.Builtin.Slice.sliceAdjust lo hi st xs.length).1 + (k : Int) * st).toNat).filterMap fun k => xs[k]?
/-- a[lo:hi:st] -/
def slsD (x : Rv) (lo hi : Option Int) (st : Int) (h : AH) : Option Rv := match x with
  | .v (.tup xs) => if (pkT st lo hi xs).length ≤ 16777216 then some (.v (.tup (pkT st lo hi xs))) else none
  | x => match lsV x h with
    | some xs => if (pkL st lo hi xs).length ≤ 16777216 then some (.o (.lst (pkL st lo hi xs))) else none
    | none => none
def setD (o i d : D) (h : AH) : Option AH := match o with
  | .loc a => match h a with
    | some (.lst xs) => match i with
      | .int k => (ixN xs.length k).map fun j => put h a (.lst (xs.set j d))
      | _ => none
    | some (.dct kvs) => if pk 8 i ∧ kvs.length < 16777216 then some (put h a (.dct (dput kvs i d))) else none
    | _ => none
  | _ => none

/-! ### built-ins and methods -/
inductive Ty | int | bool | str | tup
inductive Bi | len | int | bool | str | tup | lst | abs | any | all | sum | min | max | sorted | lens | sset | isa (t : Ty)
inductive B2 | min | max
inductive Mt | append | pop | popi | index | reverse | extend | get | get2 | insert | count
def intsL : List D → Option (List Int)
  | [] => some []
  | .int i :: r => (intsL r).map (i :: ·)
  | _ :: _ => none
def blsL : List D → Option (List Bool)
  | [] => some []
  | .bl b :: r => (blsL r).map (b :: ·)
  | _ :: _ => none
def maxI : List Int → Option Int
  | [] => none
  | i :: r => some (r.foldl (fun m x => if m < x then x else m) i)
def minI : List Int → Option Int
  | [] => none
  | i :: r => some (r.foldl (fun m x => if x < m then x else m) i)
def insI (x : Int) :
    List Int → List Int
  | [] => [x]
  | y :: r => if x ≤ y then x :: y :: r else y :: insI x r
def sortI : List Int → List Int
  | [] => []
  | x :: r => insI x (sortI r)
def isTy (x : Rv) (t : Ty) (h : AH) : Option Bool := match x with
  | .v .non => some false
  | .v (.bl _) => some (match t with | .bool => true | .int => true | _ => false)
  | .v (.int _) => some (match t with | .int => true | _ => false)
  | .v (.str _) => some (match t with | .str => true | _ => false)
  | .v (.tup _) => some (match t with | .tup => true | _ => false)
  | x => match lsV x h with
    | some _ => some false
    | none => none
/-- unlike ints, in order -/
def ddI (ns : List Int) : List Int := ns.foldl (fun acc x => if acc.any (· == x) then acc else acc ++ [x]) []
/-- sorted(set(..)) -/
def ssetI (xs : List D) : Option Rv := (intsL xs).bind fun ns => if ns.length < 64 then some (.o (.lst ((sortI (ddI ns)).map D.int))) else none
/-- len(set(..)) -/
def lensI (xs : List D) : Option Rv := (intsL xs).bind fun ns => if ns.length < 4000 then some (.v (.int (ddI ns).length)) else none
def b1D (b : Bi) (x : Rv) (h : AH) : Option Rv := match b with
  | .lens => match x with
    | .v (.tup xs) => lensI xs
    | x => match lsV x h with
      | some xs => lensI xs
      | none => none
  | .len => match sqV x h with
    | some xs => some (.v (.int xs.length))
    | none => match dcV x h with
      | some kvs => some (.v (.int kvs.length))
      | none => match x with
        | .v (.str s) => if s.length ≤ 16777216 then some (.v (.int s.length)) else none
        | _ => none
  | .int => match x with
    | .v (.int i) => some (.v (.int i))
    | .v (.bl b) => some (.v (.int (if b then 1 else 0)))
    | _ => none
  | .bool => match x with
    | .v (.int i) => some (.v (.bl (i != 0)))
    | .v (.bl b) => some (.v (.bl b))
    | _ => none
  | .str => match x with
    | .v (.int i) => if i.natAbs.log2 < 1920 then some (.v (.str (toString i))) else none
    | _ => none
  | .tup => (sqV x h).map fun xs => .v (.tup xs)
  | .lst => (sqV x h).map fun xs => .o (.lst xs)
  | .abs => match x with
    | .v (.int i) => some (.v (.int (if i < 0 then -i else i)))
    | _ => none
  | .any => match lsV x h with
    | some xs => (blsL xs).map fun bs => .v (.bl (bs.any id))
    | none => none
  | .all => match lsV x h with
    | some xs => (blsL xs).map fun bs => .v (.bl (bs.all id))
    | none => none
  | .sum => match lsV x h with
    | some xs => (intsL xs).map fun ns => .v (.int ns.sum)
    | none => none
  | .min => match lsV x h with
    | some xs => ((intsL xs).bind minI).map fun m => .v (.int m)
    | none => none
  | .max => match lsV x h with
    | some xs => ((intsL xs).bind maxI).map fun m => .v (.int m)
    | none => none
  | .sorted => match lsV x h with
    | some xs => (intsL xs).map fun ns => .o (.lst ((sortI ns).map D.int))
    | none => none
  | .sset => match lsV x h with
    | some xs => ssetI xs
    | none => none
  | .isa t => (isTy x t h).map fun b => .v (.bl b)
def b2D (b : B2) (x y : D) : Option D := match b, x, y with
  | .min, .int i, .int j => some (.int (if j < i then j else i))
  | .max, .int i, .int j => some (.int (if i < j then j else i))
  | _, _, _ => none
def idx (ys : List D) (x : D) : Option Nat := ys.findIdx? fun z => eqv z x
/-- the list that a method is called of -/
def mLs (o : Rv) (h : AH) (k : Nat → List D → Option (Rv × AH)) : Option (Rv × AH) := match o with
  | .v (.loc a) => match h a with
    | some (.lst xs) => k a xs
    | _ => none
  | _ => none
def mtD (m : Mt) (o : Rv) (es : List D) (h : AH) : Option (Rv × AH) := match m with
  | .append => mLs o h fun a xs => match es with
    | [x] => if xs.length < 16777216 then some (.v .non, put h a (.lst (xs ++ [x]))) else none
    | _ => none
  | .pop => mLs o h fun a xs => match es with
    | [] => match xs[xs.length - 1]? with
      | some y => some (.v y, put h a (.lst xs.dropLast))
      | none => none
    | _ => none
  | .popi => mLs o h fun a xs => match es with
    | [i] => match asInt (.v i) with
      | some i => if -9223372036854775808 ≤ i ∧ i < 9223372036854775808 then (match ixN xs.length i with
        | some k => match xs[k]? with
          | some y => some (.v y, put h a (.lst (xs.eraseIdx k)))
          | none => none
        | none => none) else none
      | none => none
    | _ => none
  | .insert => mLs o h fun a xs => match es with
    | [i, x] => match asInt (.v i) with
      | some i => if 0 ≤ i ∧ i < 9223372036854775808 ∧ xs.length < 16777216 then some (.v .non, put h a (.lst (xs.take i.toNat ++ [x] ++ xs.drop i.toNat))) else none
      | none => none
    | _ => none
  | .reverse => mLs o h fun a xs => match es with
    | [] => some (.v .non, put h a (.lst xs.reverse))
    | _ => none
  | .extend => mLs o h fun a xs => match es with
    | [b] => match ltV (.v b) h with
      | some ys => if xs.length + ys.length ≤ 16777216 then some (.v .non, put h a (.lst (xs ++ ys))) else none
      | none => none
    | _ => none
  | .index => match es with
    | [x] => match sqV o h with
      | some ys => if pu 40 x && ys.all (pu 40) then (match idx ys x with
        | some j => some (.v (.int j), h)
        | none => none) else none
      | none => none
    | _ => none
  | .count => none
  | .get => match es with
    | [k] => match dcV o h with
      | some kvs => if pk 8 k then some (.v ((look kvs k).getD .non), h) else none
      | none => none
    | _ => none
  | .get2 => match es with
    | [k, d] => match dcV o h with
      | some kvs => if pk 8 k then some (.v ((look kvs k).getD d), h) else none
      | none => none
    | _ => none

/-! ### syntax -/
mutual
inductive Ex where
  | lit (d : D) | var (i : Nat) | glo (x : Str)
  | bin (op : Bop) (a b : Ex) | cmp (op : Cop) (a b : Ex) | chain (o1 o2 : Cop) (a b c : Ex) | isc (neg : Bool) (a : Ex) (c : D)
  | and (a b : Ex) | or (a b : Ex) | not (a : Ex) | neg (a : Ex) | ite (c a b : Ex)
  | tup (es : Es) | lst (es : Es) | dct
  | call (f : Str) (es : Es) | callv (i : Nat) (es : Es)
  | b1 (b : Bi) (a : Ex) | b2 (b : B2) (a c : Ex) | mt (m : Mt) (o : Ex) (es : Es)
  | ix (a i : Ex) | sl (a : Ex) (lo hi : Oe) | sls (a : Ex) (lo hi : Oe) (st : Int) | rng (t : Bool) (it : It)
  | comp (t : Tg) (it : It) (own : List Nat) (e : Ex) | compi (t : Tg) (it : It) (own : List Nat) (c e : Ex)
  | comp2 (t : Tg) (it : It) (own : List Nat) (t1 : Tg) (it1 : It) (own1 : List Nat) (e : Ex)
inductive Es where
  | nil | cons (e : Ex) (es : Es)
inductive Oe where
  | no | so (e : Ex)
inductive It where
  | seq (e : Ex) | rng1 (a : Ex) | rng2 (a b : Ex) | rng3 (a b c : Ex)
inductive Tg where
  | nm (i : Nat) | tp (ts : Tgs)
inductive Tgs where
  | nil | cons (t : Tg) (ts : Tgs)
end
mutual
inductive St where
  | asg (t : Tg) (e : Ex) | set (o i e : Ex) | aug (i : Nat) (op : Bop) (e : Ex) | expr (e : Ex)
  | ifs (c : Ex) (a b : Sts) | whl (c : Ex) (b : Sts) | for_ (t : Tg) (it : It) (b : Sts)
  | ret (e : Ex) | retn | rais (c : Str) | tryx (b : Sts) (c : Str) (d : D) | tryi (b : Sts) (c : Str) (ts : List (Bool × Str)) | pass | brk | cnt
inductive Sts where
  | nil | cons (s : St) (r : Sts)
end
/-- a def: its parameters' number, its slots' number, its body -/
structure Fn where
  np : Nat
  nn : Nat
  body : Sts

/-! ### what is wanted -/
abbrev Env := List (Option D)
abbrev Xc := Str → AH → Prop
abbrev Cal := Str → List D → AH → (D → AH → Prop) → Xc → Prop
def noX : Xc := fun _ _ => False
/-- what is walked -/
inductive Src where
  | fix (xs : List D)
  | lst (a : Nat) (xs : List D)
def Src.items : Src → List D
  | .fix xs => xs
  | .lst _ xs => xs
def Src.chk : Src → AH → Prop
  | .fix _, _ => True
  | .lst a xs, h => h a = some (.lst xs)
def srcOf (r : Rv) (h : AH) : Option Src := match r with
  | .v (.tup xs) => some (.fix xs)
  | .v (.fl xs) => some (.fix xs)
  | .v (.loc a) => match h a with
    | some (.lst xs) => some (.lst a xs)
    | _ => none
  | .o (.lst xs) => some (.fix xs)
  | _ => none
def rngL (lo : Int) (n : Nat) : List D := (List.range n).map fun (i : Nat) => D.int (lo + i)
def rngLC (lo c : Int) (n : Nat) : List D := (List.range n).map fun (i : Nat) => D.int (lo + i * c)
def stepOk (s : Int) : Bool := decide (s ≠ 0) && decide (-1073741824 < s) && decide (s < 1073741824)
def small62 (i : Int) : Bool := decide (-4611686018427387904 ≤ i) && decide (i < 4611686018427387904)
/-- how many turns range(i, j, c) has -/
def rngN (i j c : Int) : Nat := (PySem.Builtin.Range.rangeSize i j c).toNat
def wipe (env : Env) : List Nat → Env
  | [] => env
  | v :: vs => (wipe env vs).set v none
def lk (env : Env) (i : Nat) : Option D := match env[i]? with
  | some (some d) => some d
  | _ => none
abbrev TX := Env → AH → (Rv → AH → Prop) → Xc → Prop
abbrev TEs := Env → AH → (List D → AH → Prop) → Xc → Prop
abbrev TO := Env → AH → (Option Int → AH → Prop) → Xc → Prop
abbrev TI := Env → AH → (Src → AH → Prop) → Xc → Prop
abbrev TG := D → Env → AH → (Env → AH → Prop) → Prop
abbrev TGs := List D → Env → AH → (Env → AH → Prop) → Prop
/-- here: what is wanted behind a statement -/
structure Ks where
  nx : Env → AH → Prop
  rt : D → AH → Prop
  bk : Env → AH → Prop
  ct : Env → AH → Prop
  ex : Env → Xc
abbrev TS := Env → AH → Ks → Prop
def gNm (i : Nat) : TG := fun d env h k => k (env.set i (some d)) h
def gTp (t : TGs) : TG := fun d env h k => gd (sqV (.v d) h) fun xs => t xs env h k
def gNil : TGs := fun xs env h k => xs = [] ∧ k env h
def gCons (t : TG) (u : TGs) : TGs := fun xs env h k => match xs with
  | [] => False
  | x :: r => t x env h fun env1 h1 => u r env1 h1 k
mutual
def wTg : Tg → TG
  | .nm i => gNm i
  | .tp ts => gTp (wTgs ts)
def wTgs : Tgs → TGs
  | .nil => gNil
  | .cons t ts => gCons (wTg t) (wTgs ts)
end
/-- a comprehension's turns -/
def wComp (chk : AH → Prop) (step : D → AH → (Option D → AH → Prop) → Prop) : List D → List D → AH → (List D → AH → Prop) → Prop
  | [], acc, h, Q => chk h ∧ Q acc h
  | x :: r, acc, h, Q => chk h ∧ step x h fun o h1 => match o with
    | none => wComp chk step r acc h1 Q
    | some y => acc.length < 16777216 ∧ wComp chk step r (acc ++ [y]) h1 Q
/-- .. of two clauses -/
def wComp2 (chk : AH → Prop) (step : D → List D → AH → (List D → AH → Prop) → Prop) : List D → List D → AH → (List D → AH → Prop) → Prop
  | [], acc, h, Q => chk h ∧ Q acc h
  | x :: r, acc, h, Q => chk h ∧ step x acc h fun acc1 h1 => wComp2 chk step r acc1 h1 Q
def wFor (chk : AH → Prop) (bd : D → Env → AH → (Env → AH → Prop) → Prop) (nx : Env → AH → Prop) : List D → Env → AH → Prop
  | [], env, h => chk h ∧ nx env h
  | x :: r, env, h => chk h ∧ bd x env h fun env1 h1 => wFor chk bd nx r env1 h1

/-! ### expressions -/
def xLit (d : D) : TX := fun env h Q X => Q (.v d) h
def xVar (i : Nat) : TX := fun env h Q X => gd (lk env i) fun d => Q (.v d) h
def xGlo (G : Str → Option D) (x : Str) : TX := fun env h Q X => gd (G x) fun d => Q (.v d) h
def xBin (op : Bop) (a b : TX) : TX := fun env h Q X => a env h (fun x h1 => b env h1 (fun y h2 => gd (binD op x y h2) fun r => Q r h2) X) X
def xCmp (op : Cop) (a b : TX) : TX := fun env h Q X => a env h (fun x h1 => b env h1 (fun y h2 => gd (cmpD op x y h2) fun k => Q (.v (.bl k)) h2) X) X
def xChain (o1 o2 : Cop) (a b c : TX) : TX := fun env h Q X => a env h (fun x h1 => b env h1 (fun y h2 => gd (cmpD o1 x y h2) fun k =>
  if k = true then c env h2 (fun z h3 => gd (cmpD o2 y z h3) fun k2 => Q (.v (.bl k2)) h3) X else Q (.v (.bl false)) h2) X) X
def xIsc (neg : Bool) (a : TX) (c : D) : TX := fun env h Q X => a env h (fun x h1 => gd (isD x c) fun k => Q (.v (.bl (k != neg))) h1) X
def xAnd (a b : TX) : TX := fun env h Q X => a env h (fun x h1 => gd (tru x h1) fun k => if k = true then b env h1 Q X else Q x h1) X
def xOr (a b : TX) : TX := fun env h Q X => a env h (fun x h1 => gd (tru x h1) fun k => if k = true then Q x h1 else b env h1 Q X) X
def xNot (a : TX) : TX := fun env h Q X => a env h (fun x h1 => gd (tru x h1) fun k => Q (.v (.bl (!k))) h1) X
def xNeg (a : TX) : TX := fun env h Q X => a env h (fun x h1 => gd (asInt x) fun i => Q (.v (.int (-i))) h1) X
def xIte (c a b : TX) : TX := fun env h Q X => c env h (fun x h1 => gd (tru x h1) fun k => if k = true then a env h1 Q X else b env h1 Q X) X
def xTup (es : TEs) : TX := fun env h Q X => es env h (fun ds h1 => ds.length ≤ 16777216 ∧ Q (.v (.tup ds)) h1) X
def xLst (es : TEs) : TX := fun env h Q X => es env h (fun ds h1 => ds.length ≤ 16777216 ∧ Q (.o (.lst ds)) h1) X
def xDct : TX := fun env h Q X => Q (.o (.dct [])) h
def xCall (cal : Cal) (f : Str) (es : TEs) : TX := fun env h Q X => es env h (fun ds h1 => cal f ds h1 (fun d h2 => Q (.v d) h2) X) X
def asFn (d : D) : Option Str := match d with
  | .fn f => some f
  | _ => none
def isFn (G : Str → Option D) (f : Str) : Prop := (G f).bind asFn = some f
def xCallv (cal : Cal) (G : Str → Option D) (i : Nat) (es : TEs) : TX := fun env h Q X => gd ((lk env i).bind asFn) fun f => isFn G f ∧ es env h (fun ds h1 => cal f ds h1 (fun d h2 => Q (.v d) h2) X) X
def xB1 (b : Bi) (a : TX) : TX := fun env h Q X => a env h (fun x h1 => gd (b1D b x h1) fun r => Q r h1) X
def xB2 (b : B2) (a c : TX) : TX := fun env h Q X => a env h (fun x h1 => rv x h1 fun x1 h2 => c env h2 (fun y h3 => rv y h3 fun y1 h4 => gd (b2D b x1 y1) fun r => Q (.v r) h4) X) X
def mtChk (m : Mt) (x : Rv) (h : AH) : Bool := match m with
  | .index => (sqV x h).isSome
  | .count => (sqV x h).isSome
  | .get => (dcV x h).isSome
  | .get2 => (dcV x h).isSome
  | _ => (ltV x h).isSome
def xMt (m : Mt) (o : TX) (es : TEs) : TX := fun env h Q X => o env h (fun x h1 => mtChk m x h1 = true ∧ es env h1 (fun ds h2 => gd (mtD m x ds h2) fun p => Q p.1 p.2) X) X
def xIx (a i : TX) : TX := fun env h Q X => a env h (fun x h1 => i env h1 (fun y h2 => gd (ixD x y h2) fun d => Q (.v d) h2) X) X
def xSl (a : TX) (lo hi : TO) : TX := fun env h Q X => a env h (fun x h1 => lo env h1 (fun l h2 => hi env h2 (fun u h3 => gd (slD x l u h3) fun r => Q r h3) X) X) X
def xSls (a : TX) (lo hi : TO) (st : Int) : TX := fun env h Q X => a env h (fun x h1 => lo env h1 (fun l h2 => hi env h2 (fun u h3 => gd (slsD x l u st h3) fun r => Q r h3) X) X) X
def xRng (t : Bool) (it : TI) : TX := fun env h Q X => it env h (fun s h1 => s.items.length ≤ 16777216 ∧ Q (if t = true then .v (.tup s.items) else .o (.lst s.items)) h1) X
def stepC (t : TG) (env : Env) (own : List Nat) (e : TX) : D → AH → (Option D → AH → Prop) → Prop := fun x h k => t x (wipe env own) h fun env2 h3 => e env2 h3 (fun r h4 => rv r h4 fun d h5 => k (some d) h5) noX
def stepCi (t : TG) (env : Env) (own : List Nat) (c e : TX) : D → AH → (Option D → AH → Prop) → Prop := fun x h k => t x (wipe env own) h fun env2 h3 =>
  c env2 h3 (fun b h4 => gd (tru b h4) fun b => if b = true then e env2 h4 (fun r h5 => rv r h5 fun d h6 => k (some d) h6) noX else k none h4) noX
def xComp (t : TG) (it : TI) (own : List Nat) (e : TX) : TX := fun env h Q X => it env h (fun s h1 => wComp s.chk (stepC t env own e) s.items [] h1 fun acc h2 => Q (.o (.lst acc)) h2) X
def xCompi (t : TG) (it : TI) (own : List Nat) (c e : TX) : TX := fun env h Q X => it env h (fun s h1 => wComp s.chk (stepCi t env own c e) s.items [] h1 fun acc h2 => Q (.o (.lst acc)) h2) X
def stepC2 (t : TG) (env : Env) (own : List Nat) (t1 : TG) (it1 : TI) (own1 : List Nat) (e : TX) : D → List D → AH → (List D → AH → Prop) → Prop := fun x acc h k => t x (wipe env own) h fun env2 h3 =>
  it1 env2 h3 (fun s1 h4 => wComp s1.chk (stepC t1 env2 own1 e) s1.items acc h4 k) noX
def xComp2 (t : TG) (it : TI) (own : List Nat) (t1 : TG) (it1 : TI) (own1 : List Nat) (e : TX) : TX := fun env h Q X => it env h (fun s h1 => wComp2 s.chk (stepC2 t env own t1 it1 own1 e) s.items [] h1 fun acc h2 => Q (.o (.lst acc)) h2) X
def esNil : TEs := fun env h Q X => Q [] h
def esCons (e : TX) (es : TEs) : TEs := fun env h Q X => e env h (fun r h1 => rv r h1 fun d h2 => es env h2 (fun ds h3 => Q (d :: ds) h3) X) X
def oNo : TO := fun env h Q X => Q none h
def oSo (e : TX) : TO := fun env h Q X => e env h (fun r h1 => gd (asInt r) fun i => Q (some i) h1) X
def iSeq (e : TX) : TI := fun env h Q X => e env h (fun r h1 => gd (srcOf r h1) fun s => Q s h1) X
def iR1 (a : TX) : TI := fun env h Q X => a env h (fun r h1 => gd (asInt r) fun j => small62 j = true ∧ Q (.fix (rngL 0 j.toNat)) h1) X
def iR2 (a b : TX) : TI := fun env h Q X => a env h (fun r h1 => gd (asInt r) fun i => b env h1 (fun r2 h2 => gd (asInt r2) fun j => (small62 i && small62 j) = true ∧ Q (.fix (rngL i (j - i).toNat)) h2) X) X
def iR3 (a b c : TX) : TI := fun env h Q X => a env h (fun r h1 => gd (asInt r) fun i => b env h1 (fun r2 h2 => gd (asInt r2) fun j => c env h2 (fun r3 h3 => gd (asInt r3) fun s =>
  (small62 i && small62 j && stepOk s) = true ∧ Q (.fix (rngLC i s (rngN i j s))) h3) X) X) X
section
variable (cal : Cal) (G : Str → Option D)
mutual
def wX : Ex → TX
  | .lit d => xLit d
  | .var i => xVar i
  | .glo x => xGlo G x
  | .bin op a b => xBin op (wX a) (wX b)
  | .cmp op a b => xCmp op (wX a) (wX b)
  | .chain o1 o2 a b c => xChain o1 o2 (wX a) (wX b) (wX c)
  | .isc neg a c => xIsc neg (wX a) c
  | .and a b => xAnd (wX a) (wX b)
  | .or a b => xOr (wX a) (wX b)
  | .not a => xNot (wX a)
  | .neg a => xNeg (wX a)
  | .ite c a b => xIte (wX c) (wX a) (wX b)
  | .tup es => xTup (wEs es)
  | .lst es => xLst (wEs es)
  | .dct => xDct
  | .call f es => xCall cal f (wEs es)
  | .callv i es => xCallv cal G i (wEs es)
  | .b1 b a => xB1 b (wX a)
  | .b2 b a c => xB2 b (wX a) (wX c)
  | .mt m o es => xMt m (wX o) (wEs es)
  | .ix a i => xIx (wX a) (wX i)
  | .sl a lo hi => xSl (wX a) (wO lo) (wO hi)
  | .sls a lo hi st => xSls (wX a) (wO lo) (wO hi) st
  | .rng t it => xRng t (wI it)
  | .comp t it own e => xComp (wTg t) (wI it) own (wX e)
  | .compi t it own c e => xCompi (wTg t) (wI it) own (wX c) (wX e)
  | .comp2 t it own t1 it1 own1 e => xComp2 (wTg t) (wI it) own (wTg t1) (wI it1) own1 (wX e)
def wEs : Es → TEs
  | .nil => esNil
  | .cons e es => esCons (wX e) (wEs es)
def wO : Oe → TO
  | .no => oNo
  | .so e => oSo (wX e)
def wI : It → TI
  | .seq e => iSeq (wX e)
  | .rng1 a => iR1 (wX a)
  | .rng2 a b => iR2 (wX a) (wX b)
  | .rng3 a b c => iR3 (wX a) (wX b) (wX c)
end
end
/-! ### statements -/
def tE (a : TX) : Env → AH → (D → AH → Prop) → Xc → Prop := fun env h Q X => a env h (fun r h1 => rv r h1 Q) X
def tT (a : TX) : Env → AH → (Bool → AH → Prop) → Xc → Prop := fun env h Q X => a env h (fun r h1 => gd (tru r h1) fun k => Q k h1) X
def sAsg (t : TG) (e : TX) : TS := fun env h K => tE e env h (fun d h1 => t d env h1 K.nx) (K.ex env)
def sSet (o i e : TX) : TS := fun env h K => tE e env h (fun d h1 => tE o env h1 (fun a h2 => tE i env h2 (fun k h3 => gd (setD a k d h3) fun h4 => K.nx env h4) (K.ex env)) (K.ex env)) (K.ex env)
def sAug (i : Nat) (op : Bop) (e : TX) : TS := fun env h K => gd (lk env i) fun x => e env h (fun r h1 => gd (augD op x r h1) fun p => rv p.1 p.2 fun d h2 => K.nx (env.set i (some d)) h2) (K.ex env)
def sExpr (e : TX) : TS := fun env h K => e env h (fun _ h1 => K.nx env h1) (K.ex env)
def sIf (c : TX) (a b : TS) : TS := fun env h K => tT c env h (fun k h1 => if k = true then a env h1 K else b env h1 K) (K.ex env)
def Ks.turn (K : Ks) (n : Env → AH → Prop) : Ks := ⟨n, K.rt, K.nx, n, K.ex⟩
def Ks.then (K : Ks) (n : Env → AH → Prop) : Ks := ⟨n, K.rt, K.bk, K.ct, K.ex⟩
def sWhl (c : TX) (b : TS) : TS := fun env h K => ∃ W : Nat → Env → AH → Prop, (∃ m, W m env h) ∧ ∀ m env h, W m env h → tT c env h (fun k h1 =>
  if k = true then b env h1 (K.turn fun env1 h2 => ∃ m', m' < m ∧ W m' env1 h2) else K.nx env h1) (K.ex env)
def bdF (t : TG) (b : TS) (K : Ks) : D → Env → AH → (Env → AH → Prop) → Prop := fun x env h k => t x env h fun env3 h3 => b env3 h3 (K.turn k)
def sFor (t : TG) (it : TI) (b : TS) : TS := fun env h K => it env h (fun s h1 => wFor s.chk (bdF t b K) K.nx s.items env h1) (K.ex env)
def sRet (e : TX) : TS := fun env h K => tE e env h K.rt (K.ex env)
def sRetn : TS := fun env h K => K.rt .non h
def sRais (c : Str) : TS := fun env h K => K.ex env c h
def sTry (Sub : Str → Str → Option Bool) (b : TS) (c : Str) (d : D) : TS := fun env h K => b env h ⟨K.nx, K.rt, K.bk, K.ct, fun env1 x h1 => gd (Sub x c) fun k => if k = true then K.rt d h1 else K.ex env1 x h1⟩
/-- the name by which isinstance asks for a class -/
def isaN (t : Str) : Str := ⟨(61 :: t.cps.toList).toArray⟩
def isI (c : Str) : Bool := c.cps.toList.head? == some 61
def unN (c : Str) : Str := ⟨c.cps.toList.tail.toArray⟩
theorem isI_N (t : Str) : isI (isaN t) = true := by simp [isI, isaN]
theorem unN_N (t : Str) : unN (isaN t) = t := by simp [unN, isaN]
/-- isinstance(e, t) and .. and not isinstance(e, u): the words g tell which is asked for -/
def isaAll (Sub : Str → Str → Option Bool) (x : Str) : List (Bool × Str) → Option Bool
  | [] => some true
  | (g, t) :: r => (Sub x (isaN t)).bind fun b => if b = g then isaAll Sub x r else some false
def sTryi (Sub : Str → Str → Option Bool) (b : TS) (c : Str) (ts : List (Bool × Str)) : TS := fun env h K => b env h ⟨K.nx, K.rt, K.bk, K.ct, fun env1 x h1 => gd (Sub x c) fun k => if k = true then gd (isaAll Sub x ts) fun v => K.rt (.bl v) h1 else K.ex env1 x h1⟩
def sPass : TS := fun env h K => K.nx env h
def sBrk : TS := fun env h K => K.bk env h
def sCnt : TS := fun env h K => K.ct env h
def bCons (s r : TS) : TS := fun env h K => s env h (K.then fun env1 h1 => r env1 h1 K)
section
variable (cal : Cal) (G : Str → Option D) (Sub : Str → Str → Option Bool)
mutual
def wS : St → TS
  | .asg t e => sAsg (wTg t) (wX cal G e)
  | .set o i e => sSet (wX cal G o) (wX cal G i) (wX cal G e)
  | .aug i op e => sAug i op (wX cal G e)
  | .expr e => sExpr (wX cal G e)
  | .ifs c a b => sIf (wX cal G c) (wB a) (wB b)
  | .whl c b => sWhl (wX cal G c) (wB b)
  | .for_ t it b => sFor (wTg t) (wI cal G it) (wB b)
  | .ret e => sRet (wX cal G e)
  | .retn => sRetn
  | .rais c => sRais c
  | .tryx b c d => sTry Sub (wB b) c d
  | .tryi b c ts => sTryi Sub (wB b) c ts
  | .pass => sPass
  | .brk => sBrk
  | .cnt => sCnt
def wB : Sts → TS
  | .nil => sPass
  | .cons s r => bCons (wS s) (wB r)
end
end
/-- the program: its defs, the constants of its top, which class of exceptions is below which -/
structure Prog where
  fn : Str → Option Fn
  gl : Str → Option D
  sub : Str → Str → Option Bool
def start (n : Nat) (ds : List D) : Env := ds.map some ++ List.replicate (n - ds.length) none
def ksOf (Q : D → AH → Prop) (X : Xc) : Ks := ⟨fun _ h => Q .non h, Q, fun _ _ => False, fun _ _ => False, fun _ => X⟩
/-- a part of the heap -/
def Sub (h' h : AH) : Prop := ∀ a o, h' a = some o → h a = some o
/-- what is wanted of a part of the heap: the rest is forgotten -/
def someQ (Q : D → AH → Prop) : D → AH → Prop := fun d h => ∃ h', Sub h' h ∧ Q d h'
def someX (X : Xc) : Xc := fun c h => ∃ h', Sub h' h ∧ X c h'
/-- a call, by at most n levels -/
def wC (P : Prog) : Nat → Cal
  | 0 => fun _ _ _ _ _ => False
  | n + 1 => fun f ds h Q X => gd (P.fn f) fun c => ds.length = c.np ∧ wB (wC P n) P.gl P.sub c.body (start c.nn ds) h (ksOf (someQ Q) (someX X))
end Py
namespace Py
open PySem (Str)
def Mono (cal : Cal) : Prop := ∀ f ds h (Q Q' : D → AH → Prop) (X X' : Xc), (∀ d h, Q d h → Q' d h) → (∀ c h, X c h → X' c h) → cal f ds h Q X → cal f ds h Q' X'
def MX (t : TX) : Prop := ∀ env h (Q Q' : Rv → AH → Prop) (X X' : Xc), (∀ r h, Q r h → Q' r h) → (∀ c h, X c h → X' c h) → t env h Q X → t env h Q' X'
def MEs (t : TEs) : Prop := ∀ env h (Q Q' : List D → AH → Prop) (X X' : Xc), (∀ r h, Q r h → Q' r h) → (∀ c h, X c h → X' c h) → t env h Q X → t env h Q' X'
def MO (t : TO) : Prop := ∀ env h (Q Q' : Option Int → AH → Prop) (X X' : Xc), (∀ r h, Q r h → Q' r h) → (∀ c h, X c h → X' c h) → t env h Q X → t env h Q' X'
def MI (t : TI) : Prop := ∀ env h (Q Q' : Src → AH → Prop) (X X' : Xc), (∀ r h, Q r h → Q' r h) → (∀ c h, X c h → X' c h) → t env h Q X → t env h Q' X'
def MG (t : TG) : Prop := ∀ d env h (k k' : Env → AH → Prop), (∀ e h, k e h → k' e h) → t d env h k → t d env h k'
def MGs (t : TGs) : Prop := ∀ d env h (k k' : Env → AH → Prop), (∀ e h, k e h → k' e h) → t d env h k → t d env h k'
theorem rv_mono {r : Rv} {h : AH} {Q Q' : D → AH → Prop} (m : ∀ d h, Q d h → Q' d h) (q : rv r h Q) : rv r h Q' := q.mono m
theorem gd_mono {α : Type} {o : Option α} {k k' : α → Prop} (m : ∀ a, k a → k' a) (h : gd o k) : gd o k' := h.mono m
theorem ite_mono {c : Prop} [Decidable c] {a b a' b' : Prop} (h1 : a → a') (h2 : b → b') (q : if c then a else b) : if c then a' else b' := by
  split at q
  · rw [if_pos (by assumption)]; exact h1 q
  · rw [if_neg (by assumption)]; exact h2 q
mutual
theorem mTg : ∀ t : Tg, MG (wTg t)
  | .nm i => fun d env h k k' m q => m _ _ q
  | .tp ts => fun d env h k k' m q => gd_mono (fun xs q => mTgs ts xs env h k k' m q) q
theorem mTgs : ∀ t : Tgs, MGs (wTgs t)
  | .nil => fun d env h k k' m q => ⟨q.1, m _ _ q.2⟩
  | .cons t ts => fun xs env h k k' m q => by
    cases xs with
    | nil => exact q
    | cons x r => exact mTg t x env h _ _ (fun e h q => mTgs ts r e h k k' m q) q
end
theorem wComp_mono {chk : AH → Prop} {step step' : D → AH → (Option D → AH → Prop) → Prop} (hs : ∀ x h k k', (∀ o h, k o h → k' o h) → step x h k → step' x h k') :
    ∀ (xs acc : List D) (h : AH) (Q Q' : List D → AH → Prop), (∀ a h, Q a h → Q' a h) → wComp chk step xs acc h Q → wComp chk step' xs acc h Q'
  | [], acc, h, Q, Q', m, q => ⟨q.1, m _ _ q.2⟩
  | x :: r, acc, h, Q, Q', m, q => by
    refine ⟨q.1, hs x h _ _ (fun o h1 q => ?_) q.2⟩
    cases o with
    | none => exact wComp_mono hs r acc h1 Q Q' m q
    | some y => exact ⟨q.1, wComp_mono hs r _ h1 Q Q' m q.2⟩
theorem wComp2_mono {chk : AH → Prop} {step step' : D → List D → AH → (List D → AH → Prop) → Prop} (hs : ∀ x a h k k', (∀ o h, k o h → k' o h) → step x a h k → step' x a h k') :
    ∀ (xs acc : List D) (h : AH) (Q Q' : List D → AH → Prop), (∀ a h, Q a h → Q' a h) → wComp2 chk step xs acc h Q → wComp2 chk step' xs acc h Q'
  | [], acc, h, Q, Q', m, q => ⟨q.1, m _ _ q.2⟩
  | x :: r, acc, h, Q, Q', m, q => ⟨q.1, hs x acc h _ _ (fun o h1 q => wComp2_mono hs r o h1 Q Q' m q) q.2⟩
theorem wFor_mono {chk : AH → Prop} {bd bd' : D → Env → AH → (Env → AH → Prop) → Prop} {nx nx' : Env → AH → Prop} (hb : ∀ x e h k k', (∀ e h, k e h → k' e h) → bd x e h k → bd' x e h k') (hn : ∀ e h, nx e h → nx' e h) :
    ∀ (xs : List D) (env : Env) (h : AH), wFor chk bd nx xs env h → wFor chk bd' nx' xs env h
  | [], env, h, q => ⟨q.1, hn _ _ q.2⟩
  | x :: r, env, h, q => ⟨q.1, hb x env h _ _ (fun e h1 q => wFor_mono hb hn r e h1 q) q.2⟩
section
variable {a b c e : TX} {es : TEs} {t t1 : TG} {it it1 : TI} {lo hi : TO}
theorem m2 (ha : MX a) (hb : MX b) {env : Env} {h : AH} {Q Q' : Rv → Rv → AH → Prop} {X X' : Xc} (m : ∀ x y h, Q x y h → Q' x y h) (mx : ∀ c h, X c h → X' c h)
    (q : a env h (fun x h1 => b env h1 (fun y h2 => Q x y h2) X) X) : a env h (fun x h1 => b env h1 (fun y h2 => Q' x y h2) X') X' :=
  ha _ _ _ _ _ _ (fun x h1 q => hb _ _ _ _ _ _ (fun y h2 => m x y h2) mx q) mx q
theorem mStepC (ht : MG t) (he : MX e) {env : Env} {own : List Nat} : ∀ x h k k', (∀ o h, k o h → k' o h) → stepC t env own e x h k → stepC t env own e x h k' := fun x h k k' mk q =>
  ht _ _ _ _ _ (fun env2 h3 q => he _ _ _ _ _ _ (fun r h4 q => rv_mono (fun d h5 q => mk _ _ q) q) (fun _ _ z => z) q) q
theorem mStepCi (ht : MG t) (hc : MX c) (he : MX e) {env : Env} {own : List Nat} : ∀ x h k k', (∀ o h, k o h → k' o h) → stepCi t env own c e x h k → stepCi t env own c e x h k' := fun x h k k' mk q =>
  ht _ _ _ _ _ (fun env2 h3 q => hc _ _ _ _ _ _ (fun b h4 q => gd_mono (fun b q => ite_mono (fun q => he _ _ _ _ _ _ (fun r h4 q => rv_mono (fun d h5 q => mk _ _ q) q) (fun _ _ z => z) q) (fun q => mk _ _ q) q) q) (fun _ _ z => z) q) q
theorem mStepC2 (ht : MG t) (ht1 : MG t1) (hi1 : MI it1) (he : MX e) {env : Env} {own own1 : List Nat} : ∀ x a h k k', (∀ o h, k o h → k' o h) → stepC2 t env own t1 it1 own1 e x a h k → stepC2 t env own t1 it1 own1 e x a h k' := fun x a h k k' mk q =>
  ht _ _ _ _ _ (fun env2 h3 q => hi1 _ _ _ _ _ _ (fun s1 h4 q => wComp_mono (mStepC ht1 he) _ _ _ _ _ mk q) (fun _ _ z => z) q) q
end
section
variable {cal : Cal} {G : Str → Option D} (hc : Mono cal)
include hc
mutual
theorem mX : ∀ e : Ex, MX (wX cal G e)
  | .lit d => fun env h Q Q' X X' m mx q => m _ _ q
  | .var i => fun env h Q Q' X X' m mx q => gd_mono (fun _ => m _ _) q
  | .glo x => fun env h Q Q' X X' m mx q => gd_mono (fun _ => m _ _) q
  | .bin op a b => fun env h Q Q' X X' m mx q => m2 (mX a) (mX b) (fun x y h2 q => gd_mono (fun _ => m _ _) q) mx q
  | .cmp op a b => fun env h Q Q' X X' m mx q => m2 (mX a) (mX b) (fun x y h2 q => gd_mono (fun _ => m _ _) q) mx q
  | .chain o1 o2 a b c => fun env h Q Q' X X' m mx q => m2 (mX a) (mX b) (fun x y h2 q => gd_mono (fun k q => ite_mono (fun q => mX c _ _ _ _ _ _ (fun z h3 q => gd_mono (fun _ => m _ _) q) mx q) (fun q => m _ _ q) q) q) mx q
  | .isc neg a c => fun env h Q Q' X X' m mx q => mX a _ _ _ _ _ _ (fun x h1 q => gd_mono (fun _ => m _ _) q) mx q
  | .and a b => fun env h Q Q' X X' m mx q => mX a _ _ _ _ _ _ (fun x h1 q => gd_mono (fun k q => ite_mono (fun q => mX b _ _ _ _ _ _ m mx q) (fun q => m _ _ q) q) q) mx q
  | .or a b => fun env h Q Q' X X' m mx q => mX a _ _ _ _ _ _ (fun x h1 q => gd_mono (fun k q => ite_mono (fun q => m _ _ q) (fun q => mX b _ _ _ _ _ _ m mx q) q) q) mx q
  | .not a => fun env h Q Q' X X' m mx q => mX a _ _ _ _ _ _ (fun x h1 q => gd_mono (fun _ => m _ _) q) mx q
  | .neg a => fun env h Q Q' X X' m mx q => mX a _ _ _ _ _ _ (fun x h1 q => gd_mono (fun _ => m _ _) q) mx q
  | .ite c a b => fun env h Q Q' X X' m mx q => mX c _ _ _ _ _ _ (fun x h1 q => gd_mono (fun k q => ite_mono (fun q => mX a _ _ _ _ _ _ m mx q) (fun q => mX b _ _ _ _ _ _ m mx q) q) q) mx q
  | .tup es => fun env h Q Q' X X' m mx q => mEs es _ _ _ _ _ _ (fun ds h1 q => ⟨q.1, m _ _ q.2⟩) mx q
  | .lst es => fun env h Q Q' X X' m mx q => mEs es _ _ _ _ _ _ (fun ds h1 q => ⟨q.1, m _ _ q.2⟩) mx q
  | .dct => fun env h Q Q' X X' m mx q => m _ _ q
  | .call f es => fun env h Q Q' X X' m mx q => mEs es _ _ _ _ _ _ (fun ds h1 q => hc _ _ _ _ _ _ _ (fun d h2 => m _ _) mx q) mx q
  | .callv i es => fun env h Q Q' X X' m mx q => gd_mono (fun f q => ⟨q.1, mEs es _ _ _ _ _ _ (fun ds h1 q => hc _ _ _ _ _ _ _ (fun d h2 => m _ _) mx q) mx q.2⟩) q
  | .b1 b a => fun env h Q Q' X X' m mx q => mX a _ _ _ _ _ _ (fun x h1 q => gd_mono (fun _ => m _ _) q) mx q
  | .b2 b a c => fun env h Q Q' X X' m mx q => mX a _ _ _ _ _ _ (fun x h1 q => rv_mono (fun x1 h2 q => mX c _ _ _ _ _ _ (fun y h3 q => rv_mono (fun y1 h4 q => gd_mono (fun _ => m _ _) q) q) mx q) q) mx q
  | .mt mm o es => fun env h Q Q' X X' m mx q => mX o _ _ _ _ _ _ (fun x h1 q => ⟨q.1, mEs es _ _ _ _ _ _ (fun ds h2 q => gd_mono (fun _ => m _ _) q) mx q.2⟩) mx q
  | .ix a b => fun env h Q Q' X X' m mx q => m2 (mX a) (mX b) (fun x y h2 q => gd_mono (fun _ => m _ _) q) mx q
  | .sl a lo hi => fun env h Q Q' X X' m mx q => mX a _ _ _ _ _ _ (fun x h1 q => mO lo _ _ _ _ _ _ (fun l h2 q => mO hi _ _ _ _ _ _ (fun u h3 q => gd_mono (fun _ => m _ _) q) mx q) mx q) mx q
  | .sls a lo hi st => fun env h Q Q' X X' m mx q => mX a _ _ _ _ _ _ (fun x h1 q => mO lo _ _ _ _ _ _ (fun l h2 q => mO hi _ _ _ _ _ _ (fun u h3 q => gd_mono (fun _ => m _ _) q) mx q) mx q) mx q
  | .rng t it => fun env h Q Q' X X' m mx q => mI it _ _ _ _ _ _ (fun s h1 q => ⟨q.1, m _ _ q.2⟩) mx q
  | .comp t it own e => fun env h Q Q' X X' m mx q => mI it _ _ _ _ _ _ (fun s h1 q => wComp_mono (mStepC (mTg t) (mX e)) _ _ _ _ _ (fun a h => m _ _) q) mx q
  | .compi t it own c e => fun env h Q Q' X X' m mx q => mI it _ _ _ _ _ _ (fun s h1 q => wComp_mono (mStepCi (mTg t) (mX c) (mX e)) _ _ _ _ _ (fun a h => m _ _) q) mx q
  | .comp2 t it own t1 it1 own1 e => fun env h Q Q' X X' m mx q => mI it _ _ _ _ _ _ (fun s h1 q => wComp2_mono (mStepC2 (mTg t) (mTg t1) (mI it1) (mX e)) _ _ _ _ _ (fun a h => m _ _) q) mx q
theorem mEs : ∀ es : Es, MEs (wEs cal G es)
  | .nil => fun env h Q Q' X X' m mx q => m _ _ q
  | .cons e es => fun env h Q Q' X X' m mx q => mX e _ _ _ _ _ _ (fun r h1 q => rv_mono (fun d h2 q => mEs es _ _ _ _ _ _ (fun ds h3 q => m _ _ q) mx q) q) mx q
theorem mO : ∀ o : Oe, MO (wO cal G o)
  | .no => fun env h Q Q' X X' m mx q => m _ _ q
  | .so e => fun env h Q Q' X X' m mx q => mX e _ _ _ _ _ _ (fun r h1 q => gd_mono (fun _ => m _ _) q) mx q
theorem mI : ∀ it : It, MI (wI cal G it)
  | .seq e => fun env h Q Q' X X' m mx q => mX e _ _ _ _ _ _ (fun r h1 q => gd_mono (fun _ => m _ _) q) mx q
  | .rng1 a => fun env h Q Q' X X' m mx q => mX a _ _ _ _ _ _ (fun r h1 q => gd_mono (fun _ q => ⟨q.1, m _ _ q.2⟩) q) mx q
  | .rng2 a b => fun env h Q Q' X X' m mx q => mX a _ _ _ _ _ _ (fun r h1 q => gd_mono (fun _ q => mX b _ _ _ _ _ _ (fun r2 h2 q => gd_mono (fun _ q => ⟨q.1, m _ _ q.2⟩) q) mx q) q) mx q
  | .rng3 a b c => fun env h Q Q' X X' m mx q => mX a _ _ _ _ _ _ (fun r h1 q => gd_mono (fun _ q => mX b _ _ _ _ _ _ (fun r2 h2 q => gd_mono (fun _ q => mX c _ _ _ _ _ _ (fun r3 h3 q => gd_mono (fun _ q => ⟨q.1, m _ _ q.2⟩) q) mx q) q) mx q) q) mx q
end
end
structure Ks.le (K K' : Ks) : Prop where
  nx : ∀ e h, K.nx e h → K'.nx e h
  rt : ∀ d h, K.rt d h → K'.rt d h
  bk : ∀ e h, K.bk e h → K'.bk e h
  ct : ∀ e h, K.ct e h → K'.ct e h
  ex : ∀ e c h, K.ex e c h → K'.ex e c h
theorem Ks.le.turn {K K' : Ks} (m : K.le K') {n n' : Env → AH → Prop} (hn : ∀ e h, n e h → n' e h) : (K.turn n).le (K'.turn n') := ⟨hn, m.rt, m.nx, hn, m.ex⟩
theorem Ks.le.then {K K' : Ks} (m : K.le K') {n n' : Env → AH → Prop} (hn : ∀ e h, n e h → n' e h) : (K.then n).le (K'.then n') := ⟨hn, m.rt, m.bk, m.ct, m.ex⟩
def MS (t : TS) : Prop := ∀ env h (K K' : Ks), K.le K' → t env h K → t env h K'
theorem tE_mono {a : TX} (ha : MX a) {env : Env} {h : AH} {Q Q' : D → AH → Prop} {X X' : Xc} (m : ∀ r h, Q r h → Q' r h) (mx : ∀ c h, X c h → X' c h) (q : tE a env h Q X) : tE a env h Q' X' := ha _ _ _ _ _ _ (fun r h1 q => rv_mono m q) mx q
theorem tT_mono {a : TX} (ha : MX a) {env : Env} {h : AH} {Q Q' : Bool → AH → Prop} {X X' : Xc} (m : ∀ r h, Q r h → Q' r h) (mx : ∀ c h, X c h → X' c h) (q : tT a env h Q X) : tT a env h Q' X' := ha _ _ _ _ _ _ (fun r h1 q => gd_mono (fun k => m _ _) q) mx q
section
variable {cal : Cal} {G : Str → Option D} {Sub : Str → Str → Option Bool} (hc : Mono cal)
include hc
mutual
theorem mS : ∀ s : St, MS (wS cal G Sub s)
  | .asg t e => fun env h K K' m q => tE_mono (mX hc e) (fun d h1 q => mTg t d _ _ _ _ m.nx q) (m.ex env) q
  | .set o i e => fun env h K K' m q => tE_mono (mX hc e) (fun d h1 q => tE_mono (mX hc o) (fun a h2 q => tE_mono (mX hc i) (fun k h3 q => gd_mono (fun h4 => m.nx _ _) q) (m.ex env) q) (m.ex env) q) (m.ex env) q
  | .aug i op e => fun env h K K' m q => gd_mono (fun x q => mX hc e _ _ _ _ _ _ (fun r h1 q => gd_mono (fun p q => rv_mono (fun d h2 => m.nx _ _) q) q) (m.ex env) q) q
  | .expr e => fun env h K K' m q => mX hc e _ _ _ _ _ _ (fun _ h1 => m.nx _ _) (m.ex env) q
  | .ifs c a b => fun env h K K' m q => tT_mono (mX hc c) (fun k h1 q => ite_mono (fun q => mB a _ _ _ _ m q) (fun q => mB b _ _ _ _ m q) q) (m.ex env) q
  | .whl c b => fun env h K K' m q => by
    obtain ⟨W, h0, hs⟩ := q
    exact ⟨W, h0, fun n env1 h1 w => tT_mono (mX hc c) (fun k h2 q => ite_mono (fun q => mB b _ _ _ _ (m.turn fun _ _ z => z) q) (fun q => m.nx _ _ q) q) (m.ex env1) (hs n env1 h1 w)⟩
  | .for_ t it b => fun env h K K' m q => mI hc it _ _ _ _ _ _ (fun s h1 q => wFor_mono (fun x e2 h2 k k' mk q => mTg t _ _ _ _ _ (fun e3 h3 q => mB b _ _ _ _ (m.turn mk) q) q) m.nx _ _ _ q) (m.ex env) q
  | .ret e => fun env h K K' m q => tE_mono (mX hc e) m.rt (m.ex env) q
  | .retn => fun env h K K' m q => m.rt _ _ q
  | .rais c => fun env h K K' m q => m.ex _ _ _ q
  | .tryx b c d => fun env h K K' m q => mB b env h ⟨K.nx, K.rt, K.bk, K.ct, fun env1 x h1 => gd (Sub x c) fun k => if k = true then K.rt d h1 else K.ex env1 x h1⟩ ⟨K'.nx, K'.rt, K'.bk, K'.ct, fun env1 x h1 => gd (Sub x c) fun k => if k = true then K'.rt d h1 else K'.ex env1 x h1⟩
    ⟨m.nx, m.rt, m.bk, m.ct, fun e1 x h1 q => gd_mono (fun k q => ite_mono (fun q => m.rt _ _ q) (fun q => m.ex _ _ _ q) q) q⟩ q
  | .tryi b c ts => fun env h K K' m q => mB b env h ⟨K.nx, K.rt, K.bk, K.ct, fun env1 x h1 => gd (Sub x c) fun k => if k = true then gd (isaAll Sub x ts) fun v => K.rt (.bl v) h1 else K.ex env1 x h1⟩ ⟨K'.nx, K'.rt, K'.bk, K'.ct, fun env1 x h1 => gd (Sub x c) fun k => if k = true then gd (isaAll Sub x ts) fun v => K'.rt (.bl v) h1 else K'.ex env1 x h1⟩
    ⟨m.nx, m.rt, m.bk, m.ct, fun e1 x h1 q => gd_mono (fun k q => ite_mono (fun q => gd_mono (fun v q => m.rt _ _ q) q) (fun q => m.ex _ _ _ q) q) q⟩ q
  | .pass => fun env h K K' m q => m.nx _ _ q
  | .brk => fun env h K K' m q => m.bk _ _ q
  | .cnt => fun env h K K' m q => m.ct _ _ q
theorem mB : ∀ s : Sts, MS (wB cal G Sub s)
  | .nil => fun env h K K' m q => m.nx _ _ q
  | .cons s r => fun env h K K' m q => mS s _ _ _ _ (m.then fun e h1 q => mB r _ _ _ _ m q) q
end
end
theorem someQ_mono {Q Q' : D → AH → Prop} (m : ∀ d h, Q d h → Q' d h) {d : D} {h : AH} (q : someQ Q d h) : someQ Q' d h := let ⟨h', s, q⟩ := q; ⟨h', s, m _ _ q⟩
theorem someX_mono {Q Q' : Xc} (m : ∀ d h, Q d h → Q' d h) {d : Str} {h : AH} (q : someX Q d h) : someX Q' d h := let ⟨h', s, q⟩ := q; ⟨h', s, m _ _ q⟩
theorem wC_mono (P : Prog) : ∀ n, Mono (wC P n)
  | 0 => fun _ _ _ _ _ _ _ _ _ q => q
  | n + 1 => fun f ds h Q Q' X X' m mx q => gd_mono (fun c q => ⟨q.1, mB (wC_mono P n) c.body (start c.nn ds) h (ksOf (someQ Q) (someX X)) (ksOf (someQ Q') (someX X')) ⟨fun _ h1 q => someQ_mono m q, fun _ h1 q => someQ_mono m q, fun _ _ z => z, fun _ _ z => z, fun _ c h1 q => someX_mono mx q⟩ q.2⟩) q
end Py
/-! What the abstract data and heap are of the layer's values and heap. -/
namespace Py
open L2 PySem.Spec PySem PyProof.Rows

/-- a list that stands locked -/
def SqF (K : PySem.W.Frag) (H : Hp) (a : Addr) (xs : List V) : Prop := (∃ o, H a = some (.frz o (.lst xs))) ∨
  ∃ (o : Obj) (its : Array Value) (n : Nat), K.lookup a = some o ∧ o.cls = .type "list" ∧
      o.dict = none ∧ o.data = .seq its n ∧ its.size ≤ sizeLine ∧ Vals xs its.toList
theorem SqF.seq {K : PySem.W.Frag} {H : Hp} {a : Addr} {xs : List V} (h : SqF K H a xs) : SqL K H a xs := h.elim (fun ⟨o, e⟩ => .inl (.inr ⟨o, e⟩)) .inr
/-- a tuple that carries no dict -/
def SqD (K : PySem.W.Frag) (H : Hp) (a : Addr) (xs : List V) : Prop := (∃ o, H a = some (.frz o (.tup xs)) ∧ o.dict = none) ∨
  ∃ (o : Obj) (its : Array Value) (n : Nat), K.lookup a = some o ∧ o.cls = .type "tuple" ∧ o.dict = none ∧ o.data = .seq its n ∧ its.size ≤ sizeLine ∧ Vals xs its.toList
theorem SqD.sq {K : PySem.W.Frag} {H : Hp} {a : Addr} {xs : List V} (h : SqD K H a xs) : SqT K H a xs :=
  h.elim (fun ⟨o, e, _⟩ => .inl (.inr ⟨o, e⟩)) fun ⟨o, its, n, k, c, _, d, z, r⟩ => .inr ⟨o, its, n, k, c, d, z, r⟩
mutual
inductive Rep (K : PySem.W.Frag) (M : Str → Option Value) (H : Hp) : V → D → Prop
  | non : Rep K M H .non .non
  | bl (b : Bool) : Rep K M H (.bl b) (.bl b)
  | int (i : Int) : Rep K M H (.int i) (.int i)
  | str (x : Str) : Rep K M H (.str x) (.str x)
  | tup {a : Addr} {vs : List V} {ds : List D} : SqD K H a vs → Reps K M H vs ds → Rep K M H (.ref a) (.tup ds)
  | loc (a : Addr) : Rep K M H (.ref a) (.loc a)
  | fn {a : Addr} {x : Str} : M x = some (.ref a) → Rep K M H (.ref a) (.fn x)
  | fl {a : Addr} {vs : List V} {ds : List D} : SqF K H a vs → Reps K M H vs ds → Rep K M H (.ref a) (.fl ds)
inductive Reps (K : PySem.W.Frag) (M : Str → Option Value) (H : Hp) : List V → List D → Prop
  | nil : Reps K M H [] []
  | cons {v : V} {vs : List V} {d : D} {ds : List D} : Rep K M H v d → Reps K M H vs ds → Reps K M H (v :: vs) (d :: ds)
end
/-- what is never changed stays -/
structure Mn (K : PySem.W.Frag) (H H' : Hp) : Prop where
  t : ∀ a xs, SqD K H a xs → SqD K H' a xs
  f : ∀ a xs, SqF K H a xs → SqF K H' a xs
section
variable {K : PySem.W.Frag} {M : Str → Option Value} {H H' : Hp}
mutual
theorem Rep.mono (m : Mn K H H') : ∀ {v : V} {d : D}, Rep K M H v d → Rep K M H' v d
  | _, _, .non => .non
  | _, _, .bl b => .bl b
  | _, _, .int i => .int i
  | _, _, .str x => .str x
  | _, _, .tup s r => .tup (m.t _ _ s) (Reps.mono m r)
  | _, _, .loc a => .loc a
  | _, _, .fn e => .fn e
  | _, _, .fl s r => .fl (m.f _ _ s) (Reps.mono m r)
theorem Reps.mono (m : Mn K H H') : ∀ {vs : List V} {ds : List D}, Reps K M H vs ds → Reps K M H' vs ds
  | _, _, .nil => .nil
  | _, _, .cons r t => .cons (Rep.mono m r) (Reps.mono m t)
end
theorem Reps.length : ∀ {vs : List V} {ds : List D}, Reps K M H vs ds → vs.length = ds.length
  | _, _, .nil => rfl
  | _, _, .cons _ t => by rw [List.length_cons, List.length_cons, Reps.length t]
theorem Reps.append : ∀ {vs ws : List V} {ds es : List D}, Reps K M H vs ds → Reps K M H ws es → Reps K M H (vs ++ ws) (ds ++ es)
  | _, _, _, _, .nil, r => r
  | _, _, _, _, .cons a t, r => .cons a (Reps.append t r)
theorem Reps.get : ∀ {vs : List V} {ds : List D} {i : Nat} {d : D}, Reps K M H vs ds → ds[i]? = some d → ∃ v, vs[i]? = some v ∧ Rep K M H v d
  | _, _, _, _, .nil, e =>
      by simp at e
  | _, _, 0, _, .cons a t, e => by
    simp at e
    subst e
    exact ⟨_, rfl, a⟩
  | _, _, i + 1, _, .cons a t, e => by
    obtain ⟨v, h1, h2⟩ := Reps.get (i := i) t (by simpa using e)
    exact ⟨v, by simpa using h1, h2⟩
theorem Reps.getV : ∀ {vs : List V} {ds : List D} {i : Nat} {v : V}, Reps K M H vs ds → vs[i]? = some v → ∃ d, ds[i]? = some d ∧ Rep K M H v d
  | _, _, _, _, .nil, e =>
      by simp at e
  | _, _, 0, _, .cons a t, e => by
    simp at e
    subst e
    exact ⟨_, rfl, a⟩
  | _, _, i + 1, _, .cons a t, e => by
    obtain ⟨v, h1, h2⟩ := Reps.getV (i := i) t (by simpa using e)
    exact ⟨v, by simpa using h1, h2⟩
theorem Reps.set : ∀ {vs : List V} {ds : List D} {v : V} {d : D} (i : Nat), Reps K M H vs ds → Rep K M H v d → Reps K M H (vs.set i v) (ds.set i d)
  | _, _, _, _, _, .nil, _ => .nil
  | _, _, _, _, 0, .cons a t, r => .cons r t
  | _, _, _, _, i + 1, .cons a t, r => .cons a (Reps.set i t r)
theorem Reps.take : ∀ {vs : List V} {ds : List D} (n : Nat), Reps K M H vs ds → Reps K M H (vs.take n) (ds.take n)
  | _, _, 0, _ => .nil
  | _, _, _ + 1, .nil => .nil
  | _, _, n + 1, .cons a t => .cons a (Reps.take n t)
theorem Reps.drop : ∀ {vs : List V} {ds : List D} (n : Nat), Reps K M H vs ds → Reps K M H (vs.drop n) (ds.drop n)
  | _, _, 0, r => r
  | _, _, _ + 1, .nil => .nil
  | _, _, n + 1, .cons a t => Reps.drop n t
theorem Reps.eraseIdx : ∀ {vs : List V} {ds : List D} (n : Nat), Reps K M H vs ds → Reps K M H (vs.eraseIdx n) (ds.eraseIdx n)
  | _, _, _, .nil => .nil
  | _, _, 0, .cons a t => t
  | _, _, n + 1, .cons a t => .cons a (Reps.eraseIdx n t)
theorem Reps.reverse : ∀ {vs : List V} {ds : List D}, Reps K M H vs ds → Reps K M H vs.reverse ds.reverse
  | _, _, .nil => .nil
  | _, _, .cons a t => by
    rw [List.reverse_cons,
        List.reverse_cons]
    exact (Reps.reverse t).append (.cons a .nil)
theorem Reps.rep {vs : List V} {ds : List D} (r : Reps K M H vs ds) : ∀ k : Nat, Reps K M H (List.replicate k vs).flatten (List.replicate k ds).flatten
  | 0 => .nil
  | k + 1 => by
    rw [List.replicate_succ, List.replicate_succ,
        List.flatten_cons, List.flatten_cons]
    exact r.append (Reps.rep r k)
theorem Reps.dropLast {vs : List V} {ds : List D} (r : Reps K M H vs ds) : Reps K M H vs.dropLast ds.dropLast := by
  rw [List.dropLast_eq_take, List.dropLast_eq_take, r.length]
  exact r.take _
theorem Reps.ofInts : ∀ ns : List Int, Reps K M H (ns.map V.int) (ns.map D.int)
  | [] => .nil
  | i :: r => .cons (.int i) (Reps.ofInts r)
theorem Reps.ints : ∀ {vs : List V} {ds : List D} {ns : List Int}, Reps K M H vs ds → intsL ds = some ns → vs = ns.map V.int ∧ ds = ns.map D.int
  | _, _, ns, .nil, e => by
    cases (Option.some.inj (show some [] = some ns from e))
    exact ⟨rfl, rfl⟩
  | _, _, ns, .cons (d := d) a t, e => by
    cases d with
    | int i =>
      rename_i vv vs ds
      have e' : (intsL ds).map (i :: ·) = some ns := e
      cases q : intsL ds with
      | none => rw [q] at e'; cases e'
      | some ms =>
        rw [q] at e'
        cases (Option.some.inj (show some (i :: ms) = some ns from e'))
        obtain ⟨e1, e2⟩ := Reps.ints t q
        cases a
        exact ⟨by rw [e1]; rfl, by rw [e2]; rfl⟩
    | _ => cases e
theorem Reps.bls : ∀ {vs : List V} {ds : List D} {ns : List Bool}, Reps K M H vs ds → blsL ds = some ns → vs = ns.map V.bl ∧ ds = ns.map D.bl
  | _, _, ns, .nil, e => by
    cases (Option.some.inj (show some [] = some ns from e))
    exact ⟨rfl, rfl⟩
  | _, _, ns, .cons (d := d) a t, e => by
    cases d with
    | bl i =>
      rename_i vv vs ds
      have e' : (blsL ds).map (i :: ·) = some ns := e
      cases q : blsL ds with
      | none => rw [q] at e'; cases e'
      | some ms =>
        rw [q] at e'
        cases (Option.some.inj (show some (i :: ms) = some ns from e'))
        obtain ⟨e1, e2⟩ := Reps.bls t q
        cases a
        exact ⟨by rw [e1]; rfl, by rw [e2]; rfl⟩
    | _ => cases e
end
/-- a dict of the abstract heap: see DctRel -/
def RD (K : PySem.W.Frag) (M : Str → Option Value) (H : Hp) (a : Addr) (kvs : List (D × D)) : Prop := ∃ φ, H a = some (.ext φ) ∧ False
/-- what stands at an address of the abstract heap -/
def RO (K : PySem.W.Frag) (M : Str → Option Value) (H : Hp) (a : Addr) : AO → Prop
  | .lst ds => ∃ vs, H a = some (.lst vs) ∧ Reps K M H vs ds
  | .dct kvs => RD K M H a kvs
def RelH (K : PySem.W.Frag) (M : Str → Option Value) (h : AH) (H : Hp) : Prop := ∀ a o, h a = some o → RO K M H a o
/-- from one pair of heaps to the next -/
structure Tr (h : AH) (H : Hp) (h' : AH) (H' : Hp) : Prop where
  keep : ∀ a o, H a = some o → h a = none → H' a = some o ∧ h' a = none
  grow : ∀ a, H a ≠ none → H' a ≠ none
/-- what an expression comes to: H0 the heap ahead of it -/
def RepR (K : PySem.W.Frag) (M : Str → Option Value) (H0 : Hp) (h : AH) (H : Hp) (v : V) : Rv → Prop
  | .v d => Rep K M H v d
  | .o x => ∃ p, v = .ref p ∧ H0 p = none ∧ h p = none ∧ RO K M H p x
section
variable {K : PySem.W.Frag} {M : Str → Option Value} {h h' h'' : AH} {H H' H'' H0 : Hp}
theorem Tr.refl : Tr h H h H := ⟨fun a o e n => ⟨e, n⟩, fun _ z => z⟩
theorem Tr.trans (x : Tr h H h' H') (y : Tr h' H' h'' H'') : Tr h H h'' H'' := ⟨fun a o e n => let ⟨e1, n1⟩ := x.keep a o e n; y.keep a o e1 n1, fun a z => y.grow a (x.grow a z)⟩
theorem RO.there {a : Addr} {o : AO} (r : RO K M H a o) : ∃ u, H a = some u := by
  cases o with
  | lst ds => obtain ⟨vs, e, _⟩ := r; exact ⟨_, e⟩
  | dct kvs => obtain ⟨φ, e, _⟩ := r; exact ⟨_, e⟩
theorem RelH.free (r : RelH K M h H) {a : Addr} (e : H a = none) : h a = none := by
  cases q : h a with
  | none => rfl
  | some o =>
    obtain ⟨u, z⟩ := (r a o q).there
    rw [e] at z
    cases z
theorem RelH.nfrz (r : RelH K M h H) {a : Addr} {o : Obj} {u : HO} (e : H a = some (.frz o u)) : h a = none := by
  cases q : h a with
  | none => rfl
  | some o =>
    have z := r a o q
    cases o with
    | lst ds =>
      obtain ⟨vs, e2, _⟩ := z
      rw [e] at e2; cases e2
    | dct kvs =>
      obtain ⟨φ, e2, _⟩ := z
      rw [e] at e2; cases e2
theorem Tr.mn (x : Tr h H h' H') (r : RelH K M h H) : Mn K H H' := by
  refine ⟨fun a xs s => ?_, fun a xs s => ?_⟩
  · rcases s with ⟨o, e, d⟩ | e
    · exact .inl ⟨o, (x.keep _ _ e (r.nfrz e)).1, d⟩
    · exact .inr e
  · rcases s with ⟨o, e⟩ | e
    · exact .inl ⟨o, (x.keep _ _ e (r.nfrz e)).1⟩
    · exact .inr e
theorem RO.mono {a : Addr} {o : AO} (m : Mn K H H') (e : H' a = H a) (r : RO K M H a o) : RO K M H' a o := by
  cases o with
  | lst ds => obtain ⟨vs, e1, r1⟩ := r; exact ⟨vs, e.trans e1, r1.mono m⟩
  | dct kvs => obtain ⟨φ, e1, r1⟩ := r; exact ⟨φ, e.trans e1, r1⟩
theorem RepR.mono {v : V} {r : Rv} (x : Tr h H h' H') (rel : RelH K M h H) (q : RepR K M H0 h H v r) : RepR K M H0 h' H' v r := by
  cases r with
  | v d => exact Rep.mono (x.mn rel) q
  | o u =>
    obtain ⟨p, e, n0, n, ro⟩ := q
    obtain ⟨w, hw⟩ := ro.there
    obtain ⟨h1, h2⟩ := x.keep p w hw n
    exact ⟨p, e, n0, h2, ro.mono (x.mn rel) (h1.trans hw.symm)⟩
theorem RepR.back {v : V} {r : Rv} (z : ∀ a, H0 a ≠ none → H'' a ≠ none) (q : RepR K M H'' h H v r) : RepR K M H0 h H v r := by
  cases r with
  | v d => exact q
  | o u =>
    obtain ⟨p, e, n0, n, ro⟩ := q
    refine ⟨p, e, ?_, n, ro⟩
    cases w : H0 p with
    | none => rfl
    | some y => exact absurd n0 (z p (by rw [w]; simp))
/-- a new tracked object that the abstract heap does not know -/
theorem Tr.new {p : Addr} {u : HO} (rel : RelH K M h H) (n : H p = none) : Tr h H h (upd H p u) := by
  refine ⟨fun a o e z => ⟨?_, z⟩, fun a z => ?_⟩
  · rw [upd_ne (ne_of_none e n)]; exact e
  · unfold upd
    split
    · simp
    · exact z
theorem RelH.new {p : Addr} {u : HO} (rel : RelH K M h H) (n : H p = none) : RelH K M h (upd H p u) := fun a o e => by
  have hp : a ≠ p := fun z => by
    rw [z, rel.free n] at e
    cases e
  exact (rel a o e).mono ((Tr.new rel n).mn rel) (upd_ne hp)
/-- .. and that it then knows -/
theorem RelH.take {p : Addr} {o : AO} (rel : RelH K M h H) (ro : RO K M H p o) : RelH K M (put h p o) H := fun a u e => by
  unfold put at e
  split at e
  · rename_i q
    cases e
    rw [q]; exact ro
  · exact rel a u e
theorem Tr.take {p : Addr} {o : AO} {H0 : Hp} {h0 : AH} (x : Tr h0 H0 h H) (n : H0 p = none) : Tr h0 H0 (put h p o) H := by
  refine ⟨fun a u e z => ?_, x.grow⟩
  obtain ⟨e1, e2⟩ := x.keep a u e z
  refine ⟨e1, ?_⟩
  rw [put_ne (ne_of_none e n)]
  exact e2
/-- an object is written -/
theorem Tr.write {p : Addr} {o o' : AO} {u : HO} (rel : RelH K M h H) (e : h p = some o) : Tr h H (put h p o') (upd H p u) := by
  refine ⟨fun a v q z => ?_, fun a z => ?_⟩
  · have hp : a ≠ p := fun w => by rw [w, e] at z; cases z
    exact ⟨by rw [upd_ne hp]; exact q, by rw [put_ne hp]; exact z⟩
  · unfold upd
    split
    · simp
    · exact z
theorem RelH.write {p : Addr} {o o' : AO} {u : HO} (rel : RelH K M h H) (e : h p = some o) (ro : Mn K H (upd H p u) → RO K M (upd H p u) p o') : RelH K M (put h p o') (upd H p u) := fun a v q => by
  have m := (Tr.write (o' := o') (u := u) rel e).mn rel
  unfold put at q
  split at q
  · rename_i w
    cases q
    rw [w]; exact ro m
  · rename_i w
    exact (rel a v q).mono m (upd_ne w)
end
end Py
/-! Tuples that are just made, tracked with their object: they carry no dict. -/
namespace Py
open L2 PySem.Spec PySem PyProof.Rows
section
variable {X : Cx} {pins : List (Addr × Obj)} {σ : L2.St} {H : Hp} {s : Shared} {Q : VK}
/-- what is wanted of a new tuple -/
def NewT (Q : VK) (H : Hp) (xs : List V) : Prop := ∀ p o, H p = none → o.dict = none → Q (.ref p) (upd H p (.frz o (.tup xs)))
theorem newT_at {h' : Heap} {xs : List V} {its : List Value} {tk : Nat} (I : L2.Inv X pins σ H { s with heap := h', toks := tk }) (r : Vals xs its) (hz : xs.length ≤ sizeLine) (q : NewT Q H xs) :
    EP X pins σ Q (.ref h'.objs.size) { s with heap := h'.push { cls := .type "tuple", data := .seq its.toArray }, toks := tk } := by
  have nn : H h'.objs.size = none := I.hok.fresh (Nat.le_refl _)
  refine ⟨.ref h'.objs.size, _, I.laid (a := h'.objs.size) (o := .frz { cls := .type "tuple", data := .seq its.toArray } (.tup xs)) (t' := tk) (fun b w z => Heap.get?_push_of_some _ z) (Nat.le_refl _) ?_, rfl, q _ _ nn rfl⟩
  exact ⟨Heap.get?_push_size _ rfl, hz, its, r, IsTup.new _ _⟩
theorem newT_ok {xs : List V} {its : List Value} (I : L2.Inv X pins σ H s) (r : Vals xs its) (hz : xs.length ≤ sizeLine) (q : NewT Q H xs) :
    EP X pins σ Q (.ref s.heap.objs.size) { s with heap := s.heap.push { cls := .type "tuple", data := .seq its.toArray } } := newT_at (s := s) (h' := s.heap) (tk := s.toks) I r hz q
end
section
variable {X : Cx}
/-- (a, b, ..) -/
def tTupX (t : TA) : L2.TE := fun σ H Q => t σ H fun xs H1 => xs.length ≤ sizeLine ∧ NewT Q H1 xs
theorem pe_tupX {es : List Expr} {k : Nat} {pos : Pos} {t : TA} (g : PA X es t) : PE X (.Tuple es k pos) (tTupX t) := ⟨fun pins s σ H Q I hq =>
  wpAny_Tuple_spliced (thn (g.run pos pins s σ H _ I hq) fun us s1 ⟨xs, H1, I1, r, z, q⟩ => ⟨by rw [← r.length]; exact z, newT_ok I1 r z q⟩)⟩
/-- t + u -/
def rCatX (K : PySem.W.Frag) : R2 := fun x y H Q => ∃ a b xs ys, x = .ref a ∧ y = .ref b ∧ SqT K H a xs ∧ SqT K H b ys ∧ xs.length + ys.length ≤ sizeLine ∧
  (xs = [] → Q (.ref b) H) ∧ (xs ≠ [] → ys = [] → Q (.ref a) H) ∧ NewT Q H (xs ++ ys)
theorem op_catX : OpR X (binaryOp .Add) (rCatX X.K) := by
  intro pins s σ H x y v u Q I rx ry hh
  obtain ⟨a, b, xs, ys, rfl, rfl, ha, hb, hz, q0, q1, q2⟩ := hh
  cases rx; cases ry
  obtain ⟨its, r1, p1, _⟩ :=
      I.tuple ha
  obtain ⟨its2, r2, p2, _⟩ :=
      I.tuple hb
  by_cases hx : xs = []
  · subst hx
    cases r1
    exact cat_tup0 p1 p2 ⟨.ref b,
        H, I, rfl, q0 rfl⟩
  · refine HT.cat_tup p1 p2 (fun z => hx (r1.nil_iff.mp z)) (fun z => ⟨.ref a, H, I, rfl, q1 hx (r2.nil_iff.mp z)⟩) (fun _ => newT_ok I (r1.append r2) (by rw [List.length_append]; exact hz) q2) ?_
    rw [← r1.length, ← r2.length]; exact hz
/-- t[lo:hi] -/
def rSlX (K : PySem.W.Frag) : V → Option Int → Option Int → Hp → VK → Prop := fun x lo hi H Q => ∃ a xs, x = .ref a ∧ SqT K H a xs ∧
  (HT.sIx xs.length 0 lo = 0 ∧ HT.sIx xs.length xs.length hi = xs.length → Q (.ref a) H) ∧ NewT Q H (cutV xs lo hi)
theorem sl_tupX : SlR X (rSlX X.K) := by
  intro pins s σ H x v vl vu lo hi sl Q I rx hs pl pu hh
  obtain ⟨a, xs, rfl, hx, q1, q2⟩ := hh
  cases rx
  obtain ⟨its, r, ht, hz⟩ :=
      I.tuple hx
  have hlen : its.toArray.size = xs.length := by rw [List.size_toArray, r.length]
  refine ⟨"tuple", _, slot_tuple_getitem.lookup, ht.typeIs, ?_⟩
  by_cases hw : HT.sIx xs.length 0 lo = 0 ∧
      HT.sIx xs.length xs.length hi = xs.length
  · exact getItem_tuple_whole ht hs pl pu (by rw [hlen]; exact hw) ⟨.ref a, H, I, rfl, q1 hw⟩
  · refine HT.getItem_tuple_cut ht hs pl pu (by rw [hlen]; exact hw) ?_ (by rw [hlen]; exact hz)
    rw [hlen]
    exact newT_ok I ((r.drop _).take _) (Nat.le_trans (cutV_length xs lo hi) hz) q2
/-- tuple(x) -/
theorem call_tupX : CallR X (.type "tuple") (fun xs H Q => ∃ p ys, xs = [.ref p] ∧ ((SqL X.K H p ys ∧ NewT Q H ys) ∨ (SqT X.K H p ys ∧ Q (.ref p) H))) := by
  intro pins s σ H xs us Q I r hh
  obtain ⟨p, ys, rfl, hh⟩ := hh
  obtain ⟨u, rfl, rx⟩ :=
      vals1 r
  cases rx
  rcases hh with ⟨hq, q⟩ | ⟨hq, q⟩
  · obtain ⟨its, r', pl, hz⟩ :=
        I.list hq
    have hlen := r'.length
    exact call_tuple_list pl.isList (fun h' kp => newT_at (s := s) (tk := s.toks) (I.kept (t' := s.toks) kp) r' hz q) (by simp only [List.size_toArray]; omega)
  · obtain ⟨its, r', pl, hz⟩ :=
        I.tuple hq
    exact call_tuple_same pl ⟨.ref p,
        H, I, rfl, q⟩
/-- tuple(range(a, b)) -/
def tTupRgX (te : L2.St → Hp → (Int → Int → Hp → Prop) → Prop) : L2.TE := fun σ H Q => te σ H fun a b H1 => RgOk a b ∧ NewT Q H1 (rgV a b)
theorem pe_tupRgX {e : Expr} {te : L2.St → Hp → (Int → Int → Hp → Prop) → Prop} {p pos : Pos} (hc : X.calm = true) (hg : Gl X "tuple") (hm : X.mg "tuple" = none) (he : PRg X e te) (na : starEach [e] X.env = (false, eval e X.env) :: starEach [] X.env) :
    PE X (.Call (.Name "tuple" p) [e] [] pos) (tTupRgX te) := by
  refine ⟨fun pins s σ H Q I hh => ?_⟩
  refine Call_ (ld_blt I hg hm boot_tuple (callWith_type1 (args_cons (thn (he pins s σ H _ I hh) fun x s1 ⟨r, a, b, t, u, v, H1, ex, hr, I1, ok, q⟩ => args_nil ?_) na) na))
  subst ex
  obtain ⟨b1, b2, b3, b4, b5⟩ :=
      ok
  refine call_tuple_range (n :=
      (b - a).toNat) (I1.ok.hd hc) hr (small_one b1 b2 b3 b4) (rangeSize_nat a b) b5 fun h' tk acc hk hi => ?_
  have w := newT_at (s := s1) (h' := h') (tk := tk) (its := acc.toList) (I1.kept (t' := tk) hk) (vals_rg hi) (by rw [rgV_length, sizeLine_eq]; omega) q
  rw [Array.toArray_toList] at w
  exact w
/-! ### t * k -/
theorem tmul_same (l : Addr) (items : Array Value) (n : Nat) (dd : Option Addr) (sl : Array (Option Value)) (x : Int) (u : Tok) (c0 : (decide (x < -(2 ^ 63)) || decide (x ≥ 2 ^ 63)) = false) (c1 : (items.isEmpty || x == 1) = true) :
    Meets (Builtin.«tuple.__mul__» ⟨[.ref l, .int x u], []⟩) (fun _ R s => s.heap.get? l = some { cls := .type "tuple", dict := dd, data := .seq items n, slots := sl } ∧ R (.ok (.ret (Value.ref l))) s) :=
  .of_wp fun prog
      w A R s h => by
    obtain ⟨hp, g, d, tk, os⟩ :=
        s
    obtain ⟨hl, h⟩ := h
    have f1 := AutoSeq1.idx_int
    wp_walk using
        wpAny_loadPart' hl
    repeat (first
      | (refine wpAny_ite_false (decide_eq_false (by rw [c0]; decide)) ?_; wp_walk using wpAny_loadPart' hl)
      | (refine wpAny_ite_true (decide_eq_true (by rw [c1])) ?_; wp_walk using wpAny_loadPart' hl))
    exact ⟨_, rfl, h⟩
theorem tmul_none (l : Addr) (items : Array Value) (n : Nat) (dd : Option Addr) (sl : Array (Option Value)) (x : Int) (u : Tok) (c0 : (decide (x < -(2 ^ 63)) || decide (x ≥ 2 ^ 63)) = false) (c1 : (items.isEmpty || x == 1) = false) (c2 : (decide (x ≤ 0) || items.isEmpty) = true) :
    Meets (Builtin.«tuple.__mul__» ⟨[.ref l, .int x u], []⟩) (fun _ R s =>
        s.heap.get? l = some { cls := .type "tuple", dict := dd, data := .seq items n, slots := sl } ∧
      R (.ok (.ret (Value.ref s.heap.objs.size))) { s with heap := s.heap.push { cls := Value.type "tuple", data := Data.seq #[] }, toks := s.toks }) :=
  .of_wp fun prog
      w A R s h => by
    obtain ⟨hp, g, d, tk, os⟩ :=
        s
    obtain ⟨hl, h⟩ := h
    have f1 := AutoSeq1.idx_int
    wp_walk using
        wpAny_loadPart' hl
    repeat (first
      | (refine wpAny_ite_false (decide_eq_false (by rw [c0]; decide)) ?_; wp_walk using wpAny_loadPart' hl)
      | (refine wpAny_ite_false (decide_eq_false (by rw [c1]; decide)) ?_; wp_walk using wpAny_loadPart' hl)
      | (refine wpAny_ite_true (decide_eq_true (by rw [c2])) ?_; wp_walk using wpAny_loadPart' hl)
      | (refine wpAny_ite_false (decide_eq_false (by simp only [List.size_toArray, List.length_nil]; omega)) ?_; wp_walk using wpAny_loadPart' hl))
    exact ⟨_, rfl, h⟩
def rRepX (K : PySem.W.Frag) : R2 := fun x y H Q => ∃ l k xs, x = .ref l ∧ y = .int k ∧ SqT K H l xs ∧ -(2 ^ 63) ≤ k ∧ k < 2 ^ 63 ∧ xs.length * k.toNat ≤ sizeLine ∧
  ((xs = [] ∨ k = 1) → Q (.ref l) H) ∧ NewT Q H (List.replicate k.toNat xs).flatten
theorem op_repX : OpR X (binaryOp .Mult) (rRepX X.K) := by
  intro pins s σ H x y v u Q I rx ry hh
  obtain ⟨l, k, xs, rfl, rfl, hT, h1, h2, hz, q1, q2⟩ := hh
  cases rx
  obtain ⟨t, rfl⟩ := ry
  obtain ⟨its, r, ⟨⟨cls, dd, data, sl⟩, ho, hc, n, hd⟩, hs⟩ :=
      I.tuple hT
  simp only at hc hd
  subst hc hd
  have hle : its.length = xs.length :=
      r.length.symm
  have c0 : (decide (k < -(2 ^ 63)) || decide (k ≥ 2 ^ 63)) = false := by simp only [Bool.or_eq_false_iff, decide_eq_false_iff_not]; omega
  have flen : (List.replicate k.toNat xs).flatten.length ≤ sizeLine := by
    rw [lm_len_rep_flat, Nat.mul_comm]; exact hz
  have he : (its.toArray.isEmpty = true) ↔ xs = [] := by
    cases r with
    | nil => simp
    | cons a b => simp
  by_cases c1 : (its.toArray.isEmpty || k == 1) = true
  · refine wpAny_binaryOp_repeat_ref (T := "tuple") (U := "int") (by decide) ⟨_, ho, rfl⟩ (fun s' => typeIs_int s' k t) noFill_tuple_mul F.fills_int_mul F.slot_int_rmul repeat_tuple F.slot_int_index.lookup
      (call_meets F.slot_int_rmul (typeIs_int s k t) F.entry_int_rmul
          (F.args_int_rmul_2 _ _) (int_rmul_tuple k t l its.toArray n dd sl)
        ⟨ho, rfl, ⟨_, ho, rfl⟩, call_meets F.slot_tuple_mul ⟨_, ho, rfl⟩ F.entry_tuple_mul (F.args_tuple_mul_2 _ _) (tmul_same l its.toArray n dd sl k t c0 c1) ⟨ho, ⟨.ref l, H, I, rfl, q1 ?_⟩⟩⟩)
    rw [Bool.or_eq_true, he, beq_iff_eq] at c1
    exact c1
  · have c1' : (its.toArray.isEmpty || k == 1) = false := by simpa using c1
    rw [Bool.or_eq_false_iff] at c1'
    by_cases c2 : k ≤ 0
    · have e0 : (List.replicate k.toNat xs).flatten = [] := by
        rw [show k.toNat = 0 by omega]; rfl
      refine wpAny_binaryOp_repeat_ref (T := "tuple") (U :=
          "int") (by decide) ⟨_, ho, rfl⟩ (fun s' => typeIs_int s' k t) noFill_tuple_mul F.fills_int_mul F.slot_int_rmul repeat_tuple F.slot_int_index.lookup
        (call_meets F.slot_int_rmul (typeIs_int s k t) F.entry_int_rmul
            (F.args_int_rmul_2 _ _) (int_rmul_tuple k t l its.toArray n dd sl)
          ⟨ho, rfl, ⟨_, ho, rfl⟩, call_meets F.slot_tuple_mul ⟨_, ho, rfl⟩ F.entry_tuple_mul (F.args_tuple_mul_2 _ _) (tmul_none l its.toArray n dd sl k t c0 (by rw [Bool.or_eq_false_iff]; exact c1') (by rw [decide_eq_true c2]; rfl)) ⟨ho, ?_⟩⟩)
      rw [e0] at q2
      exact newT_ok (its := []) I .nil (Nat.zero_le _) q2
    · have hsz0 : its.toArray.size = xs.length := by rw [List.size_toArray, hle]
      have hm : ((its.toArray.size : Nat) : Int) * k ≤ 16777216 := by
        rw [hsz0]
        have e1 : ((xs.length * k.toNat : Nat) : Int) = (xs.length : Int) * k := by rw [Int.natCast_mul, Int.toNat_of_nonneg (by omega)]
        rw [← e1]
        have := sizeLine_eq
        omega
      refine wpAny_binaryOp_repeat_ref (T := "tuple") (U :=
          "int") (by decide) ⟨_, ho, rfl⟩ (fun s' => typeIs_int s' k t) noFill_tuple_mul F.fills_int_mul F.slot_int_rmul repeat_tuple F.slot_int_index.lookup
        (call_meets F.slot_int_rmul (typeIs_int s k t) F.entry_int_rmul
            (F.args_int_rmul_2 _ _) (int_rmul_tuple k t l its.toArray n dd sl)
          ⟨ho, rfl, ⟨_, ho, rfl⟩, call_meets F.slot_tuple_mul ⟨_, ho, rfl⟩ F.entry_tuple_mul (F.args_tuple_mul_2 _ _)
            (tuple_mulW l its.toArray n dd sl k t c0 (by rw [Bool.or_eq_false_iff]; exact c1') (by rw [decide_eq_false c2, c1'.1]; rfl) (by omega)
              (by unfold Builtin.Tuple.tupleTooMany; rw [sizeLine_eq]; exact decide_eq_false (by omega)) (by rw [size_rep, List.size_toArray, lm_len_rep_flat, hle, Nat.mul_comm]; exact hz)) ⟨ho, ?_⟩⟩)
      rw [size_rep]
      exact newT_ok I (r.rep k.toNat) flen q2
end
end Py
namespace Py
open L2 PySem.Spec PySem PyProof.Rows
/-- what an operand is -/
def Opd (K : PySem.W.Frag) (M : Str → Option Value) (h : AH) (H : Hp) (v : V) : Rv → Prop
  | .v d => Rep K M H v d
  | .o x => ∃ p, v = .ref p ∧ h p = none ∧ RO K M H p x
/-- what follows a result, the abstract heap as it was -/
def Aft (K : PySem.W.Frag) (M : Str → Option Value) (h : AH) (H : Hp) (h' : AH) (Q : VK) (r : Rv) : Prop :=
  ∀ v H', Tr h H h' H' → RelH K M h' H' → RepR K M H h' H' v r → Q v H'
section
variable {K : PySem.W.Frag} {M : Str → Option Value} {h h' : AH} {H H' H0 : Hp} {Q : VK}
theorem RepR.opd {v : V} {r : Rv} (q : RepR K M H0 h H v r) : Opd K M h H v r := by
  cases r with
  | v d => exact q
  | o x => obtain ⟨p, e, _, n, ro⟩ := q; exact ⟨p, e, n, ro⟩
theorem Opd.mono {v : V} {r : Rv} (x : Tr h H h' H') (rel : RelH K M h H) (q : Opd K M h H v r) : Opd K M h' H' v r := by
  cases r with
  | v d => exact Rep.mono (x.mn rel) q
  | o u =>
    obtain ⟨p, e, n, ro⟩ := q
    obtain ⟨w, hw⟩ := ro.there
    obtain ⟨h1, h2⟩ := x.keep p w hw n
    exact ⟨p, e, h2, ro.mono (x.mn rel) (h1.trans hw.symm)⟩
theorem Aft.v {d : D} {v : V} (a : Aft K M h H h Q (.v d)) (rel : RelH K M h H) (r : Rep K M H v d) : Q v H := a v H .refl rel r
theorem Aft.newL {ds : List D} {vs : List V} {p : Addr} (a : Aft K M h H h Q (.o (.lst ds))) (rel : RelH K M h H) (n : H p = none) (r : Reps K M H vs ds) : Q (.ref p) (upd H p (.lst vs)) :=
  a _ _ (Tr.new rel n) (rel.new n) ⟨p, rfl, n, rel.free n, vs, upd_same, r.mono ((Tr.new rel n).mn rel)⟩
theorem Aft.newT {ds : List D} {vs : List V} (a : Aft K M h H h Q (.v (.tup ds))) (rel : RelH K M h H) (r : Reps K M H vs ds) : NewT Q H vs := fun p o n d =>
  a _ _ (Tr.new rel n) (rel.new n) (.tup (.inl ⟨o, upd_same, d⟩) (r.mono ((Tr.new rel n).mn rel)))
theorem opd_lt {v : V} {r : Rv} {xs : List D} (o : Opd K M h H v r) (rel : RelH K M h H) (e : ltV r h = some xs) : ∃ a vs, v = .ref a ∧ H a = some (.lst vs) ∧ Reps K M H vs xs := by
  unfold ltV at e
  split at e
  · rename_i ys q
    cases e
    unfold ob at q
    split at q
    · rename_i a
      cases o
      obtain ⟨vs, e1, r1⟩ := rel _ _ q
      exact ⟨_, vs, rfl, e1, r1⟩
    · cases q
      obtain ⟨p, e0, _, vs, e1, r1⟩ := o
      exact ⟨p, vs, e0, e1, r1⟩
    · cases q
  · cases e
theorem opd_ls {v : V} {r : Rv} {xs : List D} (o : Opd K M h H v r) (rel : RelH K M h H) (e : lsV r h = some xs) : ∃ a vs, v = .ref a ∧ SqL K H a vs ∧ Reps K M H vs xs := by
  unfold lsV at e
  split at e
  · cases e
    cases o with
    | fl s r => exact ⟨_, _, rfl, s.seq, r⟩
  · obtain ⟨a, vs, e1, e2, e3⟩ := opd_lt o rel (show ltV r h = some xs from e)
    exact ⟨a, vs, e1, .inl (.inl e2), e3⟩
theorem opd_sq {v : V} {r : Rv} {xs : List D} (o : Opd K M h H v r) (rel : RelH K M h H) (e : sqV r h = some xs) : ∃ a vs, v = .ref a ∧ (SqL K H a vs ∨ SqD K H a vs) ∧ Reps K M H vs xs := by
  unfold sqV at e
  split at e
  · cases e
    cases o with
    | tup s r => exact ⟨_, _, rfl, .inr s, r⟩
  · obtain ⟨a, vs, e1, e2, e3⟩ := opd_ls o rel e
    exact ⟨a, vs, e1, .inl e2, e3⟩
end
/-! ### operators -/
def opOf : Bop → Operator
  | .add => .Add | .sub => .Sub | .mul => .Mult | .fdiv => .FloorDiv | .mod => .Mod | .pow => .Pow | .shl => .LShift | .shr => .RShift | .band => .BitAnd | .bxor => .BitXor | .bor => .BitOr
def rBin (K : PySem.W.Frag) (M : Str → Option Value) (f : Rv → Rv → AH → Option Rv) : R2 := fun x y H Q => ∃ h xr yr r, RelH K M h H ∧ Opd K M h H x xr ∧ Opd K M h H y yr ∧ f xr yr h = some r ∧ Aft K M h H h Q r
section
variable {X : Cx}
theorem add_ok : OpR X (binaryOp .Add) (rBin X.K X.mg addD) := by
  intro pins s σ H x y v u Q I rx ry hh
  obtain ⟨h, xr, yr, r, rel, ox, oy, e, a⟩ := hh
  unfold addD at e
  split at e
  · cases e; cases ox; cases oy
    exact op_add pins s σ H _ _ v u Q I rx ry ⟨_, _, rfl, rfl, a.v rel (.int _)⟩
  · split at e
    · cases e; cases ox; cases oy
      exact op_add_str pins s σ H _ _ v u Q I rx ry ⟨_, _, rfl, rfl, by assumption, a.v rel (.str _)⟩
    · cases e
  · split at e
    · cases e
      rename_i xs ys hz
      cases ox with
      | tup s1 r1 =>
        cases oy with
        | tup s2 r2 =>
          refine op_catX pins s σ H _ _ v u Q I rx ry ⟨_, _, _, _, rfl, rfl, s1.sq, s2.sq, by rw [r1.length, r2.length]; exact hz, ?_⟩
          refine ⟨fun z => a.v rel ?_, fun _ z => a.v rel ?_, a.newT rel (r1.append r2)⟩
          · subst z
            cases r1
            exact .tup s2 r2
          · subst z
            cases r2
            rw [List.append_nil]
            exact .tup s1 r1
    · cases e
  · cases e; cases ox; cases oy
    exact op_add_ib pins s σ H _ _ v u Q I rx ry ⟨_, _, rfl, rfl, a.v rel (.int _)⟩
  · split at e
    · cases e
    · rename_i xs ex
      split at e
      · cases e
      · rename_i ys ey
        split at e
        · cases e
          rename_i hz
          obtain ⟨p, vs, rfl, h1, r1⟩ := opd_lt ox rel ex
          obtain ⟨q, ws, rfl, h2, r2⟩ := opd_lt oy rel ey
          exact op_cat pins s σ H _ _ v u Q I rx ry ⟨_, _, _, _, rfl, rfl, h1, h2, by rw [r1.length, r2.length]; exact hz, fun p hp => a.newL rel hp (r1.append r2)⟩
        · cases e
theorem mul_ok : OpR X (binaryOp .Mult) (rBin X.K X.mg mulD) := by
  intro pins s σ H x y v u Q I rx ry hh
  obtain ⟨h, xr, yr, r, rel, ox, oy, e, a⟩ := hh
  unfold mulD at e
  split at e
  · rename_i k
    cases oy
    split at e
    · rename_i i
      cases ox
      split at e
      · rename_i hz
        cases e
        rw [Bool.or_eq_true] at hz
        rcases hz with hz | hz
        · refine op_mul pins s σ H _ _ v u Q I rx ry ⟨_, _, rfl, rfl, ?_, a.v rel (.int _)⟩
          unfold mulOk at hz
          simp only [Bool.or_eq_true, Bool.and_eq_true, decide_eq_true_eq] at hz
          exact hz
        · refine op_mulW pins s σ H _ _ v u Q I rx ry ⟨_, _, rfl, rfl, ?_, a.v rel (.int _)⟩
          unfold wideOk at hz
          simp only [Bool.and_eq_true, decide_eq_true_eq] at hz
          exact wide_mul hz.1 hz.2 (by omega) (by omega) (by omega)
      · cases e
    · split at e
      · rename_i xs hz
        cases e
        cases ox with
        | tup s1 r1 =>
          refine op_repX pins s σ H _ _ v u Q I rx ry ⟨_, _, _, rfl, rfl, s1.sq, hz.1, hz.2.1, by rw [r1.length]; exact hz.2.2, fun z => a.v rel (.tup s1 ?_), a.newT rel (r1.rep _)⟩
          unfold rept
          rcases z with z | z
          · subst z
            cases r1
            rw [show (List.replicate k.toNat ([] : List D)).flatten = [] by simp]
            exact .nil
          · subst z
            rw [show (List.replicate (1 : Int).toNat xs).flatten = xs by simp]
            exact r1
      · cases e
    · split at e
      · rename_i xs ex
        split at e
        · rename_i hz
          cases e
          obtain ⟨p, vs, rfl, h1, r1⟩ := opd_lt ox rel ex
          exact op_rep pins s σ H _ _ v u Q I rx ry ⟨_, _, _, rfl, rfl, h1, hz.1, hz.2.1, by rw [r1.length]; exact hz.2.2, fun p hp => a.newL rel hp (r1.rep _)⟩
        · cases e
      · cases e
  · cases e
theorem int_ok {op : Bop} (h1 : op ≠ .add) (h2 : op ≠ .mul) : OpR X (binaryOp (opOf op)) (rBin X.K X.mg (binD op)) := by
  intro pins s σ H x y v u Q I rx ry hh
  obtain ⟨h, xr, yr, r, rel, ox, oy, e, a⟩ := hh
  have e' : ∃ i j k, xr = .v (.int i) ∧ yr = .v (.int j) ∧ intOp op i j = some k ∧ r = .v (.int k) := by
    unfold binD at e
    split at e
    · exact absurd rfl h1
    · exact absurd rfl h2
    · split at e
      · split at e
        · split at e
          · rename_i q
            cases e
            exact ⟨_, _, _, rfl, rfl, q, rfl⟩
          · cases e
        · cases e
      · cases e
  obtain ⟨i, j, k, rfl, rfl, ek, rfl⟩ := e'
  cases ox; cases oy
  have q := a.v rel (.int k)
  cases op with
  | add => exact absurd rfl h1
  | mul => exact absurd rfl h2
  | sub =>
    cases ek
    exact op_sub pins s σ H _ _ v u Q I rx ry ⟨_,
        _, rfl, rfl, q⟩
  | fdiv =>
    dsimp only [intOp] at ek
    split at ek
    · cases ek
      exact op_fdiv pins s σ H _ _ v u Q I rx ry ⟨_, _, rfl, rfl, by assumption, q⟩
    · cases ek
  | mod =>
    dsimp only [intOp] at ek
    split at ek
    · cases ek
      exact op_mod pins s σ H _ _ v u Q I rx ry ⟨_, _, rfl, rfl, by assumption, q⟩
    · cases ek
  | pow =>
    dsimp only [intOp] at ek
    split at ek
    · cases ek
      exact op_pow pins s σ H _ _ v u Q I rx ry ⟨_, _, rfl, rfl, by assumption, q⟩
    · cases ek
  | shl =>
    dsimp only [intOp] at ek
    split at ek
    · cases ek
      exact op_shl pins s σ H _ _ v u Q I rx ry ⟨_, _, rfl, rfl, by assumption, q⟩
    · cases ek
  | shr =>
    dsimp only [intOp] at ek
    split at ek
    · cases ek
      exact op_shr pins s σ H _ _ v u Q I rx ry ⟨_, _, rfl, rfl, by assumption, q⟩
    · cases ek
  | band =>
    cases ek
    exact op_and pins s σ H _ _ v u Q I rx ry ⟨_,
        _, rfl, rfl, q⟩
  | bxor =>
    cases ek
    exact op_xor pins s σ H _ _ v u Q I rx ry ⟨_,
        _, rfl, rfl, q⟩
  | bor =>
    cases ek
    exact op_or pins s σ H _ _ v u Q I rx ry ⟨_,
        _, rfl, rfl, q⟩
theorem bin_ok (op : Bop) : OpR X (binaryOp (opOf op)) (rBin X.K X.mg (binD op)) := by
  cases op with
  | add => exact add_ok
  | mul => exact mul_ok
  | _ => exact int_ok (fun z => nomatch z) (fun z => nomatch z)
/-- x op= y -/
def rAug (K : PySem.W.Frag) (M : Str → Option Value) (op : Bop) : R2 := fun x y H Q => ∃ h d yr r h', RelH K M h H ∧ Rep K M H x d ∧ Opd K M h H y yr ∧ augD op d yr h = some (r, h') ∧ Aft K M h H h' Q r
theorem aug_ok (op : Bop) : OpR X (inplaceOp (opOf op)) (rAug X.K X.mg op) := by
  intro pins s σ H x y v u Q I rx ry hh
  obtain ⟨h, d, yr, r, h', rel, ox, oy, e, a⟩ := hh
  unfold augD at e
  split at e
  · cases ox
    split at e
    · split at e
      · rename_i xs ex
        split at e
        · rename_i ys ey
          split at e
          · rename_i hz
            cases e
            obtain ⟨vs, h1, r1⟩ := rel _ _ ex
            obtain ⟨q, ws, rfl, h2, r2⟩ := opd_lt oy rel ey
            refine iop_ext pins s σ H _ _ v u Q I rx ry ⟨_, _, _, _, rfl, rfl, h1, h2, by rw [r1.length, r2.length]; exact hz, ?_⟩
            refine a _ _ (Tr.write rel ex) (RelH.write rel ex fun m => ⟨_, upd_same, (r1.append r2).mono m⟩) (.loc _)
          · cases e
        · cases e
      · cases e
    · cases e
  · cases ox
    split at e
    · cases oy
      split at e
      · cases e
        exact iop_add pins s σ H _ _ v u Q I rx ry ⟨_, _, rfl, rfl, a.v rel (.int _)⟩
      · cases e
        exact iop_sub pins s σ H _ _ v u Q I rx ry ⟨_, _, rfl, rfl, a.v rel (.int _)⟩
      · cases e
    · cases e
  · cases ox
    split at e
    · cases oy
      split at e
      · split at e
        · cases e
          exact iop_add_str pins s σ H _ _ v u Q I rx ry ⟨_, _, rfl, rfl, by assumption, a.v rel (.str _)⟩
        · cases e
      · cases e
    · cases e
  · cases e
end
end Py
namespace Py
open L2 PySem.Spec PySem PyProof.Rows
/-! ### data that are compared -/
mutual
def toP : D → PyData
  | .non => .none
  | .bl b => .bool b
  | .int i => .int i
  | .str s => .str s
  | .tup xs => .tuple (toPs xs)
  | .loc _ => .none
  | .fn _ => .none
  | .fl xs => .list (toPs xs)
def toPs : List D → List PyData
  | [] => []
  | x :: r => toP x :: toPs r
end
theorem toPs_length : ∀ xs : List D, (toPs xs).length = xs.length
  | [] => rfl
  | x :: r => by rw [toPs, List.length_cons, List.length_cons, toPs_length r]
mutual
theorem eqv_P : ∀ (n m : Nat) (d e : D), pu n d = true → pu m e = true → PyData.eqv (toP d) (toP e) = eqv d e
  | n + 1, m + 1, .tup xs, .tup ys, h1, h2 => by
    rw [pu, List.all_eq_true] at h1 h2
    rw [toP, toP, PyData.eqv, eqv]
    exact eqvs_P n m xs ys h1 h2
  | n, m, .non, e, _, _ => by cases e <;> (cases m <;> first | rfl | simp_all [pu, toP, PyData.eqv, eqv])
  | n, m, .bl b, e, _, _ => by cases e <;> (cases m <;> first | rfl | simp_all [pu, toP, PyData.eqv, eqv])
  | n, m, .int i, e, _, _ => by cases e <;> (cases m <;> first | rfl | simp_all [pu, toP, PyData.eqv, eqv])
  | n, m, .str s, e, _, _ => by cases e <;> (cases m <;> first | rfl | simp_all [pu, toP, PyData.eqv, eqv])
  | n + 1, 0, .tup xs, e, h1, h2 => by cases e <;> first | rfl | (simp_all [pu, toP, PyData.eqv, eqv]; done)
  | n + 1, m + 1, .tup xs, .non, h1, h2 => rfl
  | n + 1, m + 1, .tup xs, .bl _, h1, h2 => rfl
  | n + 1, m + 1, .tup xs, .int _, h1, h2 => rfl
  | n + 1, m + 1, .tup xs, .str _, h1, h2 => rfl
theorem eqvs_P : ∀ (n m : Nat) (xs ys : List D), (∀ x ∈ xs, pu n x = true) → (∀ y ∈ ys, pu m y = true) → PyData.eqvAll (toPs xs) (toPs ys) = eqvs xs ys
  | n, m, [], [], _, _ => rfl
  | n, m, [], y :: ys, _, _ => rfl
  | n, m, x :: xs, [], _, _ => rfl
  | n, m, x :: xs, y :: ys, h1, h2 => by
    rw [toPs, toPs, PyData.eqvAll, eqvs, eqv_P n m x y (h1 _ List.mem_cons_self) (h2 _ List.mem_cons_self), eqvs_P n m xs ys (fun z hz => h1 z (List.mem_cons_of_mem _ hz)) fun z hz => h2 z (List.mem_cons_of_mem _ hz)]
end
section
variable {K : PySem.W.Frag} {M : Str → Option Value} {h : AH} {H : Hp}
mutual
theorem dp_of : ∀ (n : Nat) (d : D) (v : V), Rep K M H v d → pu n d = true → Dp K H v (toP d) ∧ (toP d).canLay0 = true ∧ (toP d).depth ≤ n
  | n, .non, v, r, _ => by cases r; exact ⟨.non, rfl, Nat.zero_le _⟩
  | n, .bl b, v, r, _ => by cases r; exact ⟨.bl b, rfl, Nat.zero_le _⟩
  | n, .int i, v, r, _ => by cases r; exact ⟨.int i, rfl, Nat.zero_le _⟩
  | n, .str s, v, r, q => by
    cases r
    refine ⟨.str s, ?_, Nat.zero_le _⟩
    rw [toP, PyData.canLay0]
    cases n <;> exact q
  | n + 1, .tup xs, v, r, q => by
    cases r with
    | tup s rs =>
      rw [pu, List.all_eq_true] at q
      obtain ⟨a, b, c⟩ := dps_of n xs _ rs q
      exact ⟨.tup s.sq a, b, Nat.succ_le_succ c⟩
  | 0, .tup xs, v, r, q => by simp [pu] at q
  | n, .loc a, v, r, q => by cases n <;> simp [pu] at q
  | n, .fn x, v, r, q => by cases n <;> simp [pu] at q
  | n, .fl xs, v, r, q => by cases n <;> simp [pu] at q
theorem dps_of : ∀ (n : Nat) (xs : List D) (vs : List V), Reps K M H vs xs → (∀ x ∈ xs, pu n x = true) → DpAll K H vs (toPs xs) ∧ PyData.canLayAll0 (toPs xs) = true ∧ PyData.depthAll (toPs xs) ≤ n
  | n, [], vs, r, _ => by cases r; exact ⟨.nil, rfl, Nat.zero_le _⟩
  | n, x :: xs, vs, r, q => by
    cases r with
    | cons r1 r2 =>
      obtain ⟨a, b, c⟩ := dp_of n x _ r1 (q _ List.mem_cons_self)
      obtain ⟨a', b', c'⟩ := dps_of n xs _ r2 fun z hz => q z (List.mem_cons_of_mem _ hz)
      refine ⟨.cons a a', ?_, ?_⟩
      · rw [toPs, PyData.canLayAll0, b, b']; rfl
      · rw [toPs, PyData.depthAll]; omega
end
theorem shaped_of {n : Nat} {d : PyData} (h1 : d.canLay0 = true) (h2 : d.depth ≤ n) (h3 : n ≤ 64) : SeqAt.shaped d = true := by
  unfold SeqAt.shaped
  rw [h1, Bool.true_and]
  exact decide_eq_true
      (by omega)
/-- a list's items as data -/
theorem dl_of {a : Addr} {vs : List V} {xs : List D} (s : SqL K H a vs) (r : Reps K M H vs xs) (q : xs.all (pu 40) = true) : Dp K H (.ref a) (.list (toPs xs)) ∧ SeqAt.shaped (.list (toPs xs)) = true := by
  rw [List.all_eq_true] at q
  obtain ⟨p, b, c⟩ := dps_of 40 xs vs r q
  exact ⟨.lst s p, shaped_of (n := 41) b (by rw [PyData.depth]; omega) (by omega)⟩
theorem dt_of {a : Addr} {vs : List V} {xs : List D} (s : SqD K H a vs) (r : Reps K M H vs xs) (q : xs.all (pu 40) = true) : Dp K H (.ref a) (.tuple (toPs xs)) ∧ SeqAt.shaped (.tuple (toPs xs)) = true := by
  rw [List.all_eq_true] at q
  obtain ⟨p, b, c⟩ := dps_of 40 xs vs r q
  exact ⟨.tup s.sq p, shaped_of (n := 41) b (by rw [PyData.depth]; omega) (by omega)⟩
theorem any_P {d : D} (q : pu 40 d = true) : ∀ {xs : List D}, xs.all (pu 40) = true → ((toPs xs).any fun z => PyData.eqv z (toP d)) = xs.any fun z => eqv z d
  | [], _ => rfl
  | x :: xs, h => by
    rw [List.all_cons, Bool.and_eq_true]
        at h
    rw [toPs, List.any_cons, List.any_cons, eqv_P 40 40 x d h.1 q, any_P q h.2]
end
theorem lt_two (a b c d : Int) : PySem.W.dataLt (.tuple [.int a, .int b]) (.tuple [.int c, .int d]) = decide (a < c ∨ (a = c ∧ b < d)) := by
  show PyProof.Rows.lexLt itemOrd [.inl 1, .inl a, .inl 1, .inl b, .inl 0] [.inl 1, .inl c, .inl 1, .inl d, .inl 0] = _
  have e : ∀ x y : Int, itemLt (.inl x) (.inl y) = decide (x < y) := fun x y => rfl
  simp only [PyProof.Rows.lexLt, e]
  rcases Int.lt_trichotomy a c with h | h | h
  · simp [h]
  · subst h
    rcases Int.lt_trichotomy b d with h | h | h
    · simp [h]
    · simp [h]
    · have : ¬ b < d := by omega
      simp [this]
  · have h1 : ¬ a < c := by omega
    have h2 : ¬ a = c := by omega
    simp [h, h1, h2]
theorem two_rep {K : W.Frag} {M : Str → Option Value} {h : AH} {H : Hp} {x : V} {a b : Int} (ox : Opd K M h H x (.v (.tup [.int a, .int b]))) : Dp K H x (.tuple [.int a, .int b]) := by
  cases ox with
  | tup s r =>
    obtain ⟨d1, p1⟩ := dt_of s r (by rfl)
    exact d1
/-! ### == -/
def rCmp (K : PySem.W.Frag) (M : Str → Option Value) (f : Rv → Rv → AH → Option Bool) : R2 := fun x y H Q => ∃ h xr yr k, RelH K M h H ∧ Opd K M h H x xr ∧ Opd K M h H y yr ∧ f xr yr h = some k ∧ Q (.bl k) H
section
variable {X : Cx}
theorem eq_data (hu : X.A.units + 64 < cLine) {h : AH} {H : Hp} {x y : V} {xr yr : Rv} {k : Bool} (rel : RelH X.K X.mg h H) (ox : Opd X.K X.mg h H x xr) (oy : Opd X.K X.mg h H y yr) (e : eqD xr yr h = some k) :
    (∃ s t, x = .str s ∧ y = .str t ∧ k = decide (s = t)) ∨ ∃ d e, Dp X.K H x d ∧ Dp X.K H y e ∧ SeqAt.shaped d = true ∧ SeqAt.shaped e = true ∧ PyData.eqv d e = k := by
  unfold eqD at e
  split at e
  · cases e; cases ox; cases oy
    exact .inr ⟨_, _, .int _, .int _, rfl, rfl, rfl⟩
  · cases e; cases ox; cases oy
    exact .inl ⟨_, _, rfl, rfl, rfl⟩
  · split at e
    · rename_i xs ys q
      cases e
      rw [Bool.and_eq_true] at q
      cases ox with
      | tup s1 r1 =>
        cases oy with
        | tup s2 r2 =>
          obtain ⟨d1, p1⟩ := dt_of s1 r1 q.1
          obtain ⟨d2, p2⟩ := dt_of s2 r2 q.2
          refine .inr ⟨_, _, d1, d2, p1, p2, ?_⟩
          rw [PyData.eqv]
          exact eqvs_P 40 40 _ _ (List.all_eq_true.mp q.1) (List.all_eq_true.mp q.2)
    · cases e
  · split at e
    · rename_i xs ys ex ey
      split at e
      · rename_i q
        cases e
        rw [Bool.and_eq_true] at q
        obtain ⟨p, vs, rfl, s1, r1⟩ := opd_ls ox rel ex
        obtain ⟨p', ws, rfl, s2, r2⟩ := opd_ls oy rel ey
        obtain ⟨d1, p1⟩ := dl_of s1 r1 q.1
        obtain ⟨d2, p2⟩ := dl_of s2 r2 q.2
        refine .inr ⟨_, _, d1, d2, p1, p2, ?_⟩
        rw [PyData.eqv]
        exact eqvs_P 40 40 _ _ (List.all_eq_true.mp q.1) (List.all_eq_true.mp q.2)
      · cases e
    · split at e
      · split at e
        · rename_i d e' q
          cases e
          rw [Bool.and_eq_true] at q
          obtain ⟨d1, p1, l1⟩ := dp_of 40 _ _ ox q.1
          obtain ⟨d2, p2, l2⟩ := dp_of 40 _ _ oy q.2
          exact .inr ⟨_, _, d1, d2, shaped_of p1 l1 (by omega), shaped_of p2 l2 (by omega), eqv_P 40 40 _ _ q.1 q.2⟩
        · cases e
      · cases e
    · cases e
theorem eq_ok (hu : X.A.units + 64 < cLine) : OpR X (compareOp .Eq) (rCmp X.K X.mg eqD) := by
  intro pins s σ H x y v u Q I rx ry hh
  obtain ⟨h, xr, yr, k, rel, ox, oy, e, q⟩ := hh
  rcases eq_data hu rel ox oy e with ⟨a, b, rfl, rfl, rfl⟩ | ⟨d, e, d1, d2, p1, p2, rfl⟩
  · refine op_eq pins s σ H _ _ v u Q I rx ry ⟨rfl, ?_⟩
    have e1 : decide (V.str a = V.str b) = decide (a = b) := by simp
    rw [e1]; exact q
  · exact op_eqD hu pins s σ H _ _ v u Q I rx ry ⟨_, _, d1, d2, p1, p2, q⟩
theorem ne_ok (hu : X.A.units + 64 < cLine) : OpR X (compareOp .NotEq) (rCmp X.K X.mg fun x y h => (eqD x y h).map (!·)) := by
  intro pins s σ H x y v u Q I rx ry hh
  obtain ⟨h, xr, yr, k, rel, ox, oy, e, q⟩ := hh
  obtain ⟨k', e2, rfl⟩ := Option.map_eq_some_iff.mp e
  rcases eq_data hu rel ox oy e2 with ⟨a, b, rfl, rfl, rfl⟩ | ⟨d, e, d1, d2, p1, p2, rfl⟩
  · refine op_ne pins s σ H _ _ v u Q I rx ry ⟨rfl, ?_⟩
    have e1 : decide (V.str a = V.str b) = decide (a = b) := by simp
    rw [e1]; exact q
  · exact op_neD hu pins s σ H _ _ v u Q I rx ry ⟨_, _, d1, d2, p1, p2, q⟩
/-! ### in -/
theorem opd_dc {h : AH} {H : Hp} {v : V} {r : Rv} {kvs : List (D × D)} (o : Opd X.K X.mg h H v r) (rel : RelH X.K X.mg h H) (e : dcV r h = some kvs) : ∃ a, v = .ref a ∧ RD X.K X.mg H a kvs := by
  unfold dcV at e
  split at e
  · rename_i ys q
    cases e
    unfold ob at q
    split at q
    · rename_i a
      cases o
      exact ⟨_, rfl, rel _ _ q⟩
    · cases q
      obtain ⟨p, e0, _, r1⟩ := o
      exact ⟨p, e0, r1⟩
    · cases q
  · cases e
theorem in_data (hu : X.A.units + 65 < cLine) {pins : List (Addr × Obj)} {s : Shared} {σ : L2.St} {h : AH} {H : Hp} {x y : V} {v u : Value} {xr yr : Rv} {k : Bool} {Q : Value → Shared → Prop} {b : Bool} (I : L2.Inv X pins σ H s) (rx : RelV x v) (ry : RelV y u)
    (rel : RelH X.K X.mg h H) (ox : Opd X.K X.mg h H x xr) (oy : Opd X.K X.mg h H y yr) (e : inD xr yr h = some k) (q : Q (.bool (if b then !k else k)) s) :
    wpAny (model X.prog X.w) X.A (compareOp (if b then .NotIn else .In) v u) Q X.xe s := by
  unfold inD at e
  split at e
  · rename_i d
    split at e
    · rename_i ys ey
      split at e
      · rename_i p
        cases e
        rw [Bool.and_eq_true] at p
        obtain ⟨a, ws, rfl, hS, r2⟩ := opd_sq oy rel ey
        obtain ⟨d1, p1, l1⟩ := dp_of 40 _ _ ox p.1
        obtain ⟨as, h1⟩ := Dp.reads I _ _ _ d1 rx
        have s1 := shaped_of p1 l1 (by omega)
        have pe := any_P p.1 p.2
        rcases hS with hS | hS
        · obtain ⟨d2, s2⟩ := dl_of hS r2 p.2
          obtain ⟨bs, h2⟩ := Dp.reads I _ _ _ d2 ry
          cases b with
          | true => exact SeqAt.notIn_list_reads h2 h1 (SeqAt.canLay_of_shaped s2) (SeqAt.canLay_of_shaped s1) (room_in_shaped s1 hu) (by rw [pe]; exact q)
          | false => exact SeqAt.in_list_reads h2 h1 (SeqAt.canLay_of_shaped s2) (SeqAt.canLay_of_shaped s1) (room_in_shaped s1 hu) (by rw [pe]; exact q)
        · obtain ⟨d2, s2⟩ := dt_of hS r2 p.2
          obtain ⟨bs, h2⟩ := Dp.reads I _ _ _ d2 ry
          cases b with
          | true => exact SeqAt.notIn_tuple_reads h2 h1 (SeqAt.canLay_of_shaped s2) (SeqAt.canLay_of_shaped s1) (room_in_shaped s1 hu) (by rw [pe]; exact q)
          | false => exact SeqAt.in_tuple_reads h2 h1 (SeqAt.canLay_of_shaped s2) (SeqAt.canLay_of_shaped s1) (room_in_shaped s1 hu) (by rw [pe]; exact q)
      · cases e
    · split at e
      · rename_i kvs ek
        obtain ⟨a, _, φ, _, z⟩ := opd_dc oy rel ek
        exact z.elim
      · cases e
  · cases e
theorem in_ok (hu : X.A.units + 65 < cLine) : OpR X (compareOp .In) (rCmp X.K X.mg inD) := by
  intro pins s σ H x y v u Q I rx ry hh
  obtain ⟨h, xr, yr, k, rel, ox, oy, e, q⟩ := hh
  exact in_data (b := false) hu I rx ry rel ox oy e ⟨.bl k, H, I, rfl, q⟩
theorem nin_ok (hu : X.A.units + 65 < cLine) : OpR X (compareOp .NotIn) (rCmp X.K X.mg fun x y h => (inD x y h).map (!·)) := by
  intro pins s σ H x y v u Q I rx ry hh
  obtain ⟨h, xr, yr, k, rel, ox, oy, e, q⟩ := hh
  obtain ⟨k', e2, rfl⟩ := Option.map_eq_some_iff.mp e
  exact in_data (b := true) hu I rx ry rel ox oy e2 ⟨.bl (!k'), H, I, rfl, q⟩
theorem lt2_ok (hu : X.A.units + 64 < cLine) {pins : List (Addr × Obj)} {s : Shared} {σ : L2.St} {h : AH} {H : Hp} {x y : V} {v u : Value} {a b c d : Int} {Q : V → Hp → Prop} (I : L2.Inv X pins σ H s) (rx : RelV x v) (ry : RelV y u)
    (ox : Opd X.K X.mg h H x (.v (.tup [.int a, .int b]))) (oy : Opd X.K X.mg h H y (.v (.tup [.int c, .int d]))) (q : Q (.bl (decide (a < c ∨ (a = c ∧ b < d)))) H) : ∀ {prog w E}, wpAny (model prog w) X.A (compareOp .Lt v u) (fun r s' => ∃ z H', L2.Inv X pins σ H' s' ∧ RelV z r ∧ Q z H') E s := by
  intro prog w E
  obtain ⟨as, r1⟩ := Dp.reads I _ x v (two_rep ox) rx
  obtain ⟨bs, r2⟩ := Dp.reads I _ y u (two_rep oy) ry
  refine PySem.W.lt_data r1 r2 rfl (by simp) ?_ ?_
  · have e1 : (PyData.tuple [.int a, .int b]).depth ≤ 40 := by simp [PyData.depth, PyData.depthAll]
    omega
  · rw [lt_two]
    exact ⟨.bl _, H, I, rfl, q⟩
def copOf : Cop → CmpOp
  | .eq => .Eq | .ne => .NotEq | .lt => .Lt | .le => .LtE | .gt => .Gt | .ge => .GtE | .inn => .In | .nin => .NotIn
theorem cmp_ok (hu : X.A.units + 65 < cLine) (op : Cop) : OpR X (compareOp (copOf op)) (rCmp X.K X.mg (cmpD op)) := by
  cases op with
  | eq => exact eq_ok (by omega)
  | ne => exact ne_ok (by omega)
  | inn => exact in_ok hu
  | nin => exact nin_ok hu
  | lt =>
    intro pins s σ H x y v u Q I rx ry hh
    obtain ⟨h, xr, yr, k, rel, ox, oy, e, q⟩ := hh
    dsimp only [cmpD] at e
    split at e
    · cases e; cases ox; cases oy
      exact op_lt pins s σ H _ _ v u Q I rx ry ⟨_, _, rfl, rfl, q⟩
    · cases e
      exact lt2_ok (by omega) I rx ry ox oy q
    · cases e
  | le =>
    intro pins s σ H x y v u Q I rx ry hh
    obtain ⟨h, xr, yr, k, rel, ox, oy, e, q⟩ := hh
    dsimp only [cmpD] at e
    split at e
    · cases e; cases ox; cases oy
      exact op_le pins s σ H _ _ v u Q I rx ry ⟨_, _, rfl, rfl, q⟩
    · cases e
  | gt =>
    intro pins s σ H x y v u Q I rx ry hh
    obtain ⟨h, xr, yr, k, rel, ox, oy, e, q⟩ := hh
    dsimp only [cmpD] at e
    split at e
    · cases e; cases ox; cases oy
      exact op_gt pins s σ H _ _ v u Q I rx ry ⟨_, _, rfl, rfl, q⟩
    · cases e
  | ge =>
    intro pins s σ H x y v u Q I rx ry hh
    obtain ⟨h, xr, yr, k, rel, ox, oy, e, q⟩ := hh
    dsimp only [cmpD] at e
    split at e
    · cases e; cases ox; cases oy
      exact op_ge pins s σ H _ _ v u Q I rx ry ⟨_, _, rfl, rfl, q⟩
    · cases e
/-! ### truth -/
theorem tru_V {h : AH} {H : Hp} {v : V} {r : Rv} {k : Bool} (rel : RelH X.K X.mg h H) (o : Opd X.K X.mg h H v r) (e : tru r h = some k) : TruV X.K v H k := by
  have len : ∀ {vs : List V} {ds : List D}, Reps X.K X.mg H vs ds → (!ds.isEmpty) = !vs.isEmpty := fun {vs ds} r => by cases r <;> rfl
  unfold tru at e
  split at e
  · cases e; cases o; rfl
  · cases e; cases o; rfl
  · cases e; cases o; rfl
  · split at e
    · cases e; cases o
      rename_i s hz
      refine ⟨hz, ?_⟩
      rw [Bool.eq_iff_iff]
      simp
    · cases e
  · cases e
    cases o with
    | tup s r => exact .inr (.inl ⟨_, s.sq, len r⟩)
  · split at e
    · rename_i xs q
      cases e
      obtain ⟨a, vs, rfl, h1, r1⟩ := opd_lt (xs := xs) o rel (by unfold ltV; rw [q])
      exact .inl ⟨vs, .inl (.inl h1), len r1⟩
    · rename_i kvs q
      obtain ⟨a, _, φ, _, z⟩ := opd_dc (kvs := kvs) o rel (by unfold dcV; rw [q])
      exact z.elim
    · cases e
end
end Py
namespace Py
open L2 PySem.Spec PySem PyProof.Rows
section
variable {X : Cx}
/-! ### is None, is True -/
def rIs (K : PySem.W.Frag) (M : Str → Option Value) (c : D) (neg : Bool) : R2 := fun x y H Q => ∃ h xr k, RelH K M h H ∧ Opd K M h H x xr ∧ Rep K M H y c ∧ isD xr c = some k ∧ Q (.bl (k != neg)) H
theorem is_ok (c : D) (neg : Bool) : OpR X (compareOp (if neg then .IsNot else .Is)) (rIs X.K X.mg c neg) := by
  intro pins s σ H x y v u Q I rx ry hh
  obtain ⟨h, xr, k, rel, ox, oy, e, q⟩ := hh
  unfold isD at e
  split at e
  · cases oy
    have ek : decide (x = V.non) = k := by
      split at e
      · cases e; cases ox; rfl
      · cases e
        rename_i hne
        refine decide_eq_false fun z => ?_
        subst z
        cases xr with
        | v d => cases ox; exact hne rfl
        | o w => obtain ⟨p, e1, _⟩ := ox; cases e1
    cases neg with
    | true => exact op_notN pins s σ H _ _ v u Q I rx ry ⟨rfl, by rw [ek]; cases k <;> exact q⟩
    | false => exact op_isN pins s σ H _ _ v u Q I rx ry ⟨rfl, by rw [ek]; cases k <;> exact q⟩
  · cases oy
    rename_i b
    split at e
    · cases e; cases ox
      rename_i a
      have ea : decide (a = b) = (a == b) := by cases a <;> cases b <;> rfl
      cases neg with
      | true => exact op_notBl pins s σ H _ _ v u Q I rx ry ⟨_, _, rfl, rfl, by rw [ea]; revert q; cases (a == b) <;> exact id⟩
      | false => exact op_isBl pins s σ H _ _ v u Q I rx ry ⟨_, _, rfl, rfl, by rw [ea]; revert q; cases (a == b) <;> exact id⟩
    · cases e
  · cases e
/-! ### items -/
def rIxD (K : PySem.W.Frag) (M : Str → Option Value) : R2 := fun x y H Q => ∃ h xr yr d, RelH K M h H ∧ Opd K M h H x xr ∧ Opd K M h H y yr ∧ ixD xr yr h = some d ∧ ∀ v, Rep K M H v d → Q v H
theorem ixN_eq : Py.ixN = L2.ixN := rfl
theorem atI_eq {α : Type} (xs : List α) (i : Int) : Py.atI xs i = L2.atI xs i := rfl
theorem at_rep {K : PySem.W.Frag} {M : Str → Option Value} {H : Hp} {vs : List V} {xs : List D} {i : Int} {d : D} (r : Reps K M H vs xs) (e : Py.atI xs i = some d) : ∃ v, L2.atI vs i = some v ∧ Rep K M H v d := by
  rw [atI_eq] at e
  unfold L2.atI at e ⊢
  rw [r.length]
  cases q : L2.ixN xs.length i with
  | none =>
      rw [q] at e; cases e
  | some j =>
    rw [q] at e
    obtain ⟨v, h1, h2⟩ := r.get (show xs[j]? = some d from e)
    exact ⟨v, h1, h2⟩
theorem ix_ok : IxR X (rIxD X.K X.mg) := by
  intro value slice pins s σ H x y v u Q I rx ry hh hs
  obtain ⟨h, xr, yr, d, rel, ox, oy, e, q⟩ := hh
  unfold ixD at e
  split at e
  · split at e
    · rename_i xs ex
      split at e
      · cases oy
        obtain ⟨a, vs, rfl, hS, r⟩ := opd_sq ox rel ex
        obtain ⟨w, h1, h2⟩ := at_rep r e
        rcases hS with hS | hS
        · exact ix_list value slice pins s σ H _ _ v u Q I rx ry ⟨_, _, _, _, rfl, rfl, hS, h1, q _ h2⟩ hs
        · exact ix_tup value slice pins s σ H _ _ v u Q I rx ry ⟨_, _, _, _, rfl, rfl, hS.sq, h1, q _ h2⟩ hs
      · cases e
    · split at e
      · rename_i kvs ek
        obtain ⟨a, _, φ, _, z⟩ := opd_dc ox rel ek
        exact z.elim
      · split at e
        · split at e
          · rename_i hz
            obtain ⟨c, hc, rfl⟩ := Option.map_eq_some_iff.mp e
            cases ox
            cases oy
            exact ix_str value slice pins s σ H _ _ v u Q I rx ry ⟨_, _, c, rfl, rfl, by rw [sizeLine_eq]; exact hz, by rw [← atI_eq]; exact hc, q _ (.str _)⟩ hs
          · cases e
        · cases e
  · cases e
/-! ### slices -/
def rSlD (K : PySem.W.Frag) (M : Str → Option Value) : V → Option Int → Option Int → Hp → VK → Prop := fun x lo hi H Q => ∃ h xr r, RelH K M h H ∧ Opd K M h H x xr ∧ slD xr lo hi h = some r ∧ Aft K M h H h Q r
theorem cut_rep {K : PySem.W.Frag} {M : Str → Option Value} {H : Hp} {vs : List V} {xs : List D} (lo hi : Option Int) (r : Reps K M H vs xs) : Reps K M H (cutV vs lo hi) (cut xs lo hi) := by
  unfold cutV cut
  rw [r.length]
  exact (r.drop _).take _
theorem sl_ok : SlR X (rSlD X.K X.mg) := by
  intro pins s σ H x v vl vu lo hi sl Q I rx hs pl pu hh
  obtain ⟨h, xr, r, rel, ox, e, a⟩ := hh
  unfold slD at e
  split at e
  · cases e
    cases ox with
    | tup s1 r1 =>
      refine sl_tupX pins s σ H _ v vl vu lo hi sl Q I rx hs pl pu ⟨_, _, rfl, s1.sq, fun z => a.v rel (.tup s1 ?_), a.newT rel (cut_rep lo hi r1)⟩
      have e0 := cut_rep lo hi r1
      unfold cutV at e0
      rw [z.1, z.2, Nat.sub_zero, List.drop_zero, List.take_length] at e0
      exact e0
  · split at e
    · rename_i xs ex
      cases e
      obtain ⟨p, vs, rfl, s1, r1⟩ := opd_ls ox rel ex
      exact sl_list pins s σ H _ v vl vu lo hi sl Q I rx hs pl pu ⟨_, _, rfl, s1, fun q hq => a.newL rel hq (cut_rep lo hi r1)⟩
    · cases e
/-! ### a[i] = v -/
def rSetD (K : PySem.W.Frag) (M : Str → Option Value) : V → V → V → Hp → (Hp → Prop) → Prop := fun o i v H Q => ∃ h d k e h', RelH K M h H ∧ Rep K M H o d ∧ Rep K M H i k ∧ Rep K M H v e ∧ setD d k e h = some h' ∧ ∀ H', Tr h H h' H' → RelH K M h' H' → Q H'
theorem set_ok : PSet X (rSetD X.K X.mg) := by
  intro pins s σ H o i x ov iv u Q I ro ri rx hh
  obtain ⟨h, d, k, e, h', rel, po, pi, px, q, a⟩ := hh
  unfold setD at q
  split at q
  · cases po
    split at q
    · rename_i xs ex
      split at q
      · cases pi
        obtain ⟨j, hj, rfl⟩ := Option.map_eq_some_iff.mp q
        obtain ⟨vs, h1, r1⟩ := rel _ _ ex
        refine set_list pins s σ H _ _ _ ov iv u Q I ro ri rx ⟨_, _, _, j, rfl, rfl, h1, by rw [r1.length]; exact hj, a _ (Tr.write rel ex) (RelH.write rel ex fun m => ⟨_, upd_same, (r1.set j px).mono m⟩)⟩
      · cases q
    · rename_i kvs ek
      obtain ⟨φ, _, z⟩ := rel _ _ ek
      exact z.elim
    · cases q
  · cases q
/-! ### built-ins of one argument -/
def bi1 (K : PySem.W.Frag) (M : Str → Option Value) (b : Bi) : List V → Hp → VK → Prop := fun xs H Q => ∃ x h xr r, xs = [x] ∧ RelH K M h H ∧ Opd K M h H x xr ∧ b1D b xr h = some r ∧ Aft K M h H h Q r
theorem maxI_mem : ∀ (r : List Int) (i m : Int), r.foldl (fun m x => if m < x then x else m) i = m → (m = i ∨ m ∈ r) ∧ i ≤ m ∧ ∀ x ∈ r, x ≤ m
  | [], i, m, e => by
    cases e
    exact ⟨.inl rfl, Int.le_refl _, fun _ z => nomatch z⟩
  | x :: r, i, m, e => by
    obtain ⟨a, b, c⟩ := maxI_mem r (if i < x then x else i) m e
    have hx : (if i < x then x else i) = i ∨ (if i < x then x else i) = x := by split <;> simp
    have h1 : i ≤ (if i < x then x else i) ∧ x ≤ (if i < x then x else i) := by split <;> omega
    refine ⟨?_, by omega, fun y hy => ?_⟩
    · rcases a with a | a
      · rcases hx with z | z
        · exact .inl (a.trans z)
        · exact .inr (List.mem_cons.mpr (.inl (a.trans z)))
      · exact .inr (List.mem_cons_of_mem _ a)
    · rcases List.mem_cons.mp hy with z | z
      · rw [z]; omega
      · exact c y z
theorem minI_mem : ∀ (r : List Int) (i m : Int), r.foldl (fun m x => if x < m then x else m) i = m → (m = i ∨ m ∈ r) ∧ m ≤ i ∧ ∀ x ∈ r, m ≤ x
  | [], i, m, e => by
    cases e
    exact ⟨.inl rfl, Int.le_refl _, fun _ z => nomatch z⟩
  | x :: r, i, m, e => by
    obtain ⟨a, b, c⟩ := minI_mem r (if x < i then x else i) m e
    have hx : (if x < i then x else i) = i ∨ (if x < i then x else i) = x := by split <;> simp
    have h1 : (if x < i then x else i) ≤ i ∧ (if x < i then x else i) ≤ x := by split <;> omega
    refine ⟨?_, by omega, fun y hy => ?_⟩
    · rcases a with a | a
      · rcases hx with z | z
        · exact .inl (a.trans z)
        · exact .inr (List.mem_cons.mpr (.inl (a.trans z)))
      · exact .inr (List.mem_cons_of_mem _ a)
    · rcases List.mem_cons.mp hy with z | z
      · rw [z]; omega
      · exact c y z
theorem maxI_of {ns : List Int} {m : Int} (e : maxI ns = some m) : m ∈ ns ∧ ∀ x ∈ ns, x ≤ m := by
  cases ns with
  | nil => cases e
  | cons i r =>
    obtain ⟨a, b, c⟩ := maxI_mem r i m (Option.some.inj e)
    refine ⟨List.mem_cons.mpr a, fun x hx => ?_⟩
    rcases List.mem_cons.mp hx with z | z
    · rw [z]; exact b
    · exact c x z
theorem minI_of {ns : List Int} {m : Int} (e : minI ns = some m) : m ∈ ns ∧ ∀ x ∈ ns, m ≤ x := by
  cases ns with
  | nil => cases e
  | cons i r =>
    obtain ⟨a, b, c⟩ := minI_mem r i m (Option.some.inj e)
    refine ⟨List.mem_cons.mpr a, fun x hx => ?_⟩
    rcases List.mem_cons.mp hx with z | z
    · rw [z]; exact b
    · exact c x z
theorem insI_perm (x : Int) : ∀ l : List Int, (insI x l).Perm (x :: l)
  | [] => .refl _
  | y :: r => by
    unfold insI
    split
    · exact .refl _
    · exact ((insI_perm x r).cons y).trans (.swap x y r)
theorem insI_sorted (x : Int) : ∀ l : List Int, l.Pairwise (· ≤ ·) → (insI x l).Pairwise (· ≤ ·)
  | [], _ => by simp [insI]
  | y :: r, h => by
    unfold insI
    rw [List.pairwise_cons] at h
    split
    · rename_i q
      refine List.pairwise_cons.mpr ⟨fun z hz => ?_, List.pairwise_cons.mpr h⟩
      rcases List.mem_cons.mp hz with e | e
      · rw [e]; exact q
      · have := h.1 z e; omega
    · rename_i q
      refine List.pairwise_cons.mpr ⟨fun z hz => ?_, insI_sorted x r h.2⟩
      rcases List.mem_cons.mp ((insI_perm x r).mem_iff.mp hz) with e | e
      · rw [e]; omega
      · exact h.1 z e
theorem sortI_perm : ∀ l : List Int, (sortI l).Perm l
  | [] => .refl _
  | x :: r =>
      (insI_perm x _).trans ((sortI_perm r).cons x)
theorem sortI_sorted : ∀ l : List Int, (sortI l).Pairwise (· ≤ ·)
  | [] => .nil
  | x :: r => insI_sorted x _ (sortI_sorted r)
theorem sorted_eq {l m : List Int} (p : l.Perm m) (h1 : l.Pairwise (· ≤ ·)) (h2 : m.Pairwise (· ≤ ·)) : l = m :=
  List.Perm.eq_of_pairwise (le := (· ≤ ·)) (fun a b _ _ x y => Int.le_antisymm x y) h1 h2 p
theorem len_ok : CallR X (.builtin "len") (bi1 X.K X.mg .len) := by
  intro pins s σ H xs us Q I rv hh
  obtain ⟨x, h, xr, r, rfl, rel, ox, e, a⟩ := hh
  dsimp only [b1D] at e
  split at e
  · rename_i ys ey
    cases e
    obtain ⟨p, vs, rfl, hS, r1⟩ := opd_sq ox rel ey
    exact call_len_seq pins s σ H _ us Q I rv ⟨_, _, rfl, hS.imp id SqD.sq, a.v rel (by rw [r1.length]; exact .int _)⟩
  · split at e
    · rename_i kvs ek
      obtain ⟨p, _, φ, _, z⟩ := opd_dc ox rel ek
      exact z.elim
    · split at e
      · split at e
        · cases e; cases ox
          exact call_len_str pins s σ H _ us Q I rv ⟨_, rfl, by assumption, a.v rel (.int _)⟩
        · cases e
      · cases e
theorem int_ok1 : CallR X (.type "int") (bi1 X.K X.mg .int) := by
  intro pins s σ H xs us Q I rv hh
  obtain ⟨x, h, xr, r, rfl, rel, ox, e, a⟩ := hh
  dsimp only [b1D] at e
  split at e
  · cases e; cases ox
    exact call_int1 pins s σ H _ us Q I rv (.inl ⟨_, rfl, a.v rel (.int _)⟩)
  · cases e; cases ox
    exact call_int1 pins s σ H _ us Q I rv (.inr ⟨_, rfl, a.v rel (.int _)⟩)
  · cases e
theorem bool_ok1 : CallR X (.type "bool") (bi1 X.K X.mg .bool) := by
  intro pins s σ H xs us Q I rv hh
  obtain ⟨x, h, xr, r, rfl, rel, ox, e, a⟩ := hh
  dsimp only [b1D] at e
  split at e
  · cases e; cases ox
    exact call_bool1 pins s σ H _ us Q I rv (.inl ⟨_, rfl, a.v rel (.bl _)⟩)
  · cases e; cases ox
    exact call_bool1 pins s σ H _ us Q I rv (.inr ⟨_, rfl, a.v rel (.bl _)⟩)
  · cases e
theorem str_ok1 : CallR X (.type "str") (bi1 X.K X.mg .str) := by
  intro pins s σ H xs us Q I rv hh
  obtain ⟨x, h, xr, r, rfl, rel, ox, e, a⟩ := hh
  dsimp only [b1D] at e
  split at e
  · split at e
    · cases e; cases ox
      exact call_str_int pins s σ H _ us Q I rv ⟨_, rfl, by assumption, a.v rel (.str _)⟩
    · cases e
  · cases e
theorem tup_ok1 : CallR X (.type "tuple") (bi1 X.K X.mg .tup) := by
  intro pins s σ H xs us Q I rv hh
  obtain ⟨x, h, xr, r, rfl, rel, ox, e, a⟩ := hh
  dsimp only [b1D] at e
  obtain ⟨ys, ey, rfl⟩ := Option.map_eq_some_iff.mp e
  obtain ⟨p, vs, rfl, hS, r1⟩ := opd_sq ox rel ey
  rcases hS with hS | hS
  · exact call_tupX pins s σ H _ us Q I rv ⟨_, _, rfl, .inl ⟨hS, a.newT rel r1⟩⟩
  · exact call_tupX pins s σ H _ us Q I rv ⟨_, _, rfl, .inr ⟨hS.sq, a.v rel (.tup hS r1)⟩⟩
theorem lst_ok1 : CallR X (.type "list") (bi1 X.K X.mg .lst) := by
  intro pins s σ H xs us Q I rv hh
  obtain ⟨x, h, xr, r, rfl, rel, ox, e, a⟩ := hh
  dsimp only [b1D] at e
  obtain ⟨ys, ey, rfl⟩ := Option.map_eq_some_iff.mp e
  obtain ⟨p, vs, rfl, hS, r1⟩ := opd_sq ox rel ey
  exact call_list_of pins s σ H _ us Q I rv ⟨_, _, rfl, hS.imp id SqD.sq, fun l hl => a.newL rel hl r1⟩
theorem abs_ok1 : CallR X (.builtin "abs") (bi1 X.K X.mg .abs) := by
  intro pins s σ H xs us Q I rv hh
  obtain ⟨x, h, xr, r, rfl, rel, ox, e, a⟩ := hh
  dsimp only [b1D] at e
  split at e
  · cases e; cases ox
    exact L2.call_abs pins s σ H _ us Q I rv ⟨_, rfl, a.v rel (.int _)⟩
  · cases e
theorem any_ok1 (hc : X.calm = true) : CallR X (.builtin "any") (bi1 X.K X.mg .any) := by
  intro pins s σ H xs us Q I rv hh
  obtain ⟨x, h, xr, r, rfl, rel, ox, e, a⟩ := hh
  dsimp only [b1D] at e
  split at e
  · rename_i ys ey
    obtain ⟨bs, eb, rfl⟩ := Option.map_eq_some_iff.mp e
    obtain ⟨p, vs, rfl, hS, r1⟩ := opd_ls ox rel ey
    obtain ⟨rfl, _⟩ := r1.bls eb
    exact cr_any hc pins s σ H _ us Q I rv ⟨_, _, rfl, hS, a.v rel (.bl _)⟩
  · cases e
theorem all_ok1 (hc : X.calm = true) : CallR X (.builtin "all") (bi1 X.K X.mg .all) := by
  intro pins s σ H xs us Q I rv hh
  obtain ⟨x, h, xr, r, rfl, rel, ox, e, a⟩ := hh
  dsimp only [b1D] at e
  split at e
  · rename_i ys ey
    obtain ⟨bs, eb, rfl⟩ := Option.map_eq_some_iff.mp e
    obtain ⟨p, vs, rfl, hS, r1⟩ := opd_ls ox rel ey
    obtain ⟨rfl, _⟩ := r1.bls eb
    exact cr_all hc pins s σ H _ us Q I rv ⟨_, _, rfl, hS, a.v rel (.bl _)⟩
  · cases e
theorem sum_ok1 (hc : X.calm = true) : CallR X (.builtin "sum") (bi1 X.K X.mg .sum) := by
  intro pins s σ H xs us Q I rv hh
  obtain ⟨x, h, xr, r, rfl, rel, ox, e, a⟩ := hh
  dsimp only [b1D] at e
  split at e
  · rename_i ys ey
    obtain ⟨bs, eb, rfl⟩ := Option.map_eq_some_iff.mp e
    obtain ⟨p, vs, rfl, hS, r1⟩ := opd_ls ox rel ey
    obtain ⟨rfl, _⟩ := r1.ints eb
    exact cr_sum hc pins s σ H _ us Q I rv ⟨_, _, rfl, hS, a.v rel (.int _)⟩
  · cases e
theorem max_ok1 (hc : X.calm = true) : CallR X (.builtin "max") (bi1 X.K X.mg .max) := by
  intro pins s σ H xs us Q I rv hh
  obtain ⟨x, h, xr, r, rfl, rel, ox, e, a⟩ := hh
  dsimp only [b1D] at e
  split at e
  · rename_i ys ey
    obtain ⟨m, eb, rfl⟩ := Option.map_eq_some_iff.mp e
    obtain ⟨ns, en, em⟩ := Option.bind_eq_some_iff.mp eb
    obtain ⟨p, vs, rfl, hS, r1⟩ := opd_ls ox rel ey
    obtain ⟨rfl, _⟩ := r1.ints en
    obtain ⟨h1, h2⟩ := maxI_of em
    refine cr_max hc pins s σ H _ us Q I rv ⟨_, _, rfl, hS, List.length_pos_of_mem h1, fun k hk hl => ?_⟩
    have : k = m := Int.le_antisymm (h2 k hk) (hl m h1)
    rw [this]
    exact a.v rel (.int _)
  · cases e
theorem min_ok1 (hc : X.calm = true) : CallR X (.builtin "min") (bi1 X.K X.mg .min) := by
  intro pins s σ H xs us Q I rv hh
  obtain ⟨x, h, xr, r, rfl, rel, ox, e, a⟩ := hh
  dsimp only [b1D] at e
  split at e
  · rename_i ys ey
    obtain ⟨m, eb, rfl⟩ := Option.map_eq_some_iff.mp e
    obtain ⟨ns, en, em⟩ := Option.bind_eq_some_iff.mp eb
    obtain ⟨p, vs, rfl, hS, r1⟩ := opd_ls ox rel ey
    obtain ⟨rfl, _⟩ := r1.ints en
    obtain ⟨h1, h2⟩ := minI_of em
    refine cr_min hc pins s σ H _ us Q I rv ⟨_, _, rfl, hS, List.length_pos_of_mem h1, fun k hk hl => ?_⟩
    have : k = m := Int.le_antisymm (hl m h1) (h2 k hk)
    rw [this]
    exact a.v rel (.int _)
  · cases e
theorem sorted_ok1 : CallR X (.builtin "sorted") (bi1 X.K X.mg .sorted) := by
  intro pins s σ H xs us Q I rv hh
  obtain ⟨x, h, xr, r, rfl, rel, ox, e, a⟩ := hh
  dsimp only [b1D] at e
  split at e
  · rename_i ys ey
    obtain ⟨ns, en, rfl⟩ := Option.map_eq_some_iff.mp e
    obtain ⟨p, vs, rfl, hS, r1⟩ := opd_ls ox rel ey
    obtain ⟨rfl, _⟩ := r1.ints en
    refine cr_sortedI pins s σ H _ us Q I rv ⟨_, _, rfl, hS, fun ns' p hp hs hq => ?_⟩
    have : ns' = sortI ns := sorted_eq (hp.trans (sortI_perm ns).symm) hs (sortI_sorted ns)
    rw [this]
    exact a.newL rel hq (Reps.ofInts _)
  · cases e
def tyOf : Ty → String
  | .int => "int" | .bool => "bool" | .str => "str" | .tup => "tuple"
theorem isa_ok (t : Ty) : CallR X (.builtin "isinstance") (fun xs H Q => ∃ x h xr k, xs = [x, .ty (tyOf t)] ∧ RelH X.K X.mg h H ∧ Opd X.K X.mg h H x xr ∧ isTy xr t h = some k ∧ Q (.bl k) H) := by
  intro pins s σ H xs us Q I rv hh
  obtain ⟨x, h, xr, k, rfl, rel, ox, e, q⟩ := hh
  unfold isTy at e
  split at e
  · cases e; cases ox
    exact call_isi pins s σ H _ us Q I rv ⟨_, _, _, _, _, rfl, .ty _, .base .non, kit_ty (b := tyOf t) (by cases t <;> decide +kernel), q⟩
  · cases ox
    exact call_isi pins s σ H _ us Q I rv ⟨_, _, _, _, k, rfl, .ty _, .base (.bl _), kit_ty (b := tyOf t) (by cases t <;> (cases e; decide +kernel)), q⟩
  · cases ox
    exact call_isi pins s σ H _ us Q I rv ⟨_, _, _, _, k, rfl, .ty _, .base (.int _), kit_ty (b := tyOf t) (by cases t <;> (cases e; decide +kernel)), q⟩
  · cases ox
    exact call_isi pins s σ H _ us Q I rv ⟨_, _, _, _, k, rfl, .ty _, .base (.str _), kit_ty (b := tyOf t) (by cases t <;> (cases e; decide +kernel)), q⟩
  · cases ox with
    | tup s1 r1 =>
      have ty : ∀ {a : Addr} {ws : List V}, SqT X.K H a ws → TyX X.K H (.ref a) (.type "tuple") := fun {a ws} z => by
        rcases z with (z | ⟨o, z⟩) | ⟨o, its, n, z, c, _⟩
        · exact .base (.tup z)
        · exact .fTuple z
        · exact .kTuple z c
      exact call_isi pins s σ H _ us Q I rv ⟨_, _, _, _, k, rfl, .ty _, ty s1.sq, kit_ty (b := tyOf t) (by cases t <;> (cases e; decide +kernel)), q⟩
  · split at e
    · rename_i ys ey
      cases e
      obtain ⟨p, vs, rfl, hS, r1⟩ := opd_ls ox rel ey
      have ty : TyX X.K H (.ref p) (.type "list") := by
        rcases hS with (z | ⟨o, z⟩) | ⟨o, its, n, z, c, _⟩
        · exact .base (.lst z)
        · exact .base (.frz z)
        · exact .kList z c
      exact call_isi pins s σ H _ us Q I rv ⟨_, _, _, _, _, rfl, .ty _, ty, kit_ty (b := tyOf t) (by cases t <;> decide +kernel), q⟩
    · cases e
theorem b2_ok (hc : X.calm = true) (b : B2) : CallR X (.builtin (match b with | .min => "min" | .max => "max")) (fun xs H Q => ∃ x y d e r, xs = [x, y] ∧ Rep X.K X.mg H x d ∧ Rep X.K X.mg H y e ∧ b2D b d e = some r ∧ ∀ v, Rep X.K X.mg H v r → Q v H) := by
  intro pins s σ H xs us Q I rv hh
  obtain ⟨x, y, d, e, r, rfl, px, py, q, a⟩ := hh
  unfold b2D at q
  split at q
  · cases q; cases px; cases py
    exact call_min2 hc pins s σ H _ us Q I rv ⟨_, _, rfl, a _ (.int _)⟩
  · cases q; cases px; cases py
    exact call_max2 hc pins s σ H _ us Q I rv ⟨_, _, rfl, a _ (.int _)⟩
  · cases q
end
end Py
namespace Py
open L2 PySem.Spec PySem PyProof.Rows
section
variable {X : Cx}
/-- the value is of a built-in type, and carries no dict -/
def TyC (X : Cx) (T : String) (x : V) (H : Hp) : Prop := ∀ (pins : List (Addr × Obj)) (s : Shared) (σ : L2.St) (v : Value), L2.Inv X pins σ H s → RelV x v → s.TypeIs v T ∧ ∀ a, v = .ref a → ∃ w, s.heap.get? a = some w ∧ w.dict = none
/-- the method that a name is, of a value of that type, and what it asks -/
structure IsM (X : Cx) (T : String) (name : Str) (id : String) (r : V → List V → Hp → VK → Prop) : Prop where
  pa : PlainAttrs T
  slot : Slot T name id
  ty : typeOf (.builtin id) = pure (.type "method_descriptor")
  m : MtR X id r
def tMtG (X : Cx) (name : Str) (to : L2.TE) (t : TA) : L2.TE := fun σ H Q => to σ H fun x H1 => ∃ T id r, IsM X T name id r ∧ TyC X T x H1 ∧ t σ H1 fun xs H2 => r x xs H2 Q
theorem pe_mtG0 {o : Expr} {to : L2.TE} {name : Str} {apos cpos : Pos} (ho : PE X o to) (hbase : attributeBase o name X.env (eval o X.env) = eval o X.env) (hline : (apos.endLine == cpos.line) = true) :
    PE X (.Call (.Attribute o name apos) [] [] cpos) (tMtG X name to tNil) := by
  refine ⟨fun pins s σ H Q I hh => ?_⟩
  refine wpAny_Call_method0_late hbase hline (thn (ho.run pins s σ H _ I hh) fun v s1 ⟨x, H1, I1, r1, T, id, r, g, ty, q1⟩ => ?_)
  obtain ⟨h1, h2⟩ := ty pins s1 σ v I1 r1
  exact ⟨T, id, g.pa, g.slot, g.ty, h1, h2, Calls.callWith_builtin rfl (PySem.evalArgs_none (g.m pins s1 σ H1 x [] v [] Q I1 r1 .nil q1))⟩
theorem pe_mtG {o e : Expr} {es : List Expr} {to : L2.TE} {t : TA} {name : Str} {apos cpos : Pos} (ho : PE X o to) (ha : PA X (e :: es) t) (hbase : attributeBase o name X.env (eval o X.env) = eval o X.env) (hline : (apos.endLine == cpos.line) = true)
    (hfew : ((backTo cpos (starEach (e :: es) X.env)).all (fun x =>
        !x.1) && (backToKw cpos (keywordEach [] X.env)).all (fun x => x.1.isSome)
      && decide ((e :: es).length + ([] : List Keyword).length + (if ([] : List Keyword).isEmpty then 0 else 1) < 30)) = true)
    (hs : starEach (e :: es) X.env = (false, eval e X.env) :: starEach es X.env) (hplain : (backTo cpos (starEach es X.env)).any (·.1) = false) :
    PE X (.Call (.Attribute o name apos) (e :: es) [] cpos) (tMtG X name to t) := by
  refine ⟨fun pins s σ H Q I hh => ?_⟩
  refine wpAny_Call_method_late hbase hfew hline rfl (thn (ho.run pins s σ H _ I hh) fun v s1 ⟨x, H1, I1, r1, T, id, r, g, ty, q1⟩ => ?_)
  obtain ⟨h1, h2⟩ := ty pins s1 σ v I1 r1
  refine ⟨T, id, g.pa, g.slot, g.ty, h1, h2, ?_⟩
  have hA :=
      ha.run cpos pins s1 σ H1 _ I1 q1
  rw [hs] at hA ⊢
  refine Calls.callWith_builtin (by show (false || (backTo cpos (starEach es X.env)).any (·.1)) = false; rw [hplain]; rfl) (Calls.evalArgs_plain ?_)
  exact thn hA fun us s2 ⟨vs, H2, I2, r2, q2⟩ => g.m pins s2 σ H2 x vs v us Q I2 r1 r2 q2
theorem tyC_list {a : Addr} {xs : List V} {H : Hp} (hS : SqL X.K H a xs) : TyC X "list" (.ref a) H := fun pins s σ v I r => tyV_is I r (.inl ⟨rfl, xs, hS⟩)
theorem tyC_tup {a : Addr} {xs : List V} {H : Hp} (hS : SqD X.K H a xs) : TyC X "tuple" (.ref a) H := fun pins s σ v I r => by
  cases r
  rcases hS with ⟨o, e, d⟩ | ⟨o, its, n, k, c, d, _⟩
  · obtain ⟨e1, _, its, _, p⟩ := I.hok _ _ e
    exact ⟨p.typeIs, fun b z => by cases z; exact ⟨o, e1, d⟩⟩
  · exact tyV_is (x := V.ref a) I rfl (Or.inr (Or.inl ⟨rfl, o, k, c, d⟩))
/-! ### the methods -/
def rMt (K : PySem.W.Frag) (M : Str → Option Value) (m : Mt) (b : Rv → Prop) : V → List V → Hp → VK → Prop := fun x vs H Q => ∃ h xr ds p, RelH K M h H ∧ Opd K M h H x xr ∧ b xr ∧ Reps K M H vs ds ∧ mtD m xr ds h = some p ∧ Aft K M h H p.2 Q p.1
def anyR : Rv → Prop := fun _ => True
def isTupR : Rv → Prop := fun r => ∃ xs, r = .v (.tup xs)
def notTupR : Rv → Prop := fun r => ∀ xs, r ≠ .v (.tup xs)
theorem mLs_of {o : Rv} {h : AH} {k : Nat → List D → Option (Rv × AH)} {p : Rv × AH} (e : mLs o h k = some p) : ∃ a xs, o = .v (.loc a) ∧ h a = some (.lst xs) ∧ k a xs = some p := by
  unfold mLs at e
  split at e
  · split at e
    · exact ⟨_, _, rfl, by assumption, e⟩
    · cases e
  · cases e
theorem reps1 {K : PySem.W.Frag} {M : Str → Option Value} {H : Hp} {vs : List V} {d : D} (r : Reps K M H vs [d]) : ∃ v, vs = [v] ∧ Rep K M H v d := by
  cases r with
  | cons a t => cases t; exact ⟨_, rfl, a⟩
theorem reps2 {K : PySem.W.Frag} {M : Str → Option Value} {H : Hp} {vs : List V} {d e : D} (r : Reps K M H vs [d, e]) : ∃ v w, vs = [v, w] ∧ Rep K M H v d ∧ Rep K M H w e := by
  cases r with
  | cons a t => cases t with
    | cons b t => cases t; exact ⟨_, _, rfl, a, b⟩
theorem asInt_of {d : D} {i : Int} (e : asInt (.v d) = some i) : d = .int i := by
  unfold asInt at e
  split at e
  · rename_i q
    cases q; cases e; rfl
  · cases e
theorem append_ok : MtR X "list.append" (rMt X.K X.mg .append anyR) := by
  intro pins s σ H x vs v us Q I rx rs hh
  obtain ⟨h, xr, ds, p, rel, ox, _, rd, e, a⟩ := hh
  obtain ⟨l, xs, rfl, el, e⟩ := mLs_of e
  cases ox
  split at e
  · split at e
    · cases e
      obtain ⟨w, rfl, pw⟩ := reps1 rd
      obtain ⟨ws, h1, r1⟩ := rel _ _ el
      refine mt_append pins s σ H _ _ v us Q I rx rs ⟨_, _, _, rfl, rfl, h1, by rw [r1.length]; assumption, ?_⟩
      exact a _ _ (Tr.write rel el) (RelH.write rel el fun m => ⟨_, upd_same, (r1.append (.cons pw .nil)).mono m⟩) .non
    · cases e
  · cases e
theorem pop_ok : MtR X "list.pop" (rMt X.K X.mg .pop anyR) := by
  intro pins s σ H x vs v us Q I rx rs hh
  obtain ⟨h, xr, ds, p, rel, ox, _, rd, e, a⟩ := hh
  obtain ⟨l, xs, rfl, el, e⟩ := mLs_of e
  cases ox
  split at e
  · split at e
    · rename_i y ey
      cases e
      cases rd
      obtain ⟨ws, h1, r1⟩ := rel _ _ el
      obtain ⟨w, hw, pw⟩ := r1.get ey
      refine mt_pop pins s σ H _ _ v us Q I rx rs ⟨_, _, w, rfl, rfl, h1, by rw [r1.length]; exact hw, ?_⟩
      have t := Tr.write (o' := .lst xs.dropLast) (u := .lst ws.dropLast) rel el
      exact a _ _ t (RelH.write rel el fun m => ⟨_, upd_same, r1.dropLast.mono m⟩) (Rep.mono (t.mn rel) pw)
    · cases e
  · cases e
theorem popi_ok : MtR X "list.pop" (rMt X.K X.mg .popi anyR) := by
  intro pins s σ H x vs v us Q I rx rs hh
  obtain ⟨h, xr, ds, p, rel, ox, _, rd, e, a⟩ := hh
  obtain ⟨l, xs, rfl, el, e⟩ := mLs_of e
  cases ox
  split at e
  · split at e
    · rename_i i ei
      split at e
      · rename_i hi
        split at e
        · rename_i k ek
          split at e
          · rename_i y ey
            cases e
            obtain ⟨w0, rfl, pw0⟩ := reps1 rd
            rw [asInt_of ei] at pw0
            cases pw0
            obtain ⟨ws, h1, r1⟩ := rel _ _ el
            obtain ⟨w, hw, pw⟩ := r1.get ey
            refine mt_popAt pins s σ H _ _ v us Q I rx rs ⟨_, _, i, k, w, rfl, rfl, h1, hi.1, hi.2, (ixN_seq (by rw [r1.length]; exact ek)).1, hw, ?_⟩
            have t := Tr.write (o' := .lst (xs.eraseIdx k)) (u := .lst (ws.eraseIdx k)) rel el
            exact a _ _ t (RelH.write rel el fun m => ⟨_, upd_same, (r1.eraseIdx k).mono m⟩) (Rep.mono (t.mn rel) pw)
          · cases e
        · cases e
      · cases e
    · cases e
  · cases e
theorem insert_ok : MtR X "list.insert" (rMt X.K X.mg .insert anyR) := by
  intro pins s σ H x vs v us Q I rx rs hh
  obtain ⟨h, xr, ds, p, rel, ox, _, rd, e, a⟩ := hh
  obtain ⟨l, xs, rfl, el, e⟩ := mLs_of e
  cases ox
  split at e
  · split at e
    · rename_i i ei
      split at e
      · rename_i hi
        cases e
        obtain ⟨w0, w, rfl, pw0, pw⟩ := reps2 rd
        rw [asInt_of ei] at pw0
        cases pw0
        obtain ⟨ws, h1, r1⟩ := rel _ _ el
        refine mt_insert pins s σ H _ _ v us Q I rx rs ⟨_, _, i, w, rfl, rfl, h1, by rw [r1.length]; exact hi.2.2, hi.1, hi.2.1, ?_⟩
        exact a _ _ (Tr.write rel el) (RelH.write rel el fun m => ⟨_, upd_same, (((r1.take _).append (.cons pw .nil)).append (r1.drop _)).mono m⟩) .non
      · cases e
    · cases e
  · cases e
theorem reverse_ok : MtR X "list.reverse" (rMt X.K X.mg .reverse anyR) := by
  intro pins s σ H x vs v us Q I rx rs hh
  obtain ⟨h, xr, ds, p, rel, ox, _, rd, e, a⟩ := hh
  obtain ⟨l, xs, rfl, el, e⟩ := mLs_of e
  cases ox
  split at e
  · cases e
    cases rd
    obtain ⟨ws, h1, r1⟩ := rel _ _ el
    refine mt_reverse pins s σ H _ _ v us Q I rx rs ⟨_, _, rfl, rfl, h1, ?_⟩
    exact a _ _ (Tr.write rel el) (RelH.write rel el fun m => ⟨_, upd_same, r1.reverse.mono m⟩) .non
  · cases e
theorem extend_ok : MtR X "list.extend" (rMt X.K X.mg .extend anyR) := by
  intro pins s σ H x vs v us Q I rx rs hh
  obtain ⟨h, xr, ds, p, rel, ox, _, rd, e, a⟩ := hh
  obtain ⟨l, xs, rfl, el, e⟩ := mLs_of e
  cases ox
  split at e
  · split at e
    · rename_i ys ey
      split at e
      · rename_i hz
        cases e
        obtain ⟨w, rfl, pw⟩ := reps1 rd
        obtain ⟨ws, h1, r1⟩ := rel _ _ el
        obtain ⟨b, zs, rfl, h2, r2⟩ := opd_lt (r := .v _) pw rel ey
        refine mt_extend pins s σ H _ _ v us Q I rx rs ⟨_, _, _, _, rfl, rfl, h1, h2, by rw [r1.length, r2.length]; exact hz, ?_⟩
        exact a _ _ (Tr.write rel el) (RelH.write rel el fun m => ⟨_, upd_same, (r1.append r2).mono m⟩) .non
      · cases e
    · cases e
  · cases e
theorem idx_of {ys : List D} {x : D} {j : Nat} (e : idx ys x = some j) : (∃ z, ys[j]? = some z ∧ eqv z x = true) ∧ ∀ m z, m < j → ys[m]? = some z → eqv z x = false := by
  unfold idx at e
  rw [List.findIdx?_eq_some_iff_getElem] at e
  obtain ⟨h1, h2, h3⟩ := e
  refine ⟨⟨ys[j], List.getElem?_eq_getElem h1, h2⟩, fun m z hm hz => ?_⟩
  obtain ⟨h4, rfl⟩ := List.getElem?_eq_some_iff.mp hz
  have := h3 m hm
  simpa using this
theorem toPs_get {i : Nat} : ∀ {xs : List D}, (toPs xs)[i]? = xs[i]?.map toP := by
  induction i with
  | zero => intro xs; cases xs <;> rfl
  | succ i ih => intro xs; cases xs with
    | nil => rfl
    | cons x r => rw [toPs, List.getElem?_cons_succ, List.getElem?_cons_succ]; exact ih
theorem index_list_ok (hu : X.A.units + 65 < cLine) : MtR X "list.index" (rMt X.K X.mg .index notTupR) := by
  intro pins s σ H x vs v us Q I rx rs hh
  obtain ⟨h, xr, ds, p, rel, ox, nt, rd, e, a⟩ := hh
  dsimp only [mtD] at e
  split at e
  · rename_i d
    split at e
    · rename_i ys ey
      split at e
      · rename_i hp
        split at e
        · rename_i j ej
          cases e
          rw [Bool.and_eq_true] at hp
          obtain ⟨w, rfl, pw⟩ := reps1 rd
          have ey' : lsV xr h = some ys := by
            unfold sqV at ey
            split at ey
            · exact absurd rfl (nt _)
            · exact ey
          obtain ⟨q, ws, rfl, hS, r1⟩ := opd_ls ox rel ey'
          obtain ⟨d1, p1, l1⟩ := dp_of 40 _ _ pw hp.1
          obtain ⟨d2, s2⟩ := dl_of hS r1 hp.2
          obtain ⟨⟨z, hz, hzd⟩, hno⟩ := idx_of ej
          have all := List.all_eq_true.mp hp.2
          refine mt_indexD hu pins s σ H _ _ v us Q I rx rs ⟨q, w, toP d, toPs ys, j, toP z, rfl, rfl, d2, d1, s2, shaped_of p1 l1 (by omega), by rw [toPs_get, hz]; rfl, ?_, fun m z' hm hz' => ?_, a.v rel (.int _)⟩
          · rw [eqv_P 40 40 z d (all z (List.mem_of_getElem? hz)) hp.1]; exact hzd
          · rw [toPs_get] at hz'
            obtain ⟨y, hy, rfl⟩ := Option.map_eq_some_iff.mp hz'
            rw [eqv_P 40 40 y d (all y (List.mem_of_getElem? hy)) hp.1]
            exact hno m y hm hy
        · cases e
      · cases e
    · cases e
  · cases e
theorem index_tup_ok (hu : X.A.units + 65 < cLine) : MtR X "tuple.index" (rMt X.K X.mg .index isTupR) := by
  intro pins s σ H x vs v us Q I rx rs hh
  obtain ⟨h, xr, ds, p, rel, ox, ⟨ys, rfl⟩, rd, e, a⟩ := hh
  dsimp only [mtD] at e
  split at e
  · rename_i d
    split at e
    · rename_i zs ey
      split at e
      · rename_i hp
        split at e
        · rename_i j ej
          cases e
          rw [Bool.and_eq_true] at hp
          cases ey
          obtain ⟨w, rfl, pw⟩ := reps1 rd
          cases ox with
          | tup hS r1 =>
            cases rx
            obtain ⟨u, rfl, ru⟩ := vals1 rs
            obtain ⟨d1, p1, l1⟩ := dp_of 40 _ _ pw hp.1
            have s1 := shaped_of p1 l1 (by omega)
            obtain ⟨as1, h1⟩ := Dp.reads I _ _ _ d1 ru
            have all := List.all_eq_true.mp hp.2
            obtain ⟨q1, b1, c1⟩ := dps_of 40 _ _ r1 all
            obtain ⟨its, rv, ⟨⟨cls, dd, data, sls⟩, ho, hc, n, hdt⟩, hlen⟩ := I.tuple hS.sq
            simp only at hc hdt
            subst hc hdt
            obtain ⟨as2, h2⟩ := Dp.readsAll I _ _ its q1 rv
            have hmap : its.map (SeqAt.readOf s.heap) = toPs ys := SeqAt.readsAll_map _ its as2 b1 h2
            have hvl := rv.length
            have hrl := r1.length
            obtain ⟨⟨z, hz, hzd⟩, hno⟩ := idx_of ej
            obtain ⟨hjy, _⟩ := List.getElem?_eq_some_iff.mp hz
            have hj : j < its.toArray.size := by rw [List.size_toArray]; omega
            have at_ : ∀ (m : Nat) (hm : m < its.toArray.size) (z' : D), ys[m]? = some z' → SeqAt.readOf s.heap its.toArray[m] = toP z' := fun m hm z' hz' => by
              have hml : m < its.length :=
                  by simpa using hm
              have e1 : (its.map (SeqAt.readOf s.heap))[m]? = some (toP z') := by rw [hmap, toPs_get, hz']; rfl
              rw [List.getElem?_map, List.getElem?_eq_getElem hml] at e1
              simpa using e1
            have hroom : X.A.units + 1 + min (PyData.depthAll (toPs ys)) (toP d).depth < cLine := room_in_shaped s1 hu
            refine call_meets F.slot_tuple_index ⟨_, ho, rfl⟩
                F.entry_tuple_index (F.args_tuple_index_2 _ _)
              (TI.tuple_indexAt _ its.toArray n dd sls u (fun w => PyData.eqv (SeqAt.readOf s.heap w) (toP d)) j hj ?_ ?_) ⟨ho, SeqAt.items_eqAt (vs := its.toArray) h2 h1 b1 p1 hroom, ?_⟩
            · show PyData.eqv (SeqAt.readOf s.heap its.toArray[j]) (toP d) = true
              rw [at_ j hj z hz, eqv_P 40 40 z d (all z (List.mem_of_getElem? hz)) hp.1]
              exact hzd
            · intro m hm hmj
              have hmd : m < ys.length := by omega
              have hz' := List.getElem?_eq_getElem hmd
              show PyData.eqv (SeqAt.readOf s.heap its.toArray[m]) (toP d) = false
              rw [at_ m hm _ hz', eqv_P 40 40 _ d (all _ (List.mem_of_getElem? hz')) hp.1]
              exact hno m _ hmj hz'
            · exact ⟨.int (j : Nat), H, I.tok _, ⟨_, rfl⟩, a.v rel (.int _)⟩
        · cases e
      · cases e
    · cases e
  · cases e
end
end Py
namespace Py
open L2 PySem.Spec PySem PyProof.Rows
theorem rsize_nn (i j c : Int) (h : c ≠ 0) : 0 ≤ Builtin.Range.rangeSize i j c := by
  unfold
      Builtin.Range.rangeSize
  split
  · split
    · have := Int.ediv_nonneg (a := j - i - 1) (b := c) (by omega) (by omega)
      omega
    · omega
  · split
    · have := Int.ediv_nonneg (a := i - j - 1) (b := -c) (by omega) (by omega)
      omega
    · omega
theorem rsize_le (i j c : Int) (h : c ≠ 0) (h1 : -(2 ^ 62) ≤ i) (h2 : i < 2 ^ 62) (h3 : -(2 ^ 62) ≤ j) (h4 : j < 2 ^ 62) : Builtin.Range.rangeSize i j c < 2 ^ 63 := by
  unfold
      Builtin.Range.rangeSize
  split
  · split
    · have := Int.ediv_le_self (a := j - i - 1) c (by omega)
      omega
    · omega
  · split
    · have := Int.ediv_le_self (a := i - j - 1) (-c) (by omega)
      omega
    · omega
theorem rgC_of {i j c : Int} (h : (small62 i && small62 j && stepOk c) = true) : RgC i j c (rngN i j c) := by
  unfold small62 stepOk at h
  simp only [Bool.and_eq_true,
      decide_eq_true_eq] at h
  obtain ⟨⟨⟨h1, h2⟩, h3, h4⟩, ⟨h5, h6⟩, h7⟩ := h
  have n0 := rsize_nn i j c h5
  have n1 := rsize_le i j c h5 (by omega) (by omega) (by omega) (by omega)
  refine ⟨h5, by omega, ?_, (Int.toNat_of_nonneg n0).symm⟩
  unfold Builtin.Range.small
  generalize Builtin.Range.rangeSize i j c = n at n0 n1
  simp only [Builtin.Range.rangeFitsLong, Bool.and_eq_true, Bool.or_eq_true, decide_eq_true_eq, beq_iff_eq]
  refine ⟨⟨⟨⟨⟨by omega, by omega⟩, by omega, by omega⟩, by omega, by omega⟩, by omega, by omega⟩, .inr ?_⟩
  split <;> simp only [Bool.and_eq_true, decide_eq_true_eq] <;> omega
end Py
/-! From the syntax of the model to the syntax that is read here. -/
namespace Py
open L2 PySem.Spec PySem PyProof.Rows
def visB (sc : Scope) (x : Str) : Bool := match sc.names.lookup x with
  | some .local => true
  | some .cell => true
  | some .free => true
  | _ => false
def locB (sc : Scope) (x : Str) : Bool := match sc.names.lookup x with
  | some .local => true
  | some .cell => true
  | _ => false
def lclB (sc : Scope) (x : Str) : Bool := match sc.names.lookup x with
  | some .local => true
  | _ => false
def gloB (sc : Scope) (x : Str) : Bool := match sc.names.lookup x with
  | some .globalImplicit => true
  | _ => false
def okN (x : Str) : Bool := !(x == ("super" : Str)) && !(x == ("__debug__" : Str)) && !(x == ("__classdict__" : Str)) && !(x == ("__name__" : Str))
def slot (N : List Str) (x : Str) : Option Nat := N.findIdx? (· == x)
def blts : List Str := ["len", "int", "bool", "str", "tuple", "list", "abs", "any", "all", "sum", "min", "max", "sorted", "isinstance", "range", "set", "dict"]
def bltB (x : Str) : Bool := blts.contains x
def trC : Const → Option D
  | .none => some .non
  | .bool b => some (.bl b)
  | .int i => some (.int i)
  | .str s => some (.str s)
  | _ => none
def trOp : Operator → Option Bop
  | .Add => some .add | .Sub => some .sub | .Mult => some .mul | .FloorDiv => some .fdiv | .Mod => some .mod | .Pow => some .pow
  | .LShift => some .shl | .RShift => some .shr | .BitAnd => some .band | .BitXor => some .bxor | .BitOr => some .bor
  | _ => none
def trCop : CmpOp → Option Cop
  | .Eq => some .eq | .NotEq => some .ne | .Lt => some .lt | .LtE => some .le | .Gt => some .gt | .GtE => some .ge | .In => some .inn | .NotIn => some .nin
  | _ => none
def trIs : CmpOp → Option Bool
  | .Is => some false
  | .IsNot => some true
  | _ => none
/-- a constant that stands behind is -/
def trIsC : PySem.Expr → Option D
  | .Constant .none _ _ => some .non
  | .Constant (.bool b) _ _ => some (.bl b)
  | _ => none
def trEs (f : PySem.Expr → Option Ex) : List PySem.Expr → Option Es
  | [] => some .nil
  | e :: es => do
    let a ← f e
    let r ← trEs f es
    return .cons a r
def trBool (f : PySem.Expr → Option Ex) (op : BoolOp) : List PySem.Expr → Option Ex
  | [] => none
  | [a] => f a
  | a :: r => do
    let x ← f a
    let y ← trBool f op r
    return match op with
      | .And => .and x y
      | .Or => .or x y
def trO (f : PySem.Expr → Option Ex) : Option PySem.Expr → Option Oe
  | none => some .no
  | some e => do
    let a ← f e
    return .so a
/-- a slice's step that is told -/
def stN : PySem.Expr → Option Int
  | .Constant (.int i) _ _ => if i = 0 ∨ i = 1 then none else some i
  | .UnaryOp .USub (.Constant (.int i) _ _) _ => if i = 0 ∨ i = -1 then none else some (-i)
  | _ => none
def tyN (x : Str) : Option Ty := if x = "int" then some .int else if x = "bool" then some .bool else if x = "str" then some .str else if x = "tuple" then some .tup else none
/-- built-ins of one argument -/
def b1N (x : Str) : Option Bi :=
  if x = "len" then some .len else if x = "int" then some .int else if x = "bool" then some .bool else if x = "str" then some .str else if x = "tuple" then some .tup else if x = "list" then some .lst
  else if x = "abs" then some .abs else if x = "any" then some .any else if x = "all" then some .all else if x = "sum" then some .sum else if x = "min" then some .min else if x = "max" then some .max
  else if x = "sorted" then some .sorted else none
def b2N (x : Str) : Option B2 := if x = "min" then some .min else if x = "max" then some .max else none
def mtN (m : Str) (n : Nat) : Option Mt :=
  if m = "append" ∧ n = 1 then some .append else if m = "pop" ∧ n = 0 then some .pop else if m = "pop" ∧ n = 1 then some .popi else if m = "index" ∧ n = 1 then some .index else if m = "reverse" ∧ n = 0 then some .reverse
  else if m = "extend" ∧ n = 1 then some .extend else if m = "insert" ∧ n = 2 then some .insert else none
/-- range(..) of a def's or a block's names -/
def isRng (sc : Scope) (f : PySem.Expr) : Bool := match f with
  | .Name x _ => decide (x = "range") && gloB sc x
  | _ => false
def trI (sc : Scope) (f : PySem.Expr → Option Ex) (e : PySem.Expr) : Option It := match e with
  | .Call g es [] _ => if isRng sc g then (match es with
      | [a] => do
        let x ← f a
        return .rng1 x
      | [a, b] => do
        let x ← f a
        let y ← f b
        return .rng2 x y
      | [a, b, c] => do
        let x ← f a
        let y ← f b
        let z ← f c
        return .rng3 x y z
      | _ => none)
    else do
      let x ← f e
      return .seq x
  | _ => do
    let x ← f e
    return .seq x
/-- len(set(b)) -/
def setA (sc : Scope) (x : Str) (a : PySem.Expr) : Option PySem.Expr := if x = "len" then (match a with
    | .Call (.Name s _) [b] [] _ => if s = "set" ∧ gloB sc s = true then some b else none
    | _ => none) else none
/-- sorted(set(b)) -/
def setB (sc : Scope) (x : Str) (a : PySem.Expr) : Option PySem.Expr := if x = "sorted" then (match a with
    | .Call (.Name s _) [b] [] _ => if s = "set" ∧ gloB sc s = true then some b else none
    | _ => none) else none
/-- a target: ok tells which names may be stored -/
def trT (N : List Str) (ok : Str → Bool) : Nat → PySem.Expr → Option Tg
  | 0, _ => none
  | n + 1, e => match e with
    | .Name x _ => if ok x then (slot N x).map .nm else none
    | .Tuple es _ _ => (go n es).map .tp
    | _ => none
where
  go (n : Nat) : List PySem.Expr → Option Tgs
    | [] => some .nil
    | e :: es => do
      let a ← trT N ok n e
      let r ← go n es
      return .cons a r
mutual
def tgIdx : Tg → List Nat
  | .nm i => [i]
  | .tp ts => tgsIdx ts
def tgsIdx : Tgs → List Nat
  | .nil => []
  | .cons t ts => tgIdx t ++ tgsIdx ts
end
mutual
def tgIn (p : Nat → Bool) : Tg → Bool
  | .nm i => p i
  | .tp ts => tgsIn p ts
def tgsIn (p : Nat → Bool) : Tgs → Bool
  | .nil => true
  | .cons t ts => tgIn p t && tgsIn p ts
end
/-- a block's own names with their slots -/
def ownOf (N : List Str) : List (Str × NameKind) → List (Str × Nat)
  | [] => []
  | (x, k) :: r => match k with
    | .local => (match slot N x with
      | some i => (x, i) :: ownOf N r
      | none => ownOf N r)
    | .cell => (match slot N x with
      | some i => (x, i) :: ownOf N r
      | none => ownOf N r)
    | _ => ownOf N r
def trE (F : Str → Bool) (N : List Str) : Nat → Scope → PySem.Expr → Option Ex
  | 0, _, _ => none
  | n + 1, sc, e => match e with
    | .Constant c _ _ => (trC c).map .lit
    | .Name x _ => if okN x then (if visB sc x then (slot N x).map .var else if gloB sc x && !bltB x then some (.glo x) else none) else none
    | .BinOp a op b _ => do
      let o ← trOp op
      let x ← trE F N n sc a
      let y ← trE F N n sc b
      return .bin o x y
    | .UnaryOp op a _ => match op with
      | .Not => do
        let x ← trE F N n sc a
        return .not x
      | .USub => do
        let x ← trE F N n sc a
        return .neg x
      | _ => none
    | .BoolOp op es _ => trBool (trE F N n sc) op es
    | .IfExp c a b _ => do
      let z ← trE F N n sc c
      let x ← trE F N n sc a
      let y ← trE F N n sc b
      return .ite z x y
    | .Compare a ops bs _ => match ops, bs with
      | [o], [b] => (match trIs o with
        | some neg => do
          let c ← trIsC b
          let x ← trE F N n sc a
          return .isc neg x c
        | none => do
          let o1 ← trCop o
          let x ← trE F N n sc a
          let y ← trE F N n sc b
          return .cmp o1 x y)
      | [o, o'], [b, c] => do
        let o1 ← trCop o
        let o2 ← trCop o'
        let x ← trE F N n sc a
        let y ← trE F N n sc b
        let z ← trE F N n sc c
        return .chain o1 o2 x y z
      | _, _ => none
    | .Tuple es _ _ => (trEs (trE F N n sc) es).map .tup
    | .List es _ => (trEs (trE F N n sc) es).map .lst
    | .Call f es [] pos => match f with
      | .Name x _ => if okN x then
          (if visB sc x then (match es with
            | [] => none
            | _ => do
              let i ← slot N x
              let r ← trEs (trE F N n sc) es
              return .callv i r)
          else if gloB sc x then (if bltB x then (match es with
              | [a] => (match trI sc (trE F N n sc) a with
                | some (.seq _) => do
                  let b ← b1N x
                  let y ← trE F N n sc a
                  return .b1 b y
                | some (.rng1 i) => if x = "tuple" then some (.rng true (.rng1 i)) else if x = "list" then some (.rng false (.rng1 i)) else none
                | some (.rng2 i j) => if x = "tuple" then some (.rng true (.rng2 i j)) else if x = "list" then some (.rng false (.rng2 i j)) else none
                | some _ => none
                | none => (match setA sc x a with
                  | some b => do
                    let y ← trE F N n sc b
                    return .b1 .lens y
                  | none => (match setB sc x a with
                    | some b => do
                      let y ← trE F N n sc b
                      return .b1 .sset y
                    | none => none)))
              | [a, b] => if x = "isinstance" then (match b with
                  | .Name t _ => if gloB sc t then do
                      let ty ← tyN t
                      let y ← trE F N n sc a
                      return .b1 (.isa ty) y
                    else none
                  | _ => none)
                else do
                  let o ← b2N x
                  let y ← trE F N n sc a
                  let z ← trE F N n sc b
                  return .b2 o y z
              | _ => none)
            else if F x then do
              let r ← trEs (trE F N n sc) es
              return .call x r
            else none)
          else none) else none
      | .Attribute o m apos => if apos.endLine == pos.line then do
          let k ← mtN m es.length
          let x ← trE F N n sc o
          let r ← trEs (trE F N n sc) es
          return .mt k x r
        else none
      | _ => none
    | .Subscript a i _ => match i with
      | .Slice lo hi st _ => (match st with
        | none => do
          let x ← trE F N n sc a
          let l ← trO (trE F N n sc) lo
          let u ← trO (trE F N n sc) hi
          return .sl x l u
        | some sp => do
          let k ← stN sp
          let x ← trE F N n sc a
          let l ← trO (trE F N n sc) lo
          let u ← trO (trE F N n sc) hi
          return .sls x l u k)
      | _ => do
        let x ← trE F N n sc a
        let y ← trE F N n sc i
        return .ix x y
    | .ListComp elt gens scope _ => match gens with
      | [⟨t, it, ifs, 0⟩] =>
        let own := ownOf N scope.names
        if blkC N sc scope own then do
          let t' ← trT N (locB scope) 4 t
          if tgIn (own.map (·.2)).contains t' then do
            let it' ← trI sc (trE F N n sc) it
            let e' ← trE F N n (relS scope sc) elt
            match ifs with
            | [] => some (.comp t' it' (own.map (·.2)) e')
            | [c] => do
              let c' ← trE F N n (relS scope sc) c
              return .compi t' it' (own.map (·.2)) c' e'
            | _ => none
          else none
        else none
      | [⟨t, it, [], 0⟩, ⟨t1, it1, [], 0⟩] =>
        let own := ownOf N scope.names
        if blkC N sc scope own then do
          let t' ← trT N (locB scope) 4 t
          let t1' ← trT N (locB scope) 4 t1
          if tgIn (own.map (·.2)).contains t' && (tgIn (tgIdx t1').contains t1' && (tgIdx t1').all (own.map (·.2)).contains) then do
            let it' ← trI sc (trE F N n sc) it
            let it1' ← trI (relS scope sc) (trE F N n (relS scope sc)) it1
            let e' ← trE F N n (relS scope sc) elt
            return .comp2 t' it' (own.map (·.2)) t1' it1' (tgIdx t1') e'
          else none
        else none
      | _ => none
    | _ => none
end Py
/-! From statements of the model to the statements that are read here. -/
namespace Py
open L2 PySem.Spec PySem PyProof.Rows
def trN : Nat := 60
/-- does a comprehension store its name itself -/
def swB (sc : Scope) (t : Str) (p : Pos) : PySem.Expr → Bool
  | .ListComp _ _ s q => lclB sc t && p.line == q.line && !(s.names.any fun y => y.1 == t && (y.2 == .local || y.2 == .cell))
  | _ => false
def isStar : PySem.Expr → Bool
  | .Starred .. => true
  | _ => false
/-- the names stored from the right, where that is so: none is not known -/
def swC (sc : Scope) (ts vs : List PySem.Expr) : Option (Option (List Str)) :=
  if (!(ts.length == 2 || ts.length == 3) || vs.length != ts.length) = true then some none
  else if vs.any isStar = true then some none
  else
    let ln := (ts.head?.map (·.pos.line)).getD 0
    let ns := ts.filterMap fun t => match t with
      | .Name x p => if (sc.names.lookup x == some .local && p.line == ln) = true then some x else none
      | _ => none
    if (ns.length != ts.length || ns.eraseDups.length != ns.length) = true then some none
    else if vs.all (foldedForSure 8) = true then some none
    else if vs.all (constantsAlone 8) = true then none
    else some (some ns)
def nmS (N : List Str) (sc : Scope) (e : PySem.Expr) : Option Nat := match e with
  | .Name x _ => if lclB sc x = true then slot N x else none
  | _ => none
/-- isinstance(n, t), or not so -/
def isItem (sc : Scope) (n : Str) : PySem.Expr → Option (Bool × Str)
  | .Call (.Name f _) [.Name m _, .Name t _] [] _ => if f = "isinstance" ∧ m = n ∧ gloB sc f = true ∧ gloB sc t = true ∧ (t == ("__debug__" : Str)) = false then some (true, t) else none
  | .UnaryOp .Not (.Call (.Name f _) [.Name m _, .Name t _] [] _) _ => if f = "isinstance" ∧ m = n ∧ gloB sc f = true ∧ gloB sc t = true ∧ (t == ("__debug__" : Str)) = false then some (false, t) else none
  | _ => none
def isItems (sc : Scope) (n : Str) : List PySem.Expr → Option (List (Bool × Str))
  | [] => none
  | [a] => (isItem sc n a).map fun x => [x]
  | a :: b :: r => do
    let x ← isItem sc n a
    let y ← isItems sc n (b :: r)
    return x :: y
section
variable (F Xs : Str → Bool) (N : List Str)
def trS : Nat → Scope → PySem.Stmt → Option St
  | 0, _, _ => none
  | n + 1, sc, st => match st with
    | .Assign [tg] e _ => (match tg with
      | .Name x _ => if locB sc x = true then do
          let i ← slot N x
          let v ← trE F N trN sc e
          return .asg (.nm i) v
        else none
      | .Tuple ts _ _ => (match e with
        | .Tuple vs _ _ => (match swC sc ts vs with
          | none => none
          | some none => do
            let t ← trT N (locB sc) 6 tg
            let v ← trE F N trN sc e
            return .asg t v
          | some (some _) => (match ts, vs with
            | [a, b], [c, d] => do
              let i ← nmS N sc a
              let j ← nmS N sc b
              let r ← trEs (trE F N trN sc) [c, d]
              if i = j then none else return .asg (.tp (.cons (.nm i) (.cons (.nm j) .nil))) (.tup r)
            | [a, b, l], [c, d, m] => do
              let i ← nmS N sc a
              let j ← nmS N sc b
              let k ← nmS N sc l
              let r ← trEs (trE F N trN sc) [c, d, m]
              if i = j ∨ i = k ∨ j = k then none else return .asg (.tp (.cons (.nm i) (.cons (.nm j) (.cons (.nm k) .nil)))) (.tup r)
            | _, _ => none))
        | _ => do
          let t ← trT N (locB sc) 6 tg
          let v ← trE F N trN sc e
          return .asg t v)
      | .Subscript o i _ => (match i with
        | .Slice _ _ _ _ => none
        | _ => do
          let v ← trE F N trN sc e
          let a ← trE F N trN sc o
          let k ← trE F N trN sc i
          return .set a k v)
      | _ => none)
    | .AugAssign (.Name x _) op e _ => if locB sc x = true then do
        let i ← slot N x
        let o ← trOp op
        let v ← trE F N trN sc e
        return .aug i o v
      else none
    | .Expr e _ => (match e with
      | .Constant (.str _) _ _ => some .pass
      | .ListComp _ _ _ _ => none
      | _ => do
        let v ← trE F N trN sc e
        return .expr v)
    | .If c a b _ => do
      let z ← trE F N trN sc c
      let x ← go n sc a
      let y ← go n sc b
      return .ifs z x y
    | .While c b [] _ => do
      let z ← trE F N trN sc c
      let x ← go n sc b
      return .whl z x
    | .For tg it b [] _ => do
      let t ← trT N (locB sc) 6 tg
      let z ← trI sc (trE F N trN sc) it
      let x ← go n sc b
      return .for_ t z x
    | .Return (some e) _ => do
      let v ← trE F N trN sc e
      return .ret v
    | .Return none _ => some .retn
    | .Raise (some (.Call (.Name c _) [.Constant (.str _) _ _] [] _)) none _ => if (Xs c && gloB sc c && okN c) = true then some (.rais c) else none
    | .Try b [.ExceptHandler (some (.Name c _)) none [.Return (some (.Constant k _ _)) _] _] [] [] _ => if (Xs c && gloB sc c && okN c && !isI c) = true then do
        let x ← go n sc b
        let d ← trC k
        return .tryx x c d
      else none
    | .Try b [.ExceptHandler (some (.Name c _)) (some e) [.Return (some (.BoolOp .And es _)) _] _] [] [] _ => if (Xs c && gloB sc c && okN c && !isI c && lclB sc e && okN e) = true then do
        let x ← go n sc b
        let _ ← slot N e
        let ts ← isItems sc e es
        return .tryi x c ts
      else none
    | .Pass _ => some .pass
    | .Break _ => some .brk
    | .Continue _ => some .cnt
    | _ => none
where
  go (n : Nat) (sc : Scope) : List PySem.Stmt → Option Sts
    | [] => some .nil
    | s :: r => do
      let a ← trS n sc s
      let b ← go n sc r
      return .cons a b
end
end Py
/-! Slices with a step. -/
namespace Py
open L2 PySem.Spec PySem PyProof.Rows
theorem vals_pick {xs : List V} {its : List Value} (r : Vals xs its) : ∀ is : List Nat, Vals (is.filterMap fun k => xs[k]?) (is.filterMap fun k => its[k]?)
  | [] => .nil
  | k :: is => by
    have ih := vals_pick r is
    by_cases hk : k < xs.length
    · have h1 : xs[k]? = some xs[k] := List.getElem?_eq_getElem hk
      obtain ⟨u, h2, h3⟩ := Vals.get r h1
      rw [List.filterMap_cons, List.filterMap_cons, h1, h2]
      exact .cons h3 ih
    · have h1 : xs[k]? = none := List.getElem?_eq_none (by omega)
      have h2 : its[k]? = none := List.getElem?_eq_none (by rw [← r.length]; omega)
      rw [List.filterMap_cons, List.filterMap_cons, h1, h2]
      exact ih
theorem reps_pick {K : PySem.W.Frag} {M : Str → Option Value} {H : Hp} {vs : List V} {xs : List D} (r : Reps K M H vs xs) : ∀ is : List Nat, Reps K M H (is.filterMap fun k => vs[k]?) (is.filterMap fun k => xs[k]?)
  | [] => .nil
  | k :: is => by
    have ih := reps_pick r is
    by_cases hk : k < xs.length
    · have h1 : xs[k]? = some xs[k] := List.getElem?_eq_getElem hk
      obtain ⟨u, h2, h3⟩ := r.get h1
      rw [List.filterMap_cons, List.filterMap_cons, h1, h2]
      exact .cons h3 ih
    · have h1 : xs[k]? = none := List.getElem?_eq_none (by omega)
      have h2 : vs[k]? = none := List.getElem?_eq_none (by rw [r.length]; omega)
      rw [List.filterMap_cons, List.filterMap_cons, h1, h2]
      exact ih
section
variable {prog : Program} {w : World} {A :
    Around} {E : Value → Shared → Prop} {s : Shared}
theorem sliceApplied_st {sl : Addr} {vl vu vs : Value} {lo hi : Option Int} {st : Int} {n : Nat} {Q : Int × Int × Nat → Shared → Prop} (hs : s.heap.IsSliceOf sl vl vu vs) (pl : IsPart vl lo) (pu : IsPart vu hi) (ps : IsPart vs (some st)) (h0 : st ≠ 0)
    (h : Q ((Builtin.Slice.sliceAdjust lo hi st n).1, st, Builtin.Slice.slicePlaces (Builtin.Slice.sliceAdjust lo hi st n).1 (Builtin.Slice.sliceAdjust lo hi st n).2 st) s) : wpAny (model prog w) A (Builtin.Slice.sliceApplied (.ref sl) (pure (n : Int))) Q E s := by
  obtain ⟨os, hos, hcs, hds⟩ :=
      id hs
  unfold Builtin.Slice.sliceApplied
      Builtin.Slice.sliceFields
  refine wpAny_bind (wpAny_bind (wpAny_field hos hds (x := vl) rfl (wpAny_bind (wpAny_field hos hds (x := vu) rfl (wpAny_bind (wpAny_field hos hds (x := vs) rfl (wpAny_pure ?_)))))))
  refine wpAny_bind (HT.slicePart_ ps ?_)
  show wpAny _ _ (if (st == 0) = true then _ else _) _ _ s
  rw [if_neg (by
      simpa using h0)]
  refine wpAny_bind (HT.slicePart_ pl (wpAny_bind (HT.slicePart_ pu (wpAny_bind (wpAny_pure ?_)))))
  exact wpAny_pure h
theorem getItem_tuple_st {t sl : Addr} {items : Array Value} {vl vu vs : Value} {lo hi : Option Int} {st : Int} {Q : Value → Shared → Prop} (ht : IsTup s.heap t items) (hs : s.heap.IsSliceOf sl vl vu vs) (pl : IsPart vl lo) (pu : IsPart vu hi) (ps : IsPart vs (some st)) (h0 : st ≠ 0) (h1 : st ≠ 1)
    (h : Q (.ref s.heap.objs.size) { s with heap := s.heap.push { cls := .type "tuple", data := .seq (pkT st lo hi items.toList).toArray } })
    (hsz : (pkT st lo hi items.toList).length ≤ sizeLine) : wpAny (model prog w) A (getItem (.ref t) (.ref sl)) Q E s := by
  have htake : sizeOk (.seq (pkT st lo hi items.toList).toArray) := by
    show (pkT st lo hi items.toList).toArray.size ≤ sizeLine
    rw [List.size_toArray]
    exact hsz
  obtain ⟨os, hos, hcs, hds⟩ :=
      id hs
  have hTs : s.TypeIs (.ref sl) "slice" :=
      ⟨os, hos, hcs⟩
  unfold getItem
  try with_reducible
      refine wpAny_holding ?_
  first | (refine wpAny_bind (wpAny_pure ?_)) | skip
  refine wpAny_bind (wpAny_sequenceKey
      ht.typeIs (by decide) ?_)
  refine wpAny_bind (wpAny_callSpecial?_slot (name :=
      Str.ofString "__getitem__") ht.typeIs PyProof.Rows.slot_tuple_getitem
    (wpAny_call_entry PyProof.Rows.slot_tuple_getitem
        ht.typeIs entry_tuple_getitem ?_ (args_tuple_getitem _ _)))
  show wpAny _ _ (Builtin.Tuple.tupleItemsOf
      (.ref t) >>= _) _ _ s
  refine wpAny_bind
      (tupleItemsOf_ ht ?_)
  refine wpAny_bind
      (wpAny_typeOf hTs ?_)
  rw [if_pos (by decide)]
  refine wpAny_bind (sliceApplied_st hs pl pu ps h0 ?_)
  have hno : ¬ (((Builtin.Slice.sliceAdjust lo hi st items.size).1 == 0 && st == 1 && (Builtin.Slice.slicePlaces (Builtin.Slice.sliceAdjust lo hi st items.size).1 (Builtin.Slice.sliceAdjust lo hi st items.size).2 st) == items.size) = true) := by
    intro q
    rw [Bool.and_eq_true,
        Bool.and_eq_true] at q
    exact h1 (eq_of_beq q.1.2)
  show wpAny _ _ (if ((Builtin.Slice.sliceAdjust lo hi st items.size).1 == 0 && st == 1 && (Builtin.Slice.slicePlaces (Builtin.Slice.sliceAdjust lo hi st items.size).1 (Builtin.Slice.sliceAdjust lo hi st items.size).2 st) == items.size) = true then _ else _) _ _ s
  have e : ((List.range (Builtin.Slice.slicePlaces (Builtin.Slice.sliceAdjust lo hi st items.size).1 (Builtin.Slice.sliceAdjust lo hi st items.size).2 st)).filterMap fun (k : Nat) => items[((Builtin.Slice.sliceAdjust lo hi st items.size).1 + (k : Int) * st).toNat]?) = pkT st lo hi items.toList := by
    unfold pkT
    rw [Array.length_toList, List.filterMap_map]
    congr 1
    funext k
    simp
  rw [if_neg hno, e]
  first
    | exact wpAny_bind (m :=
        Builtin.Tuple.tupleExact _) (wpAny_newObj_type (wpAny_pure ⟨_, rfl, wpAny_pure h⟩) htake)
    | exact wpAny_bind (m :=
        Builtin.Tuple.tupleExact _) (wpAny_newObj_type (wpAny_bind (wpAny_pure (wpAny_pure ⟨_, rfl, wpAny_pure h⟩))) htake)
    | exact wpAny_bind (wpAny_bind (m :=
        Builtin.Tuple.tupleExact _) (wpAny_newObj_type (wpAny_pure (wpAny_pure ⟨_, rfl, wpAny_pure h⟩)) htake))
    | exact wpAny_bind (wpAny_bind (m :=
        Builtin.Tuple.tupleExact _) (wpAny_newObj_type (wpAny_pure ⟨_, rfl, wpAny_pure h⟩) htake))
end
section
variable {X : Cx} {e : Expr} {te : L2.TE} {lo hi : Option Expr} {tl th : L2.TO} {pos p2 : Pos}
def tSls (K : PySem.W.Frag) (st : Int) (te : L2.TE) (tl th : L2.TO) : L2.TE := fun σ H Q => te σ H fun x H1 => tl σ H1 fun l H2 => th σ H2 fun u H3 => ∃ a xs, x = .ref a ∧
  ((SqL K H3 a xs ∧ (pkL st l u xs).length ≤ sizeLine ∧ ∀ p, H3 p = none → Q (.ref p) (upd H3 p (.lst (pkL st l u xs)))) ∨ (SqT K H3 a xs ∧ (pkT st l u xs).length ≤ sizeLine ∧ NewT Q H3 (pkT st l u xs)))
theorem po_st {sp : Expr} {k : Int} (h : stN sp = some k) : k ≠ 0 ∧ k ≠ 1 ∧ ∀ (pins : List (Addr × Obj)) (s : Shared) (σ : L2.St) (H : Hp), L2.Inv X pins σ H s →
    wpAny (model X.prog X.w) X.A (evalPart (some sp) X.env) (fun u s' => L2.Inv X pins σ H s' ∧ IsPart u (some k)) X.xe s := by
  unfold stN at h
  split at h
  · split at h
    · cases h
    · rename_i hi
      cases h
      refine ⟨fun z => hi (.inl z), fun z => hi (.inr z), fun pins s σ H I => ?_⟩
      exact thn ((po_some pe_int).run pins s σ H (fun o H' => o = some k ∧ H' = H) I ⟨k, rfl, rfl, rfl⟩) fun u s' ⟨o, H', I', p, e1, e2⟩ => by
        subst e1 e2
        exact ⟨I', p⟩
  · split at h
    · cases h
    · rename_i i _ _ _ hi
      injection h with h
      subst h
      refine ⟨fun z => hi (.inl (by omega)), fun z => hi (.inr (by omega)), fun pins s σ H I => ?_⟩
      exact thn ((po_some (pe_un un_neg pe_int)).run pins s σ H (fun o H' => o = some (-i) ∧ H' = H) I ⟨i, rfl, -i, rfl, rfl, rfl⟩) fun u s' ⟨o, H', I', p, e1, e2⟩ => by
        subst e1 e2
        exact ⟨I', p⟩
  · cases h
theorem pe_sls {sp : Expr} {k : Int} (hk : stN sp = some k) (he : PE X e te) (hl : PO X lo tl) (hu : PO X hi th) : PE X (.Subscript e (.Slice lo hi (some sp) p2) pos) (tSls X.K k te tl th) := by
  refine ⟨fun pins s σ H Q I h =>
      ?_⟩
  obtain ⟨k0, k1, hp⟩ := po_st (X := X) hk
  refine Subscript_ (thn (he.run pins s σ H _ I h) fun v s1 ⟨x, H1, I1, r1, q1⟩ =>
      ?_)
  refine wpAny_Slice (thn (hl.run pins s1 σ H1 _ I1 q1) fun vl s2 ⟨l, H2, I2, pl, q2⟩ =>
      thn (hu.run pins s2 σ H2 _ I2 q2) fun vu s3 ⟨u, H3, I3, pu, q3⟩ => ?_)
  refine thn (hp pins s3 σ H3 I3) fun vs s4 ⟨I4, ps⟩ => ?_
  have I5 : L2.Inv X pins σ H3 { s4 with heap := s4.heap.push { cls := .type "slice", data := .fields #[vl, vu, vs] } } := I4.kept (t' := s4.toks) fun b ob q => Heap.get?_push_of_some _ q
  obtain ⟨a, xs, rfl, q3⟩ := q3
  cases r1
  show wpAny (model X.prog X.w) X.A (subscriptTail e (.Slice lo hi (some sp) p2) (.ref a) (.ref s4.heap.objs.size)) (EP X pins σ Q) X.xe { s4 with heap := s4.heap.push { cls := .type "slice", data := .fields #[vl, vu, vs] } }
  rcases q3 with ⟨hx, hz, q⟩ | ⟨hx, hz, q⟩
  · obtain ⟨its, r, ht, hz1⟩ := I5.list hx
    have hlen := r.length
    refine tail_any (ops :=
        [.ref a, .ref s4.heap.objs.size]) ht.isList.typeIs (PySem.slot_list_getitem.lookup) ?_ (by with_unfolding_all rfl)
    refine wpAny_getItem_list_slice ht.isList (Heap.IsSliceOf.new _ vl vu vs) pl pu ps (by simpa using k0) ?_ (by rw [List.size_toArray]; omega)
    have e1 : slicePick its.toArray l u (some k) = (pkL k l u its).toArray := by
      unfold slicePick pkL
      rw [List.size_toArray]
      congr 2
      funext z
      simp
    rw [e1]
    have r2 : Vals (pkL k l u xs) (pkL k l u its) := by
      unfold pkL
      rw [hlen]
      exact vals_pick r _
    refine ⟨.ref _, _, I5.laid (t' := s4.toks) (o := .lst (pkL k l u xs)) (fun b ob q => Heap.get?_push_of_some _ q) (Nat.le_refl _) ?_, rfl, q _ (I5.hok.fresh (Nat.le_refl _))⟩
    exact ⟨hz, _, 0, r2, Heap.get?_push_size _ rfl⟩
  · obtain ⟨its, r, ht, hz1⟩ := I5.tuple hx
    have hlen := r.length
    have r2 : Vals (pkT k l u xs) (pkT k l u its) := by
      unfold pkT
      rw [hlen]
      exact vals_pick r _
    refine tail_any (ops := [.ref a, .ref s4.heap.objs.size]) ht.typeIs (slot_tuple_getitem.lookup) ?_ (by with_unfolding_all rfl)
    exact getItem_tuple_st ht (Heap.IsSliceOf.new _ vl vu vs) pl pu ps k0 k1 (newT_ok I5 r2 hz q) (by rw [← r2.length]; exact hz)
theorem sls_ok {h : AH} {H : Hp} {x : V} {xr : Rv} {l u : Option Int} {k : Int} {r : Rv} {Q : VK} (rel : RelH X.K X.mg h H) (ox : Opd X.K X.mg h H x xr) (e : slsD xr l u k h = some r) (a : Aft X.K X.mg h H h Q r) : ∃ p xs, x = .ref p ∧
    ((SqL X.K H p xs ∧ (pkL k l u xs).length ≤ sizeLine ∧ ∀ q, H q = none → Q (.ref q) (upd H q (.lst (pkL k l u xs)))) ∨ (SqT X.K H p xs ∧ (pkT k l u xs).length ≤ sizeLine ∧ NewT Q H (pkT k l u xs))) := by
  unfold slsD at e
  split at e
  · split at e
    · rename_i xs hz
      cases e
      cases ox with
      | tup s1 r1 =>
        rename_i p vs
        have r2 : Reps X.K X.mg H (pkT k l u vs) (pkT k l u xs) := by
          unfold pkT
          rw [r1.length]
          exact reps_pick r1 _
        exact ⟨_, _, rfl, .inr ⟨s1.sq, by rw [r2.length, sizeLine_eq]; exact hz, a.newT rel r2⟩⟩
    · cases e
  · split at e
    · rename_i xs ex
      split at e
      · rename_i hz
        cases e
        obtain ⟨p, vs, rfl, s1, r1⟩ := opd_ls ox rel ex
        have r2 : Reps X.K X.mg H (pkL k l u vs) (pkL k l u xs) := by
          unfold pkL
          rw [r1.length]
          exact reps_pick r1 _
        exact ⟨_, _, rfl, .inl ⟨s1, by rw [r2.length, sizeLine_eq]; exact hz, fun q hq => a.newL rel hq r2⟩⟩
      · cases e
    · cases e
end
end Py
/-! The abstract reading is sound: what it says of a piece of syntax, the layer's readings say. -/
namespace Py
open L2 PySem.Spec PySem PyProof.Rows

/-- the slots hold the data -/
structure RelS (K : PySem.W.Frag) (M : Str → Option Value) (H : Hp) (σ : L2.St) (env : Env) : Prop where
  len : σ.length = env.length
  at_ : ∀ (i : Nat) (d : D), env[i]? = some (some d) → ∃ v, σ[i]? = some (some v) ∧ Rep K M H v d
/-- what may be thrown -/
def Xok (K : PySem.W.Frag) (M : Str → Option Value) (W : WX) (σ : L2.St) (h : AH) (H : Hp) (X0 : Xc) : Prop :=
  ∀ c h' H' a, X0 c h' → Tr h H h' H' → RelH K M h' H' → M c = some (.ref a) → W (.ref a) none σ H'
structure Now (K : PySem.W.Frag) (M : Str → Option Value) (W : WX) (σ : L2.St) (env : Env) (h : AH) (H : Hp) (X0 : Xc) : Prop where
  rel : RelH K M h H
  rs : RelS K M H σ env
  xo : Xok K M W σ h H X0
section
variable {K : PySem.W.Frag} {M : Str → Option Value} {W : WX} {σ : L2.St} {env : Env} {h h' : AH} {H H' : Hp} {X0 : Xc}
theorem RelS.mono (m : Mn K H H') (r : RelS K M H σ env) : RelS K M H' σ env := ⟨r.len, fun i d e => let ⟨v, e1, q⟩ := r.at_ i d e; ⟨v, e1, q.mono m⟩⟩
theorem Xok.mono (x : Tr h H h' H') (q : Xok K M W σ h H X0) : Xok K M W σ h' H' X0 := fun c h2 H2 a x0 t r e => q c h2 H2 a x0 (x.trans t) r e
theorem Now.go (n : Now K M W σ env h H X0) (x : Tr h H h' H') (r : RelH K M h' H') : Now K M W σ env h' H' X0 := ⟨r, n.rs.mono (x.mn n.rel), n.xo.mono x⟩
theorem RelS.set {v : V} {d : D} (r : RelS K M H σ env) (q : Rep K M H v d) (i : Nat) : RelS K M H (σ.set i (some v)) (env.set i (some d)) := by
  refine ⟨by rw [List.length_set, List.length_set, r.len], fun j e he => ?_⟩
  by_cases hj : i = j
  · subst hj
    by_cases hl : i < env.length
    · rw [List.getElem?_set_self hl] at he
      cases he
      exact ⟨v, List.getElem?_set_self (by rw [r.len]; exact hl), q⟩
    · rw [List.getElem?_eq_none (by simpa using hl)] at he
      cases he
  · rw [List.getElem?_set_ne hj] at he ⊢
    exact r.at_ j e he
theorem RelS.setN (r : RelS K M H σ env) (i : Nat) : RelS K M H (σ.set i none) (env.set i none) := by
  refine ⟨by rw [List.length_set, List.length_set, r.len], fun j e he => ?_⟩
  by_cases hj : i = j
  · subst hj
    by_cases hl : i < env.length
    · rw [List.getElem?_set_self hl] at he
      cases he
    · rw [List.getElem?_eq_none (by simpa using hl)] at he
      cases he
  · rw [List.getElem?_set_ne hj] at he ⊢
    exact r.at_ j e he
theorem RelS.wipe (r : RelS K M H σ env) : ∀ vs : List Nat, RelS K M H (L2.wipe σ vs) (Py.wipe env vs)
  | [] => r
  | v :: vs => (RelS.wipe r vs).setN v
theorem RelS.lk {i : Nat} {d : D} (r : RelS K M H σ env) (e : lk env i = some d) : ∃ v, σ[i]? = some (some v) ∧ Rep K M H v d := by
  unfold Py.lk at e
  split at e
  · rename_i d' h'
    cases e
    exact r.at_ _ _ h'
  · cases e
end

/-! ### the readings -/
section
variable (K : PySem.W.Frag) (M : Str → Option Value) (W : WX)
def tOf (m : TX) : L2.TE := fun σ H Q => ∃ env h Q0 X0, Now K M W σ env h H X0 ∧ m env h Q0 X0 ∧ ∀ r h' v H', Q0 r h' → Tr h H h' H' → RelH K M h' H' → RepR K M H h' H' v r → Q v H'
def ttOf (m : Env → AH → (Bool → AH → Prop) → Xc → Prop) : L2.TT := fun σ H Q => ∃ env h Q0 X0, Now K M W σ env h H X0 ∧ m env h Q0 X0 ∧ ∀ k h' H', Q0 k h' → Tr h H h' H' → RelH K M h' H' → Q k H'
def taOf (m : TEs) : L2.TA := fun σ H Q => ∃ env h Q0 X0, Now K M W σ env h H X0 ∧ m env h Q0 X0 ∧ ∀ ds h' vs H', Q0 ds h' → Tr h H h' H' → RelH K M h' H' → Reps K M H' vs ds → Q vs H'
def toOf (m : TO) : L2.TO := fun σ H Q => ∃ env h Q0 X0, Now K M W σ env h H X0 ∧ m env h Q0 X0 ∧ ∀ o h' H', Q0 o h' → Tr h H h' H' → RelH K M h' H' → Q o H'
/-- what was made between Hp and H0, and is not known, is kept -/
def Kp (Hpre : Hp) (h0 : AH) (H0 : Hp) (h : AH) (H : Hp) : Prop := ∀ p o, Hpre p = none → H0 p = some o → h0 p = none → H p = some o ∧ h p = none
def Walks (s : Src) (J : L2.It) (Hpre : Hp) (h0 : AH) (H0 : Hp) : Prop := ∀ h H, Kp Hpre h0 H0 h H → Mn K H0 H → RelH K M h H → s.chk h → ∀ i,
  (∀ d, s.items[i]? = some d → J.go i H ∧ ∀ x H', J.yld i H x H' → H' = H ∧ Rep K M H x d) ∧ (s.items.length ≤ i → J.stop i H)
def tiOf (m : TI) : L2.TI := fun σ H R => ∃ env h Q0 X0, Now K M W σ env h H X0 ∧ m env h Q0 X0 ∧ ∀ s h' J H', Q0 s h' → Tr h H h' H' → RelH K M h' H' → Walks K M s J H h' H' → R J H'
/-- only slots of p change -/
def Ag (p : Nat → Bool) (σ σ' : L2.St) : Prop := σ'.length = σ.length ∧ ∀ i : Nat, p i = false → σ'[i]? = σ[i]?
def tgOf (p : Nat → Bool) (m : TG) : L2.TG := fun v σ H Q => ∃ d env h Q0, RelH K M h H ∧ RelS K M H σ env ∧ Rep K M H v d ∧ m d env h Q0 ∧
  ∀ env' h' σ' H', Q0 env' h' → Tr h H h' H' → RelH K M h' H' → RelS K M H' σ' env' → Ag p σ σ' → Q σ' H'
def tgsOf (p : Nat → Bool) (m : TGs) : L2.TGs := fun vs σ H Q => ∃ ds env h Q0, RelH K M h H ∧ RelS K M H σ env ∧ Reps K M H vs ds ∧ m ds env h Q0 ∧
  ∀ env' h' σ' H', Q0 env' h' → Tr h H h' H' → RelH K M h' H' → RelS K M H' σ' env' → Ag p σ σ' → Q σ' H'
end
section
variable {X : Cx}
theorem PE_le {e : Expr} {t t' : L2.TE} (g : PE X e t) (m : ∀ σ H Q, t' σ H Q → t σ H Q) : PE X e t' := ⟨fun pins s σ H Q I q => g.run pins s σ H Q I (m σ H Q q)⟩
theorem PT_le {e : Expr} {t t' : L2.TT} (g : PT X e t) (m : ∀ σ H Q, t' σ H Q → t σ H Q) : PT X e t' := ⟨fun pins s σ H Q I q => g.run pins s σ H Q I (m σ H Q q)⟩
theorem PW_le {e : Expr} {t t' : L2.TT} (g : PW X e t) (m : ∀ σ H Q, t' σ H Q → t σ H Q) : PW X e t' := ⟨fun wh pins s σ H Q I q => g.run wh pins s σ H Q I (m σ H Q q)⟩
theorem PA_le {e : List Expr} {t t' : L2.TA} (g : PA X e t) (m : ∀ σ H Q, t' σ H Q → t σ H Q) : PA X e t' := ⟨fun pos pins s σ H Q I q => g.run pos pins s σ H Q I (m σ H Q q)⟩
theorem PI_le {tg e : Expr} {t t' : L2.TI} (g : PI X tg e t) (m : ∀ σ H R, t' σ H R → t σ H R) : PI X tg e t' := ⟨fun pins s σ H R I q => g.run pins s σ H R I (m σ H R q)⟩
theorem PO_le {e : Option Expr} {t t' : L2.TO} (g : PO X e t) (m : ∀ σ H R, t' σ H R → t σ H R) : PO X e t' := ⟨fun pins s σ H R I q => g.run pins s σ H R I (m σ H R q)⟩
theorem PG_le {e : Expr} {t t' : L2.TG} (g : PG X e t) (m : ∀ v σ H R, t' v σ H R → t v σ H R) : PG X e t' := ⟨fun pins s σ H v u Q I r q => g.run pins s σ H v u Q I r (m v σ H Q q)⟩
theorem PS_le {e : Stmt} {t t' : L2.TS} (g : PS X e t) (m : ∀ D σ H, t' D σ H → t D σ H) : PS X e t' := ⟨fun pins s σ H D I q => g.run pins s σ H D I (m D σ H q)⟩
theorem PSs_le {e : List Stmt} {t t' : L2.TS} (g : PSs X e t) (m : ∀ D σ H, t' D σ H → t D σ H) : PSs X e t' := ⟨fun pins s σ H D I q => g.run pins s σ H D I (m D σ H q)⟩
end

section
variable {K : PySem.W.Frag} {M : Str → Option Value} {W : WX} {a b c e : TX}
variable {σ : L2.St} {H : Hp}
/-- the operand of a made or known object, behind another step -/
theorem opd2 {H0 : Hp} {h1 h2 : AH} {H1 H2 : Hp} {v : V} {r : Rv} (q : RepR K M H0 h1 H1 v r) (x : Tr h1 H1 h2 H2) (rel : RelH K M h1 H1) : Opd K M h2 H2 v r := (q.opd).mono x rel
theorem aft_of {Q0 : Rv → AH → Prop} {Q : VK} {h h2 : AH} {H2 : Hp} {r : Rv} (hq : ∀ r h' v H', Q0 r h' → Tr h H h' H' → RelH K M h' H' → RepR K M H h' H' v r → Q v H') (x : Tr h H h2 H2) (rel : RelH K M h2 H2) (q : Q0 r h2) : Aft K M h2 H2 h2 Q r :=
  fun v H3 t r3 rp => hq r h2 v H3 q (x.trans t) r3 (rp.back x.grow)
end
end Py
/-! The abstract reading is sound: expressions. -/
namespace Py
open L2 PySem.Spec PySem PyProof.Rows
abbrev eOf (X : Cx) (W : WX) (m : TX) : L2.TE := tOf X.K X.mg W m
abbrev cOf (X : Cx) (W : WX) (m : TX) : L2.TT := ttOf X.K X.mg W (tT m)
abbrev aOf (X : Cx) (W : WX) (m : TEs) : L2.TA := taOf X.K X.mg W m
abbrev oOf (X : Cx) (W : WX) (m : TO) : L2.TO := toOf X.K X.mg W m
abbrev iOf (X : Cx) (W : WX) (m : TI) : L2.TI := tiOf X.K X.mg W m
abbrev gOf (X : Cx) (p : Nat → Bool) (m : TG) : L2.TG := tgOf X.K X.mg p m
/-- a test that is plainly the truth of its value -/
def PlainT (X : Cx) (e : Expr) : Prop := ∀ whole, isTrue e X.env whole = (do let v ← whole; standAt e.pos; holding [v] (truthy v))
section
variable {X : Cx} {W : WX} {a b c e : Expr} {pos : Pos} {ma mb mc : TX}
theorem s_truth (ha : PE X a (eOf X W ma)) (he : PlainT X a) : PT X a (cOf X W ma) := PT_le (pt_truth ha he) fun σ H Q ⟨env, h, Q0, X0, n, q, hq⟩ =>
  ⟨env, h, _, X0, n, q, fun r h1 v1 H1 ⟨k, e, q1⟩ t1 r1 p1 => ⟨k, tru_V r1 p1.opd e, hq k h1 H1 q1 t1 r1⟩⟩
theorem s_lit {d : D} {v : V} (g : PE X a (tC v)) (hd : ∀ H, Rep X.K X.mg H v d) : PE X a (eOf X W (xLit d)) := PE_le g fun σ H Q ⟨env, h, Q0, X0, n, q, hq⟩ =>
  hq _ _ _ _ q .refl n.rel (hd H)
theorem s_var {i : Nat} (g : PE X a (tVar i)) : PE X a (eOf X W (xVar i)) := PE_le g fun σ H Q ⟨env, h, Q0, X0, n, ⟨d, e, q⟩, hq⟩ =>
  let ⟨v, e1, r⟩ := n.rs.lk e
  ⟨v, e1, hq _ _ _ _ q .refl n.rel r⟩
theorem s_bin (op : Bop) (ha : PE X a (eOf X W ma)) (hb : PE X b (eOf X W mb)) : PE X (.BinOp a (opOf op) b pos) (eOf X W (xBin op ma mb)) :=
  PE_le (pe_op (bin_ok op) ha hb) fun σ H Q ⟨env, h, Q0, X0, n, q, hq⟩ => ⟨env, h, _, X0, n, q, fun x h1 v1 H1 q1 t1 r1 p1 =>
    ⟨env, h1, _, X0, n.go t1 r1, q1, fun y h2 v2 H2 ⟨r, e, q2⟩ t2 r2 p2 => ⟨h2, x, y, r, r2, opd2 p1 t2 r1, p2.opd, e, aft_of hq (t1.trans t2) r2 q2⟩⟩⟩
theorem s_neg (ha : PE X a (eOf X W ma)) : PE X (.UnaryOp .USub a pos) (eOf X W (xNeg ma)) :=
  PE_le (pe_un un_neg ha) fun σ H Q ⟨env, h, Q0, X0, n, q, hq⟩ => ⟨env, h, _, X0, n, q, fun x h1 v1 H1 ⟨i, e, q1⟩ t1 r1 p1 => by
    unfold asInt at e
    split at e
    · cases e
      cases p1
      exact ⟨_, rfl, hq _ _ _ _ q1 t1 r1 (.int _)⟩
    · cases e⟩
theorem s_cmp (hu : X.A.units + 65 < cLine) (op : Cop) (ha : PE X a (eOf X W ma)) (hb : PE X b (eOf X W mb)) (hm : behindInMarks (copOf op) b = false) :
    PE X (.Compare a [copOf op] [b] pos) (eOf X W (xCmp op ma mb)) ∧ PT X (.Compare a [copOf op] [b] pos) (cOf X W (xCmp op ma mb)) := by
  constructor
  · exact PE_le (pe_cmpR (cmp_ok hu op) ha hb hm) fun σ H Q ⟨env, h, Q0, X0, n, q, hq⟩ => ⟨env, h, _, X0, n, q, fun x h1 v1 H1 q1 t1 r1 p1 =>
      ⟨env, h1, _, X0, n.go t1 r1, q1, fun y h2 v2 H2 ⟨k, e, q2⟩ t2 r2 p2 => ⟨h2, x, y, k, r2, opd2 p1 t2 r1, p2.opd, e, hq _ _ _ _ q2 (t1.trans t2) r2 (.bl k)⟩⟩⟩
  · exact PT_le (pt_cmpR (cmp_ok hu op) ha hb hm) fun σ H Q ⟨env, h, Q0, X0, n, q, hq⟩ => ⟨env, h, _, X0, n, q, fun x h1 v1 H1 q1 t1 r1 p1 =>
      ⟨env, h1, _, X0, n.go t1 r1, q1, fun y h2 v2 H2 ⟨k, e, k', e', q2⟩ t2 r2 p2 => ⟨h2, x, y, k, r2, opd2 p1 t2 r1, p2.opd, e, k, rfl, by
        have e2 : some k = some k' := e'
        cases e2
        exact hq _ _ _ q2 (t1.trans t2) r2⟩⟩⟩
theorem s_chain (hu : X.A.units + 65 < cLine) (o1 o2 : Cop) (ha : PE X a (eOf X W ma)) (hb : PE X b (eOf X W mb)) (hc : PE X c (eOf X W mc)) (hm : lastMarks [copOf o1, copOf o2] [b, c] = false) :
    PE X (.Compare a [copOf o1, copOf o2] [b, c] pos) (eOf X W (xChain o1 o2 ma mb mc)) ∧ PT X (.Compare a [copOf o1, copOf o2] [b, c] pos) (cOf X W (xChain o1 o2 ma mb mc)) := by
  constructor
  · exact PE_le (pe_chain (cmp_ok hu o1) (cmp_ok hu o2) ha hb hc hm) fun σ H Q ⟨env, h, Q0, X0, n, q, hq⟩ => ⟨env, h, _, X0, n, q, fun x h1 v1 H1 q1 t1 r1 p1 =>
      ⟨env, h1, _, X0, n.go t1 r1, q1, fun y h2 v2 H2 ⟨k, e, q2⟩ t2 r2 p2 => ⟨h2, x, y, k, r2, opd2 p1 t2 r1, p2.opd, e, k, rfl, by
        cases k with
        | false => exact hq _ _ _ _ q2 (t1.trans t2) r2 (.bl false)
        | true => exact ⟨env, h2, _, X0, (n.go t1 r1).go t2 r2, q2, fun z h3 v3 H3 ⟨k2, e2, q3⟩ t3 r3 p3 => ⟨h3, y, z, k2, r3, opd2 p2 t3 r2, p3.opd, e2, hq _ _ _ _ q3 ((t1.trans t2).trans t3) r3 (.bl k2)⟩⟩⟩⟩⟩
  · exact PT_le (pt_chain (cmp_ok hu o1) (cmp_ok hu o2) ha hb hc hm) fun σ H Q ⟨env, h, Q0, X0, n, q, hq⟩ => ⟨env, h, _, X0, n, q, fun x h1 v1 H1 q1 t1 r1 p1 =>
      ⟨env, h1, _, X0, n.go t1 r1, q1, fun y h2 v2 H2 ⟨k, e, q2⟩ t2 r2 p2 => ⟨h2, x, y, k, r2, opd2 p1 t2 r1, p2.opd, e, k, rfl, by
        cases k with
        | false =>
          obtain ⟨k', e', q2⟩ := q2
          cases (show some false = some k' from e')
          exact ⟨false, rfl, hq _ _ _ q2 (t1.trans t2) r2⟩
        | true => exact ⟨env, h2, _, X0, (n.go t1 r1).go t2 r2, q2, fun z h3 v3 H3 ⟨k2, e2, k', e', q3⟩ t3 r3 p3 => ⟨h3, y, z, k2, r3, opd2 p2 t3 r2, p3.opd, e2, k2, rfl, by
            cases (show some k2 = some k' from e')
            exact hq _ _ _ q3 ((t1.trans t2).trans t3) r3⟩⟩⟩⟩⟩
theorem s_isc (neg : Bool) (d : D) {v : V} (ha : PE X a (eOf X W ma)) (hb : PE X b (tC v)) (hd : ∀ H, Rep X.K X.mg H v d) :
    PE X (.Compare a [if neg then .IsNot else .Is] [b] pos) (eOf X W (xIsc neg ma d)) ∧ PT X (.Compare a [if neg then .IsNot else .Is] [b] pos) (cOf X W (xIsc neg ma d)) := by
  have hm : behindInMarks (if neg then .IsNot else .Is) b = false := by cases neg <;> exact nomark b
  constructor
  · exact PE_le (pe_cmpR (is_ok d neg) ha hb hm) fun σ H Q ⟨env, h, Q0, X0, n, q, hq⟩ => ⟨env, h, _, X0, n, q, fun x h1 v1 H1 ⟨k, e, q1⟩ t1 r1 p1 =>
      ⟨h1, x, k, r1, p1.opd, hd _, e, hq _ _ _ _ q1 t1 r1 (.bl _)⟩⟩
  · exact PT_le (pt_cmpR (is_ok d neg) ha hb hm) fun σ H Q ⟨env, h, Q0, X0, n, q, hq⟩ => ⟨env, h, _, X0, n, q, fun x h1 v1 H1 ⟨k, e, k', e', q1⟩ t1 r1 p1 =>
      ⟨h1, x, k, r1, p1.opd, hd _, e, _, rfl, by
        cases (show some (k != neg) = some k' from e')
        exact hq _ _ _ q1 t1 r1⟩⟩
theorem s_not (ha : PE X a (eOf X W ma) ∧ PT X a (cOf X W ma)) : PE X (.UnaryOp .Not a pos) (eOf X W (xNot ma)) ∧ PT X (.UnaryOp .Not a pos) (cOf X W (xNot ma)) := by
  constructor
  · exact PE_le (pe_notT ha.1) fun σ H Q ⟨env, h, Q0, X0, n, q, hq⟩ => ⟨env, h, _, X0, n, q, fun x h1 v1 H1 ⟨k, e, q1⟩ t1 r1 p1 => ⟨k, tru_V r1 p1.opd e, hq _ _ _ _ q1 t1 r1 (.bl _)⟩⟩
  · exact PT_le (pt_not ha.2) fun σ H Q ⟨env, h, Q0, X0, n, q, hq⟩ => ⟨env, h, fun k h1 => Q0 (!k) h1, X0, n, by
      simp only [tT, xNot, tru, gd_some] at q ⊢
      exact q, fun k h1 H1 q1 t1 r1 => hq _ _ _ q1 t1 r1⟩
theorem s_ite (hm : MX ma) (hm' : MX mb) (hc : PT X c (cOf X W mc)) (ha : PE X a (eOf X W ma) ∧ PT X a (cOf X W ma)) (hb : PE X b (eOf X W mb) ∧ PT X b (cOf X W mb)) : PE X (.IfExp c a b pos) (eOf X W (xIte mc ma mb)) ∧ PT X (.IfExp c a b pos) (cOf X W (xIte mc ma mb)) := by
  constructor
  · exact PE_le (pe_ifExp hc ha.1 hb.1) fun σ H Q ⟨env, h, Q0, X0, n, q, hq⟩ => ⟨env, h, _, X0, n, q, fun k h1 H1 q1 t1 r1 => by
      cases k with
      | true => exact ⟨env, h1, Q0, X0, n.go t1 r1, q1, fun r h2 v2 H2 q2 t2 r2 p2 => hq r h2 v2 H2 q2 (t1.trans t2) r2 (p2.back t1.grow)⟩
      | false => exact ⟨env, h1, Q0, X0, n.go t1 r1, q1, fun r h2 v2 H2 q2 t2 r2 p2 => hq r h2 v2 H2 q2 (t1.trans t2) r2 (p2.back t1.grow)⟩⟩
  · refine ⟨fun pins s σ H Q I ⟨env, h, Q0, X0, n, q, hq⟩ => ?_⟩
    refine isTrue_IfExp (thn (hc.run pins s σ H (fun k H1 => (if k = true then cOf X W ma else cOf X W mb) σ H1 Q) I ⟨env, h, _, X0, n, q, fun k h1 H1 q1 t1 r1 => ?_⟩) fun d s1 ⟨H1, I1, q1⟩ => ?_)
    · cases k with
      | true => exact ⟨env, h1, Q0, X0, n.go t1 r1, q1, fun r h2 H2 q2 t2 r2 => hq r h2 H2 q2 (t1.trans t2) r2⟩
      | false => exact ⟨env, h1, Q0, X0, n.go t1 r1, q1, fun r h2 H2 q2 t2 r2 => hq r h2 H2 q2 (t1.trans t2) r2⟩
    · cases d with
      | true => exact ha.2.run pins s1 σ H1 Q I1 q1
      | false => exact hb.2.run pins s1 σ H1 Q I1 q1
theorem s_one {op : BoolOp} (ha : PE X a (eOf X W ma) ∧ PT X a (cOf X W ma)) : PE X (.BoolOp op [a] pos) (eOf X W ma) ∧ PW X (.BoolOp op [a] pos) (cOf X W ma) := by
  constructor
  · exact pe_one ha.1
  · cases op with
    | And => exact pw_and1 ha.2
    | Or => exact pw_or1 ha.2
theorem s_and {rest : List Expr} (mm : MX ma) (ha : PE X a (eOf X W ma) ∧ PT X a (cOf X W ma)) (hb : PE X (.BoolOp .And (b :: rest) pos) (eOf X W mb) ∧ PW X (.BoolOp .And (b :: rest) pos) (cOf X W mb)) :
    PE X (.BoolOp .And (a :: b :: rest) pos) (eOf X W (xAnd ma mb)) ∧ PW X (.BoolOp .And (a :: b :: rest) pos) (cOf X W (xAnd ma mb)) := by
  constructor
  · exact PE_le (pe_andT ha.1 hb.1) fun σ H Q ⟨env, h, Q0, X0, n, q, hq⟩ => ⟨env, h, _, X0, n, q, fun x h1 v1 H1 ⟨k, e, q1⟩ t1 r1 p1 => ⟨k, tru_V r1 p1.opd e, by
      cases k with
      | true => exact ⟨env, h1, Q0, X0, n.go t1 r1, q1, fun r h2 v2 H2 q2 t2 r2 p2 => hq r h2 v2 H2 q2 (t1.trans t2) r2 (p2.back t1.grow)⟩
      | false => exact hq _ _ _ _ q1 t1 r1 p1⟩⟩
  · exact PW_le (pw_and ha.2 hb.2) fun σ H Q ⟨env, h, Q0, X0, n, q, hq⟩ => ⟨env, h, fun k h1 => if k = true then tT mb env h1 Q0 X0 else Q0 false h1, X0, n, by
      refine mm _ _ _ _ _ _ (fun x h1 q => ?_) (fun _ _ z => z) q
      obtain ⟨k, e, q⟩ := q
      refine ⟨k, e, ?_⟩
      cases k with
      | true => exact q
      | false =>
        obtain ⟨k', e', q⟩ := q
        rw [e] at e'
        cases e'
        exact q, fun k h1 H1 q1 t1 r1 => by
      cases k with
      | true => exact ⟨env, h1, Q0, X0, n.go t1 r1, q1, fun r h2 H2 q2 t2 r2 => hq r h2 H2 q2 (t1.trans t2) r2⟩
      | false => exact hq _ _ _ q1 t1 r1⟩
theorem s_or {rest : List Expr} (mm : MX ma) (ha : PE X a (eOf X W ma) ∧ PT X a (cOf X W ma)) (hb : PE X (.BoolOp .Or (b :: rest) pos) (eOf X W mb) ∧ PW X (.BoolOp .Or (b :: rest) pos) (cOf X W mb)) :
    PE X (.BoolOp .Or (a :: b :: rest) pos) (eOf X W (xOr ma mb)) ∧ PW X (.BoolOp .Or (a :: b :: rest) pos) (cOf X W (xOr ma mb)) := by
  constructor
  · exact PE_le (pe_orT ha.1 hb.1) fun σ H Q ⟨env, h, Q0, X0, n, q, hq⟩ => ⟨env, h, _, X0, n, q, fun x h1 v1 H1 ⟨k, e, q1⟩ t1 r1 p1 => ⟨k, tru_V r1 p1.opd e, by
      cases k with
      | false => exact ⟨env, h1, Q0, X0, n.go t1 r1, q1, fun r h2 v2 H2 q2 t2 r2 p2 => hq r h2 v2 H2 q2 (t1.trans t2) r2 (p2.back t1.grow)⟩
      | true => exact hq _ _ _ _ q1 t1 r1 p1⟩⟩
  · exact PW_le (pw_or ha.2 hb.2) fun σ H Q ⟨env, h, Q0, X0, n, q, hq⟩ => ⟨env, h, fun k h1 => if k = true then Q0 true h1 else tT mb env h1 Q0 X0, X0, n, by
      refine mm _ _ _ _ _ _ (fun x h1 q => ?_) (fun _ _ z => z) q
      obtain ⟨k, e, q⟩ := q
      refine ⟨k, e, ?_⟩
      cases k with
      | false => exact q
      | true =>
        obtain ⟨k', e', q⟩ := q
        rw [e] at e'
        cases e'
        exact q, fun k h1 H1 q1 t1 r1 => by
      cases k with
      | false => exact ⟨env, h1, Q0, X0, n.go t1 r1, q1, fun r h2 H2 q2 t2 r2 => hq r h2 H2 q2 (t1.trans t2) r2⟩
      | true => exact hq _ _ _ q1 t1 r1⟩
/-! ### arguments -/
/-- a made object becomes known -/
theorem rv_take {K : PySem.W.Frag} {M : Str → Option Value} {h0 h : AH} {H0 H : Hp} {v : V} {r : Rv} {Q0 : D → AH → Prop} (q : rv r h Q0) (t : Tr h0 H0 h H) (rel : RelH K M h H) (p : RepR K M H0 h H v r) :
    ∃ d h', Q0 d h' ∧ Tr h0 H0 h' H ∧ RelH K M h' H ∧ Rep K M H v d := by
  cases r with
  | v d => exact ⟨d, h, q, t, rel, p⟩
  | o x =>
    obtain ⟨a, rfl, n0, n, ro⟩ := p
    exact ⟨.loc a, put h a x, q a n, t.take n0, rel.take ro, .loc a⟩
theorem s_nil : PA X [] (aOf X W esNil) := PA_le pa_nil fun σ H Q ⟨env, h, Q0, X0, n, q, hq⟩ => hq _ _ _ _ q .refl n.rel .nil
theorem s_cons {es : List Expr} {ms : TEs} (ha : PE X a (eOf X W ma)) (hs : PA X es (aOf X W ms)) (hst : starEach (a :: es) X.env = (false, eval a X.env) :: starEach es X.env) : PA X (a :: es) (aOf X W (esCons ma ms)) :=
  PA_le (pa_cons ha hs hst) fun σ H Q ⟨env, h, Q0, X0, n, q, hq⟩ => ⟨env, h, _, X0, n, q, fun r h1 v1 H1 q1 t1 r1 p1 => by
    obtain ⟨d, h1', q1, t1', r1', p1'⟩ := rv_take q1 t1 r1 p1
    exact ⟨env, h1', _, X0, n.go t1' r1', q1, fun ds h2 vs H2 q2 t2 r2 p2 => hq _ _ _ _ q2 (t1'.trans t2) r2 (.cons (p1'.mono (t2.mn r1')) p2)⟩⟩
theorem s_tup {es : List Expr} {ms : TEs} {k : Nat} (hs : PA X es (aOf X W ms)) : PE X (.Tuple es k pos) (eOf X W (xTup ms)) :=
  PE_le (pe_tupX hs) fun σ H Q ⟨env, h, Q0, X0, n, q, hq⟩ => ⟨env, h, _, X0, n, q, fun ds h1 vs H1 ⟨z, q1⟩ t1 r1 p1 =>
    ⟨by rw [p1.length, sizeLine_eq]; exact z, Aft.newT (ds := ds) (aft_of hq t1 r1 q1) r1 p1⟩⟩
theorem s_lst {es : List Expr} {ms : TEs} (hs : PA X es (aOf X W ms)) : PE X (.List es pos) (eOf X W (xLst ms)) :=
  PE_le (pe_lst hs) fun σ H Q ⟨env, h, Q0, X0, n, q, hq⟩ => ⟨env, h, _, X0, n, q, fun ds h1 vs H1 ⟨z, q1⟩ t1 r1 p1 =>
    ⟨by rw [p1.length, sizeLine_eq]; exact z, fun p hp => Aft.newL (ds := ds) (aft_of hq t1 r1 q1) r1 hp p1⟩⟩
/-- one argument -/
theorem s_call1 {id : Value} {b : Bi} {r : List V → Hp → VK → Prop} {f : Expr} (hr : ∀ xs H Q, bi1 X.K X.mg b xs H Q → r xs H Q) (g : ∀ t : L2.TA, PA X [a] t → PE X f (tCB r t)) (ha : PE X a (eOf X W ma)) (hst : starEach [a] X.env = (false, eval a X.env) :: starEach [] X.env) :
    PE X f (eOf X W (xB1 b ma)) :=
  PE_le (g _ (pa_cons ha pa_nil hst)) fun σ H Q ⟨env, h, Q0, X0, n, q, hq⟩ => ⟨env, h, _, X0, n, q, fun x h1 v1 H1 ⟨r, e, q1⟩ t1 r1 p1 => hr _ _ _ ⟨v1, h1, x, r, rfl, r1, p1.opd, e, aft_of hq t1 r1 q1⟩⟩
theorem s_ix (ha : PE X a (eOf X W ma)) (hb : PE X b (eOf X W mb)) (hs : PlainIx b) : PE X (.Subscript a b pos) (eOf X W (xIx ma mb)) :=
  PE_le (pe_ix ix_ok ha hb hs) fun σ H Q ⟨env, h, Q0, X0, n, q, hq⟩ => ⟨env, h, _, X0, n, q, fun x h1 v1 H1 q1 t1 r1 p1 =>
    ⟨env, h1, _, X0, n.go t1 r1, q1, fun y h2 v2 H2 ⟨d, e, q2⟩ t2 r2 p2 => ⟨h2, x, y, d, r2, opd2 p1 t2 r1, p2.opd, e, fun v pv => hq _ _ _ _ q2 (t1.trans t2) r2 pv⟩⟩⟩
theorem s_oNo : PO X none (oOf X W oNo) := PO_le po_none fun σ H Q ⟨env, h, Q0, X0, n, q, hq⟩ => hq _ _ _ q .refl n.rel
theorem s_oSo (ha : PE X a (eOf X W ma)) : PO X (some a) (oOf X W (oSo ma)) := PO_le (po_some ha) fun σ H Q ⟨env, h, Q0, X0, n, q, hq⟩ => ⟨env, h, _, X0, n, q, fun x h1 v1 H1 ⟨i, e, q1⟩ t1 r1 p1 => by
    unfold asInt at e
    split at e
    · cases e
      cases p1
      exact ⟨_, rfl, hq _ _ _ q1 t1 r1⟩
    · cases e⟩
theorem s_sl {lo hi : Option Expr} {ml mh : TO} {p2 : Pos} (ha : PE X a (eOf X W ma)) (hl : PO X lo (oOf X W ml)) (hh : PO X hi (oOf X W mh)) : PE X (.Subscript a (.Slice lo hi none p2) pos) (eOf X W (xSl ma ml mh)) :=
  PE_le (pe_slice sl_ok ha hl hh) fun σ H Q ⟨env, h, Q0, X0, n, q, hq⟩ => ⟨env, h, _, X0, n, q, fun x h1 v1 H1 q1 t1 r1 p1 =>
    ⟨env, h1, _, X0, n.go t1 r1, q1, fun l h2 H2 q2 t2 r2 => ⟨env, h2, _, X0, (n.go t1 r1).go t2 r2, q2, fun u h3 H3 ⟨r, e, q3⟩ t3 r3 =>
      ⟨h3, x, r, r3, opd2 p1 (t2.trans t3) r1, e, aft_of hq ((t1.trans t2).trans t3) r3 q3⟩⟩⟩⟩
theorem s_sls {lo hi : Option Expr} {sp : Expr} {k : Int} {ml mh : TO} {p2 : Pos} (hk : stN sp = some k) (ha : PE X a (eOf X W ma)) (hl : PO X lo (oOf X W ml)) (hh : PO X hi (oOf X W mh)) : PE X (.Subscript a (.Slice lo hi (some sp) p2) pos) (eOf X W (xSls ma ml mh k)) :=
  PE_le (pe_sls hk ha hl hh) fun σ H Q ⟨env, h, Q0, X0, n, q, hq⟩ => ⟨env, h, _, X0, n, q, fun x h1 v1 H1 q1 t1 r1 p1 =>
    ⟨env, h1, _, X0, n.go t1 r1, q1, fun l h2 H2 q2 t2 r2 => ⟨env, h2, _, X0, (n.go t1 r1).go t2 r2, q2, fun u h3 H3 ⟨r, e, q3⟩ t3 r3 =>
      sls_ok r3 (opd2 p1 (t2.trans t3) r1) e (aft_of hq ((t1.trans t2).trans t3) r3 q3)⟩⟩⟩
end
end Py
namespace Py
open L2 PySem.Spec PySem PyProof.Rows
/-! ### len(set(..)) -/
theorem ddI_nd : ∀ (ns acc : List Int), acc.Nodup → (ns.foldl (fun acc x => if acc.any (· == x) then acc else acc ++ [x]) acc).Nodup
  | [], _, h => h
  | x :: r, acc, h => by
    rw [List.foldl_cons]
    refine ddI_nd r _ ?_
    split
    · exact h
    · rename_i e
      rw [List.nodup_append]
      refine ⟨h, by simp, fun a ha b hb z => ?_⟩
      rw [List.mem_singleton.mp hb] at z
      subst z
      exact e (List.any_eq_true.mpr ⟨a, ha, by simp⟩)
theorem ddI_mem : ∀ (ns acc : List Int) (y : Int), y ∈ ns.foldl (fun acc x => if acc.any (· == x) then acc else acc ++ [x]) acc ↔ y ∈ acc ∨ y ∈ ns
  | [], _, y => by simp
  | x :: r, acc, y => by
    rw [List.foldl_cons, ddI_mem r]
    split
    · rename_i e
      obtain ⟨z, hz, e2⟩ := List.any_eq_true.mp e
      have e3 : z = x := by simpa using e2
      subst e3
      constructor
      · rintro (h | h)
        · exact .inl h
        · exact .inr (List.mem_cons_of_mem _ h)
      · rintro (h | h)
        · exact .inl h
        · rcases List.mem_cons.mp h
              with rfl | h
          · exact .inl hz
          · exact .inr h
    · simp only [List.mem_append, List.mem_cons, List.not_mem_nil, or_false]
      constructor
      · rintro ((h | h) | h)
        · exact .inl h
        · exact .inr (.inl h)
        · exact .inr (.inr h)
      · rintro (h | h | h)
        · exact .inl (.inl h)
        · exact .inl (.inr h)
        · exact .inr h
theorem ddI_len {ns ks : List Int} (nd : ks.Nodup) (h : ∀ k, k ∈ ks ↔ k ∈ ns) : ks.length = (ddI ns).length := by
  have n2 : (ddI ns).Nodup := ddI_nd ns [] List.nodup_nil
  exact List.Perm.length_eq ((List.perm_ext_iff_of_nodup nd n2).mpr fun a => by rw [h]; unfold ddI; rw [ddI_mem]; simp)
theorem ddI_le (ns : List Int) : (ddI ns).length ≤ ns.length := by
  have key : ∀ (ns acc : List Int), (ns.foldl (fun acc x => if acc.any (· == x) then acc else acc ++ [x]) acc).length ≤ acc.length + ns.length := by
    intro ns
    induction ns with
    | nil => intro acc; simp
    | cons x r ih =>
      intro acc
      rw [List.foldl_cons]
      refine Nat.le_trans (ih _) ?_
      split
      · simp only
            [List.length_cons]; omega
      · simp only [List.length_append, List.length_cons, List.length_nil]; omega
  simpa [ddI] using key ns []
theorem firstMet_dd (ns : List Int) : ∀ i, i ≤ ns.length → PyProof.Rows.firstMet (fun i => ns.getD i 0) i = ddI (ns.take i) := by
  intro i
  induction i with
  | zero => intro _; rfl
  | succ i ih =>
    intro hi
    have hlt : i < ns.length :=
        hi
    have e1 :
        ns.getD i 0 = ns[i] := by
      rw [List.getD_eq_getElem?_getD,
          List.getElem?_eq_getElem hlt] <;> rfl
    have e2 :
        ns.take (i + 1) = ns.take i ++ [ns[i]] := by
      rw [List.take_add_one,
          List.getElem?_eq_getElem hlt] <;> rfl
    rw [PyProof.Rows.firstMet_succ, ih (by omega), e2, e1]
    unfold ddI
    rw [List.foldl_append]
    rfl
theorem ints_vals : ∀ {ns : List Int} {us : List Value}, Vals (ns.map V.int) us → PyProof.Rows.IntsAre us ns
  | [], _, .nil => .nil
  | n :: ns, _, .cons r t => by
    obtain ⟨k, rfl⟩ := r
    exact .cons n k (ints_vals t)
def tLens (K : PySem.W.Frag) (ta : TE) : TE := fun σ H Q => ta σ H fun x H1 => ∃ (l : Addr) (ns : List Int), x = .ref l ∧ (SqL K H1 l (ns.map V.int) ∨ SqT K H1 l (ns.map V.int)) ∧ ns.length < 4000 ∧ Q (.int ((ddI ns).length : Nat)) H1
theorem pe_lens {X : Cx} {a : Expr} {ta : TE} {p p2 q pos : Pos} (hc : X.calm = true) (hg : Gl X "len") (hm : X.mg "len" = none) (hg2 : Gl X "set") (hm2 : X.mg "set" = none) (ha : PE X a ta)
    (na : starEach [a] X.env = (false, eval a X.env) :: starEach [] X.env) : PE X (.Call (.Name "len" p) [.Call (.Name "set" p2) [a] [] q] [] pos) (tLens X.K ta) := by
  refine ⟨fun pins s σ H Q I h =>
      ?_⟩
  refine Call_ (ld_blt
      I hg hm boot_len ?_)
  refine PyProof.Rows.callWith_builtin1
      (PyProof.Rows.args_cons ?_ rfl) rfl rfl
  refine Call_ (ld_blt
      I hg2 hm2 boot_set ?_)
  refine PyProof.Rows.callWith_type1 (PyProof.Rows.args_cons (thn (ha.run pins s σ H _ I h) fun v s1 ⟨x, H1, I1, r1, q1⟩ =>
      PyProof.Rows.args_nil ?_) na) na rfl
  obtain ⟨l, ns, rfl, hq, hl, q1⟩ := q1
  cases r1
  have fl := ddI_le ns
  rcases hq with hq | hq
  · obtain ⟨its, r, pl, hz⟩ :=
        I1.list hq
    have hlen : its.toArray.size = ns.length :=
        by rw [List.size_toArray, ← r.length, List.length_map]
    refine call_set_list (I1.ok.hd hc) pl.isList (by simpa using ints_vals r) (by rw [hlen]; unfold scanBound; omega) fun h' tk hS hk => ?_
    refine PyProof.Rows.args_nil
        ?_
    rw [hlen, firstMet_dd ns ns.length (Nat.le_refl _), List.take_length] at hS
    obtain ⟨o, es, ep, t, ho, hex, hd, _, _, _, hf, hn⟩ :=
        hS
    have I2 : Inv X pins σ H1 { s1 with heap := h', toks := tk } := I1.kept fun b o e =>
        hk b o (Heap.lt_size e) e
    exact call_len_set ho hex hd hf (by rw [hn]; omega) ⟨.int (ddI ns).length, H1, I2.tok _, ⟨_, by rw [hn]⟩, q1⟩
  · obtain ⟨its, r, pl, hz⟩ :=
        I1.tuple hq
    refine call_set_tupI ns (I1.ok.hd hc) pl (by simpa using ints_vals r) (by unfold scanBound; omega) fun h' tk c R hcl hk => ?_
    refine PyProof.Rows.args_nil
        ?_
    obtain ⟨o, es, ep, t, ho, hex, hd, _, nd, hm, _, hf, hn, _, _⟩ := R
    have hcn : es.size = (ddI ns).length := by
      have e1 := ddI_len (ns := ns) nd fun k => by rw [← hm k]; simp
      rw [List.length_map, Array.length_toList] at e1
      exact e1
    have I2 : Inv X pins σ H1 { s1
        with heap := h', toks := tk } := I1.kept hk
    exact call_len_set ho hex hd hf (by rw [hcn]; omega) ⟨.int (ddI ns).length, H1, I2.tok _, ⟨_, by rw [hcn]⟩, q1⟩
theorem setA_eq {sc : Scope} {x : Str} {a b : Expr} (h : setA sc x a = some b) : x = "len" ∧ ∃ p2 q, a = .Call (.Name "set" p2) [b] [] q ∧ gloB sc "set" = true := by
  unfold setA at h
  split at h
  · rename_i e
    refine ⟨e, ?_⟩
    split at h
    · split at h
      · rename_i e2
        cases h
        obtain ⟨rfl, e3⟩ := e2
        exact ⟨_, _, rfl, e3⟩
      · cases h
    · cases h
  · cases h
section
variable {X : Cx} {W : WX} {a : Expr} {ma : TX} {p p2 q pos : Pos}
theorem s_lens (hc : X.calm = true) (hg : Gl X "len") (hm : X.mg "len" = none) (hg2 : Gl X "set") (hm2 : X.mg "set" = none) (ha : PE X a (eOf X W ma))
    (na : starEach [a] X.env = (false, eval a X.env) :: starEach [] X.env) : PE X (.Call (.Name "len" p) [.Call (.Name "set" p2) [a] [] q] [] pos) (eOf X W (xB1 .lens ma)) :=
  PE_le (pe_lens hc hg hm hg2 hm2 ha na) fun σ H Q ⟨env, h, Q0, X0, n, q, hq⟩ => ⟨env, h, _, X0, n, q, fun x h1 v1 H1 ⟨r, e, q1⟩ t1 r1 p1 => by
    have fin : ∀ {xs : List D} {ns : List Int}, intsL xs = some ns → lensI xs = some r → ns.length < 4000 ∧ r = .v (.int (ddI ns).length) := fun e1 e2 => by
      unfold lensI at e2
      rw [e1, Option.bind_some] at e2
      split at e2
      · rename_i hl
        cases e2
        exact ⟨hl, rfl⟩
      · cases e2
    have inLs : ∀ {xs : List D}, lensI xs = some r → ∃ ns, intsL xs = some ns := fun e2 => by
      unfold lensI at e2
      cases ei : intsL _ with
      | some ns => exact ⟨ns, rfl⟩
      | none => rw [ei] at e2; cases e2
    dsimp only [b1D] at e
    split at e
    · rename_i xs
      obtain ⟨ns, en⟩ := inLs e
      obtain ⟨hl, rfl⟩ := fin en e
      cases p1.opd with
      | tup s1 r2 =>
        obtain ⟨rfl, _⟩ := r2.ints en
        exact ⟨_, ns, rfl, .inr s1.sq, hl, (aft_of hq t1 r1 q1).v r1 (.int _)⟩
    · split at e
      · rename_i xs ex
        obtain ⟨ns, en⟩ := inLs e
        obtain ⟨hl, rfl⟩ := fin en e
        obtain ⟨l, vs, rfl, hS, r2⟩ := opd_ls p1.opd r1 ex
        obtain ⟨rfl, _⟩ := r2.ints en
        exact ⟨l, ns, rfl, .inl hS, hl, (aft_of hq t1 r1 q1).v r1 (.int _)⟩
      · cases e⟩
end
end Py
namespace Py
open L2 PySem.Spec PySem PyProof.Rows
/-! ### sorted(set(..)) of a list of ints -/
/-- a set that is just made -/
def nob (w : World) : Obj := { cls := .type "set", dict := none, data := .set #[] 0 (.fresh 0 0 (!w.params.followText "set-order")) }
section
variable {P : Program} {w : World} {A : Around} {E : Value → Shared → Prop}
/-- a new set is filled from a list -/
theorem fill_set {s : Shared} {l a : Addr} {items : Array Value} {ns : List Int} {Q : PySem.Fin → Shared → Prop} (hh : A.handled = none) (ha : s.heap.get? a = some (nob w)) (hl : s.heap.IsList l items) (hi : IntsAre items.toList ns) (hb : ns.length + 1 < scanBound)
    (q : ∀ (h' : Heap) (tk c : Nat), SetR w h' a (fun j => decide (j ∈ ns)) c → c ≤ ns.length → (∀ b o, b ≠ a → s.heap.get? b = some o → h'.get? b = some o) → wpAny (model P w) A (ret Value.none) Q E { s with heap := h', toks := tk }) :
    wpAny (model P w) A (Builtin.«set.__init__» ⟨[.ref a, .ref l], []⟩) Q E s := by
  obtain ⟨ol, hol, hcl, nl, hdl⟩ := hl
  have notSet := F.sub_list_set
  have notFrz := F.sub_list_frozenset
  have notDict : (Value.type "list" == Value.type "dict") = false := by decide
  obtain ⟨ocls, odict, odata, oslots⟩ :=
      ol
  simp only at hcl hdl
  subst hcl hdl
  have isl : s.heap.IsList l items := ⟨_, hol, rfl, nl, rfl⟩
  unfold Builtin.«set.__init__»
      noKeywords Builtin.Frozenset.updateFrom
  generalize epi : pyIter = PI
  wp_walk
  subst epi
  have la : l < s.heap.objs.size := Heap.lt_size hol
  have aa : a < s.heap.objs.size := Heap.lt_size ha
  have ne : a ≠ l := fun e => by
    rw [e, hol] at ha
    have : Value.type "list" = Value.type "set" := congrArg Obj.cls (Option.some.inj ha)
    exact absurd this (by decide)
  have cnt : items.size = ns.length := by rw [← hi.length, Array.length_toList]
  refine wpAny_pyIter_list isl (wpAny_bind (wpAny_runValue ?_))
  refine set_update_ints ((Walks.list (by simp [hh]) _ l (Nat.ne_of_lt la) items).toS) a ?_ ns cnt hb (fun i v hv => ?_) items.size 0 _ (by omega) (Nat.zero_le _) ⟨⟨_, Heap.get?_push_size _ rfl, rfl, rfl⟩, isl.push _⟩ ⟨0, Nat.le_refl 0, setR_new_at (Heap.get?_push_of_some _ ha)⟩ fun s' c m hc hS => ?_
  · simp only [List.mem_cons, List.not_mem_nil, or_false, not_or]
    exact ⟨Nat.ne_of_lt aa, ne⟩
  · have hlt : i < ns.length := cnt ▸ (Array.getElem?_eq_some_iff.mp hv).1
    obtain ⟨t, e⟩ := hi.int_at i v (by rw [Array.getElem?_toList]; exact hv)
    exact ⟨ns[i], t, List.getElem?_eq_getElem hlt, by rw [e]; simp [hlt]⟩
  · obtain ⟨h', g2, d', tk', os'⟩ := s'
    obtain rfl : g2 = s.gens := m.gens
    obtain rfl : d' = s.drawn := m.drawn
    obtain rfl : os' = s.os := m.os
    show wpAny (model P w) A (pure ()) _ E _
    refine wpAny_pure (q h' tk' c hS (cnt ▸ hc) fun b o nb e => m.heap b o ?_ (Heap.get?_push_of_some _ e))
    simp only [List.mem_cons, List.not_mem_nil, or_false, not_or]
    exact ⟨nb, Nat.ne_of_lt (Heap.lt_size e)⟩
theorem call_setL {s : Shared} {l : Addr} {items : Array Value} {ns : List Int} {Q : Value → Shared → Prop} (hh : A.handled = none) (hl : s.heap.IsList l items) (hi : IntsAre items.toList ns) (hb : ns.length + 1 < scanBound)
    (q : ∀ (h' : Heap) (tk c : Nat), SetR w h' s.heap.objs.size (fun j => decide (j ∈ ns)) c → c ≤ ns.length → (∀ b o, s.heap.get? b = some o → h'.get? b = some o) → Q (.ref s.heap.objs.size) { s with heap := h', toks := tk }) :
    wpAny (model P w) A (call (.type
        "set") [.ref l]) Q E s := by
  have r0 := F.called_set.made
  have r1 := F.called_set.sub
  have r2 := F.called_set.notType
  have r3 := F.called_set.canCreate
  have r4 := F.typeCall_set_1 (.ref l)
  obtain ⟨c, tl, r5⟩ := F.called_set.mro
  refine wpAny_call (codeAny_of_tree (wpAny_pure ⟨Code.quiet_builtin _ (by decide +kernel), codeAny_builtin F.entry_type_call ?_⟩))
  rw [Around.under_plain (weight_type_call_type
      "set" [.ref l] []) rfl]
  repeat (any_goals (first
      | assumption | wp_step))
  refine codeAny_mono (code_set_led1 (.ref l) (E := E) (Q₁ := fun v s1 => v = .ref s.heap.objs.size ∧ s1 = { s with heap := s.heap.push (nob w) }) ⟨rfl, rfl⟩) fun r s1 z => ?_
  match r, z with
  | .error e, z => exact z
  | .ok (.ret v), z =>
    obtain ⟨rfl, rfl⟩ := z
    have new : (s.heap.push (nob w)).get? s.heap.objs.size = some (nob w) := Heap.get?_push_size _ rfl
    have ty : Shared.TypeIs { s with heap := s.heap.push (nob w) } (.ref s.heap.objs.size) "set" := ⟨_, new, rfl⟩
    have i0 := F.called_set.init.lookup
    have i1 := F.called_set.init.bind (.ref s.heap.objs.size)
    repeat (any_goals (first
        | assumption | wp_step))
    refine codeAny_call_builtin F.called_set.init.plain F.entry_set_init (check_set_init_1 ty (fill_set (by simp [hh]) new (hl.push _) hi hb fun h' tk c R hc kp => wpAny_pure ?_))
    repeat (any_goals (first
        | assumption | wp_step))
    exact q _ _ _ R hc fun b o e => kp b o (Nat.ne_of_lt (Heap.lt_size e)) (Heap.get?_push_of_some _ e)
end
theorem setB_eq {sc : Scope} {x : Str} {a b : Expr} (h : setB sc x a = some b) : x = "sorted" ∧ ∃ p2 q, a = .Call (.Name "set" p2) [b] [] q ∧ gloB sc "set" = true := by
  unfold setB at h
  split at h
  · rename_i e
    refine ⟨e, ?_⟩
    split at h
    · split at h
      · rename_i e2
        cases h
        obtain ⟨rfl, e3⟩ := e2
        exact ⟨_, _, rfl, e3⟩
      · cases h
    · cases h
  · cases h
theorem ddI_in {ns : List Int} {y : Int} : y ∈ ddI ns ↔ y ∈ ns := by
  unfold ddI
  rw [ddI_mem]
  simp
theorem sset_eq {ns ms : List Int} (hs : ms.Pairwise (· < ·)) (hm : ∀ k, k ∈ ms ↔ k ∈ ns) : ms = sortI (ddI ns) := by
  have nd : ms.Nodup := hs.imp fun h e => by omega
  have n2 : (ddI ns).Nodup := ddI_nd ns [] List.nodup_nil
  have p : ms.Perm (ddI ns) := (List.perm_ext_iff_of_nodup nd n2).mpr fun a => by rw [hm, ddI_in]
  exact sorted_eq (p.trans (sortI_perm _).symm) (hs.imp fun h => Int.le_of_lt h) (sortI_sorted _)
def tSset (K : PySem.W.Frag) (ta : TE) : TE := fun σ H Q => ta σ H fun x H1 => ∃ (l : Addr) (ns : List Int), x = .ref l ∧ SqL K H1 l (ns.map V.int) ∧ ns.length < 64 ∧ ∀ p, H1 p = none → Q (.ref p) (upd H1 p (.lst ((sortI (ddI ns)).map V.int)))
section
variable {X : Cx} {W : WX} {a : Expr} {ma : TX} {ta : TE} {p p2 q pos : Pos}
theorem pe_sset (hc : X.calm = true) (hg : Gl X "sorted") (hm : X.mg "sorted" = none) (hg2 : Gl X "set") (hm2 : X.mg "set" = none) (ha : PE X a ta)
    (na : starEach [a] X.env = (false, eval a X.env) :: starEach [] X.env) : PE X (.Call (.Name "sorted" p) [.Call (.Name "set" p2) [a] [] q] [] pos) (tSset X.K ta) := by
  refine ⟨fun pins s σ H Q I h => Call_ (ld_blt I hg hm boot_sorted ?_)⟩
  refine callWith_builtin1 (args_cons (Call_ (ld_blt I hg2 hm2 boot_set ?_)) rfl) rfl rfl
  refine callWith_type1 (args_cons (thn (ha.run pins s σ H _ I h) fun v s1 ⟨x, H1, I1, r1, l, ns, e1, hq, hl, q1⟩ => args_nil ?_) na) na rfl
  subst e1
  cases r1
  obtain ⟨its, r, pl, hz⟩ :=
      I1.list hq
  have hlen : its.length = ns.length := by rw [← r.length, List.length_map]
  refine call_setL (I1.ok.hd hc) pl.isList (by simpa using ints_vals r) (by unfold scanBound; omega) fun h' tk c R cl hk => args_nil ?_
  have I2 : Inv X pins σ H1 { s1
      with heap := h', toks := tk } := I1.kept hk
  replace R : SetR X.w ({ s1 with heap := h', toks := tk } : Shared).heap s1.heap.objs.size (fun j => decide (j ∈ ns)) c := R
  generalize ({ s1 with heap := h', toks := tk } : Shared) = s2 at I2 R
  refine sorted_set R (I2.ok.hd hc) (by omega) fun s' p out c2 ms k g o hp hgt hi hs hm hl2 => ?_
  have free : H1 p = none := I2.hok.fresh hp
  have em : ms = sortI (ddI ns) := sset_eq hs fun z => by rw [hm z, decide_eq_true_iff]
  subst em
  have few : ((sortI (ddI ns)).map V.int).length ≤ sizeLine := by rw [List.length_map, hl2, sizeLine_eq]; omega
  have J : Inv X pins σ (upd H1 p (.lst ((sortI (ddI ns)).map V.int))) { s2 with heap := s'.heap, gens := s'.gens, drawn := s'.drawn, toks := s'.toks } :=
    I2.call (ch := []) (Un.laid k hp free) (I2.hok.laid k hp ⟨few, out.toList, c2, vals_of_ints hi, hgt⟩) (by rw [g]; exact I2.bare) (fun _ z => nomatch z)
  obtain ⟨hp', g', d', t', o'⟩ := s'
  obtain rfl : o' = s2.os := o
  exact ⟨.ref p, _, J, rfl, q1 p free⟩
theorem s_sset (hc : X.calm = true) (hg : Gl X "sorted") (hm : X.mg "sorted" = none) (hg2 : Gl X "set") (hm2 : X.mg "set" = none) (ha : PE X a (eOf X W ma))
    (na : starEach [a] X.env = (false, eval a X.env) :: starEach [] X.env) : PE X (.Call (.Name "sorted" p) [.Call (.Name "set" p2) [a] [] q] [] pos) (eOf X W (xB1 .sset ma)) :=
  PE_le (pe_sset hc hg hm hg2 hm2 ha na) fun σ H Q ⟨env, h, Q0, X0, n, q, hq⟩ => ⟨env, h, _, X0, n, q, fun x h1 v1 H1 ⟨r, e, q1⟩ t1 r1 p1 => by
    dsimp only [b1D] at e
    split at e
    · rename_i xs ex
      unfold ssetI at e
      obtain ⟨ns, en, e⟩ := Option.bind_eq_some_iff.mp e
      split at e
      · rename_i hl
        cases e
        obtain ⟨l, vs, rfl, hS, r2⟩ := opd_ls p1.opd r1 ex
        obtain ⟨rfl, _⟩ := r2.ints en
        exact ⟨l, ns, rfl, hS, hl, fun p hp => Aft.newL (aft_of hq t1 r1 q1) r1 hp (Reps.ofInts _)⟩
      · cases e
    · cases e⟩
end
end Py
namespace Py
open L2 PySem.Spec PySem PyProof.Rows
/-! ### shapes that no step minds -/
def plainE : Expr → Bool
  | .Starred .. => false
  | .Slice .. => false
  | .Set .. => false
  | .Call (.Name x _) _ _ _ => okN x
  | _ => true
theorem plain_star {e : Expr} (h : plainE e = true) (es : List Expr) (env : PySem.Env) : starEach (e :: es) env = (false, eval e env) :: starEach es env := by
  cases e <;> first | rfl | cases h
theorem plain_ix {e : Expr} (h : plainE e = true) : PlainIx e := by
  intro o i
  cases e <;> first | rfl | cases h
theorem plain_mark {e : Expr} (h : plainE e = true) (op : CmpOp) : behindInMarks op e = false := by
  cases e <;> first | rfl | cases h
theorem plain_fold {e : Expr} (h : plainE e = true) (env : PySem.Env) (x : Value) : foldedSetIterable e env x = pure x := by
  cases e <;> first | rfl | cases h
theorem plain_base {e : Expr} (h : plainE e = true) (m : Str) (env : PySem.Env) : attributeBase e m env (eval e env) = eval e env := by
  unfold attributeBase
  split
  · rename_i id np pos
    have h1 : okN id = true := h
    have h2 : (id != "super") = true := by
      unfold okN at h1
      simp only [Bool.and_eq_true]
          at h1
      exact h1.1.1.1
    simp only [h2, Bool.true_or, if_true]
  · rfl
theorem star_all {es : List Expr} (h : ∀ e ∈ es, plainE e = true) (env : PySem.Env) : ∀ x ∈ starEach es env, x.1 = false := by
  induction es with
  | nil => intro x hx; cases hx
  | cons e es ih =>
    rw [plain_star (h e List.mem_cons_self)]
    intro x hx
    cases hx with
    | head => rfl
    | tail _ hx => exact ih (fun e he => h e (List.mem_cons_of_mem _ he)) x hx
theorem back_any {es : List Expr} (h : ∀ e ∈ es, plainE e = true) (env : PySem.Env) (pos : Pos) : (backTo pos (starEach es env)).any (·.1) = false := by
  rw [List.any_eq_false]
  intro x hx
  obtain ⟨y, hy, rfl⟩ :=
      List.mem_map.mp hx
  simp [star_all h env y hy]
theorem back_few {es : List Expr} (h : ∀ e ∈ es, plainE e = true) (env : PySem.Env) (pos : Pos) (hl : es.length < 30) : ((backTo pos (starEach es env)).all (fun x => !x.1) && (backToKw pos (keywordEach [] env)).all (fun x => x.1.isSome)
      && decide (es.length + ([] : List Keyword).length + (if ([] : List Keyword).isEmpty then 0 else 1) < 30)) = true := by
  have h1 : (backTo pos (starEach es env)).all (fun x => !x.1) = true := by
    rw [List.all_eq_true]
    intro x hx
    obtain ⟨y, hy, rfl⟩ :=
        List.mem_map.mp hx
    simp [star_all h env y hy]
  rw [h1]
  simp [keywordEach, backToKw, hl]
/-! ### calls of defs -/
def spOf (K : PySem.W.Frag) (M : Str → Option Value) (cal : Cal) (f : Str) (np : Nat) : Sp := fun vs H Q E => vs.length = np ∧ ∃ h ds Q0 X0, RelH K M h H ∧ Reps K M H vs ds ∧ cal f ds h Q0 X0 ∧
  (∀ d h' v H', Q0 d h' → Tr h H h' H' → RelH K M h' H' → Rep K M H' v d → Q v H') ∧ ∀ c h' H' a, X0 c h' → Tr h H h' H' → RelH K M h' H' → M c = some (.ref a) → E (.ref a) none H'
/-- a def is as the abstract reading says, to n levels -/
structure FnA (pr : Program) (w : World) (K : PySem.W.Frag) (M : Str → Option Value) (base : Heap) (P : Prog) (n : Nat) (f : Str) (fa : Addr) (fd : FuncData) (ps : List Str) : Prop where
  ok : FnOk pr w K M base (L2.CX pr w) n fa fd ps (spOf K M (wC P n) f ps.length)
  np : ∀ c, P.fn f = some c → ps.length = c.np
  mg : M f = some (.ref fa)
  keep : PySem.W.keepIn K (.ref fa) = true
  binds : Binds K fd ps []
abbrev FnAt (X : Cx) : Prog → Nat → Str → Addr → FuncData → List Str → Prop := FnA X.prog X.w X.K X.mg X.base
/-- the sight of a body -/
structure Sit (P : Prog) (n : Nat) (X : Cx) (W : WX) : Prop where
  calm : X.calm = true
  nd : X.N.Nodup
  room : Room n X.A
  blt : ∀ x, bltB x = true → X.mg x = none
  glo : ∀ x d, P.gl x = some d → ∃ v u, X.mg x = some u ∧ RelV v u ∧ ∀ H, Rep X.K X.mg H v d
  fns : ∀ f, P.fn f ≠ none → ∃ fa fd ps, FnAt X P n f fa fd ps
  gfn : ∀ f, isFn P.gl f → P.fn f ≠ none
  tk : Takes X W
theorem wC_len {P : Prog} : ∀ {n : Nat} {f : Str} {ds : List D} {h : AH} {Q : D → AH → Prop} {X : Xc}, wC P n f ds h Q X → ∃ c, P.fn f = some c ∧ ds.length = c.np
  | n + 1, f, ds, h, Q, X, ⟨c, e, l, _⟩ => ⟨c, e, l⟩
section
variable {X : Cx} {W : WX} {P : Prog} {n : Nat} {f x : Str} {es : List Expr} {ms : TEs} {p pos : Pos}
theorem pe_callS0 {CX : CXT} {k : Nat} {fa : Addr} {fd : FuncData} {ps : List Str} {sp : Sp} {E : L2.St → XK} (F : FnOk X.prog X.w X.K X.mg X.base CX k fa fd ps sp) (hr : Room k X.A) (hg : Gl X x) (hm : X.mg x = some (.ref fa)) (hk : PySem.W.keepIn X.K (.ref fa) = true)
    (hb : Binds X.K fd ps []) (hx : ∀ σ, PassesAt CX X σ (E σ)) (hdb : (x == ("__debug__" : Str)) = false) : PE X (.Call (.Name x p) [] [] pos) (tCallS sp E tNil) :=
  ⟨fun pins s σ H Q I h => wpAny_Call_Name_kw (ld_glob I hg hm (PySem.W.callWith_K0 I.kIn hk (run_fnS (us := []) F hr hb (hx σ) I .nil h)) hdb)⟩
theorem Sit.sp (S : Sit P n X W) {σ : L2.St} {H H1 : Hp} {h h1 : AH} {env : Env} {X0 : Xc} {Q0 : Rv → AH → Prop} {Q : VK} {ds : List D} {vs : List V} {fa : Addr} {fd : FuncData} {ps : List Str} (F : FnAt X P n f fa fd ps)
    (nw : Now X.K X.mg W σ env h H X0) (t1 : Tr h H h1 H1) (r1 : RelH X.K X.mg h1 H1) (p1 : Reps X.K X.mg H1 vs ds) (q : wC P n f ds h1 (fun d h2 => Q0 (.v d) h2) X0)
    (hq : ∀ r h' v H', Q0 r h' → Tr h H h' H' → RelH X.K X.mg h' H' → RepR X.K X.mg H h' H' v r → Q v H') : spOf X.K X.mg (wC P n) f ps.length vs H1 Q (WE W σ) := by
  obtain ⟨c, e, l⟩ := wC_len q
  exact ⟨by rw [p1.length, l, F.np c e], h1, ds, _, X0, r1, p1, q, fun d h2 v H2 q2 t2 r2 p2 => hq _ _ _ _ q2 (t1.trans t2) r2 p2, fun c h2 H2 a x0 t2 r2 e => nw.xo c h2 H2 a x0 (t1.trans t2) r2 e⟩
theorem s_call (S : Sit P n X W) (hf : P.fn f ≠ none) (hg : Gl X f) (hdb : (f == ("__debug__" : Str)) = false) (hp : ∀ e ∈ es, plainE e = true) (hs : PA X es (aOf X W ms)) (h0 : es = [] → ms = esNil) :
    PE X (.Call (.Name f p) es [] pos) (eOf X W (xCall (wC P n) f ms)) := by
  obtain ⟨fa, fd, ps, F⟩ := S.fns f hf
  cases es with
  | nil =>
    rw [h0 rfl]
    exact PE_le (pe_callS0 (E := WE W) F.ok S.room hg F.mg F.keep F.binds (passAt S.tk) hdb) fun σ H Q ⟨env, h, Q0, X0, nw, q, hq⟩ => S.sp F nw .refl nw.rel .nil q hq
  | cons e es =>
    exact PE_le (pe_callS (E := WE W) F.ok S.room hg F.mg F.keep F.binds (passAt S.tk) hs hdb (plain_star (hp e List.mem_cons_self) es X.env) (back_any (fun e he => hp e (List.mem_cons_of_mem _ he)) _ _))
      fun σ H Q ⟨env, h, Q0, X0, nw, q, hq⟩ => ⟨env, h, _, X0, nw, q, fun ds h1 vs H1 q1 t1 r1 p1 => S.sp F nw t1 r1 p1 q1 hq⟩
/-- a def that a slot holds -/
theorem s_callv {i : Nat} {e : Expr} (S : Sit P n X W) (hN : X.N[i]? = some x) (hv : Vis X.env.scope x) (hdb : (x == ("__debug__" : Str)) = false) (hcd : (x == ("__classdict__" : Str)) = false) (hp : ∀ a ∈ e :: es, plainE a = true) (hs : PA X (e :: es) (aOf X W ms)) :
    PE X (.Call (.Name x p) (e :: es) [] pos) (eOf X W (xCallv (wC P n) P.gl i ms)) := by
  refine ⟨fun pins s σ H Q I ⟨env, h, Q0, X0, nw, ⟨f, ef, hG, q⟩, hq⟩ => ?_⟩
  obtain ⟨d, e1, e2⟩ := Option.bind_eq_some_iff.mp ef
  obtain ⟨v, e3, rp⟩ := nw.rs.lk e1
  have e4 : d = .fn f := by
    unfold asFn at e2
    split at e2
    · cases e2; rfl
    · cases e2
  subst e4
  cases rp with
  | @fn a _ hm =>
  refine wpAny_Call_Name_kw (thn ((pe_var (pos := p) hN hv hdb hcd).run pins s σ H (fun v H1 => v = .ref a ∧ H1 = H) I ⟨.ref a, e3, rfl, rfl⟩) fun u s1 ⟨v, H1, I1, r1, q1⟩ => ?_)
  obtain ⟨rfl, rfl⟩ := q1
  cases r1
  · obtain ⟨fa, fd, ps, F⟩ := S.fns f (S.gfn f hG)
    have ea : a = fa := by
      have := hm.symm.trans F.mg
      injection this with this
      injection this
    subst ea
    exact PySem.W.callWith_K (h₀ := X.base) I.ok.mod.kin F.keep (thn (hs.run pos pins s1 σ _ (fun vs H2 => spOf X.K X.mg (wC P n) f ps.length vs H2 Q (WE W σ)) I1 ⟨env, h, _, X0, nw, q, fun ds h1 vs H1 q1 t1 r1 p1 => S.sp F nw t1 r1 p1 q1 hq⟩)
      fun us s2 ⟨vs, H2, I2, r, q⟩ => ⟨I2.kIn, run_fnS F.ok S.room F.binds (passAt S.tk σ) I2 r q⟩) (plain_star (hp e List.mem_cons_self) es X.env) (back_any (fun e he => hp e (List.mem_cons_of_mem _ he)) _ _)
end
end Py
namespace Py
open L2 PySem.Spec PySem PyProof.Rows
/-! ### built-ins -/
section
variable {X : Cx} {W : WX} {P : Prog} {n : Nat} {x : Str} {a b c : Expr} {ma mb mc : TX} {es : List Expr} {ms : TEs} {p pos : Pos}
theorem bltG (S : Sit P n X W) (h : bltB x = true) : X.mg x = none := S.blt x h
theorem s_b1 (S : Sit P n X W) {k : Bi} (hk : b1N x = some k) (hg : Gl X x) (hp : plainE a = true) (ha : PE X a (eOf X W ma)) : PE X (.Call (.Name x p) [a] [] pos) (eOf X W (xB1 k ma)) := by
  have hst := plain_star hp [] X.env
  unfold b1N at hk
  by_cases e : x = "len"
  · subst e
    cases (show some _ = some k from hk)
    have hm := S.blt "len" (by decide +kernel)
    exact s_call1 (id := .builtin "len") (fun _ _ _ z => z) (fun t h => pe_callB len_ok hg hm (by decide +kernel) h (by decide) (by decide) hst rfl) ha hst
  rw [if_neg e] at hk
  by_cases e : x = "int"
  · subst e
    cases (show some _ = some k from hk)
    have hm := S.blt "int" (by decide +kernel)
    exact s_call1 (id := .builtin "len") (fun _ _ _ z => z) (fun t h => pe_callTy int_ok1 hg hm (by decide +kernel) h (by decide) (by decide) hst rfl) ha hst
  rw [if_neg e] at hk
  by_cases e : x = "bool"
  · subst e
    cases (show some _ = some k from hk)
    have hm := S.blt "bool" (by decide +kernel)
    exact s_call1 (id := .builtin "len") (fun _ _ _ z => z) (fun t h => pe_callTy bool_ok1 hg hm (by decide +kernel) h (by decide) (by decide) hst rfl) ha hst
  rw [if_neg e] at hk
  by_cases e : x = "str"
  · subst e
    cases (show some _ = some k from hk)
    have hm := S.blt "str" (by decide +kernel)
    exact s_call1 (id := .builtin "len") (fun _ _ _ z => z) (fun t h => pe_callTy str_ok1 hg hm (by decide +kernel) h (by decide) (by decide) hst rfl) ha hst
  rw [if_neg e] at hk
  by_cases e : x = "tuple"
  · subst e
    cases (show some _ = some k from hk)
    have hm := S.blt "tuple" (by decide +kernel)
    exact s_call1 (id := .builtin "len") (fun _ _ _ z => z) (fun t h => pe_callTy tup_ok1 hg hm (by decide +kernel) h (by decide) (by decide) hst rfl) ha hst
  rw [if_neg e] at hk
  by_cases e : x = "list"
  · subst e
    cases (show some _ = some k from hk)
    have hm := S.blt "list" (by decide +kernel)
    exact s_call1 (id := .builtin "len") (fun _ _ _ z => z) (fun t h => pe_callTy lst_ok1 hg hm (by decide +kernel) h (by decide) (by decide) hst rfl) ha hst
  rw [if_neg e] at hk
  by_cases e : x = "abs"
  · subst e
    cases (show some _ = some k from hk)
    have hm := S.blt "abs" (by decide +kernel)
    exact s_call1 (id := .builtin "len") (fun _ _ _ z => z) (fun t h => pe_callB abs_ok1 hg hm (by decide +kernel) h (by decide) (by decide) hst rfl) ha hst
  rw [if_neg e] at hk
  by_cases e : x = "any"
  · subst e
    cases (show some _ = some k from hk)
    have hm := S.blt "any" (by decide +kernel)
    exact s_call1 (id := .builtin "len") (fun _ _ _ z => z) (fun t h => pe_callB (any_ok1 S.calm) hg hm (by decide +kernel) h (by decide) (by decide) hst rfl) ha hst
  rw [if_neg e] at hk
  by_cases e : x = "all"
  · subst e
    cases (show some _ = some k from hk)
    have hm := S.blt "all" (by decide +kernel)
    exact s_call1 (id := .builtin "len") (fun _ _ _ z => z) (fun t h => pe_callB (all_ok1 S.calm) hg hm (by decide +kernel) h (by decide) (by decide) hst rfl) ha hst
  rw [if_neg e] at hk
  by_cases e : x = "sum"
  · subst e
    cases (show some _ = some k from hk)
    have hm := S.blt "sum" (by decide +kernel)
    exact s_call1 (id := .builtin "len") (fun _ _ _ z => z) (fun t h => pe_callB (sum_ok1 S.calm) hg hm (by decide +kernel) h (by decide) (by decide) hst rfl) ha hst
  rw [if_neg e] at hk
  by_cases e : x = "min"
  · subst e
    cases (show some _ = some k from hk)
    have hm := S.blt "min" (by decide +kernel)
    exact s_call1 (id := .builtin "len") (fun _ _ _ z => z) (fun t h => pe_callB (min_ok1 S.calm) hg hm (by decide +kernel) h (by decide) (by decide) hst rfl) ha hst
  rw [if_neg e] at hk
  by_cases e : x = "max"
  · subst e
    cases (show some _ = some k from hk)
    have hm := S.blt "max" (by decide +kernel)
    exact s_call1 (id := .builtin "len") (fun _ _ _ z => z) (fun t h => pe_callB (max_ok1 S.calm) hg hm (by decide +kernel) h (by decide) (by decide) hst rfl) ha hst
  rw [if_neg e] at hk
  by_cases e : x = "sorted"
  · subst e
    cases (show some _ = some k from hk)
    have hm := S.blt "sorted" (by decide +kernel)
    exact s_call1 (id := .builtin "len") (fun _ _ _ z => z) (fun t h => pe_callB sorted_ok1 hg hm (by decide +kernel) h (by decide) (by decide) hst rfl) ha hst
  rw [if_neg e] at hk
  cases hk
theorem s_b2 (S : Sit P n X W) {k : B2} (hk : b2N x = some k) (hg : Gl X x) (hp : plainE a = true) (hp' : plainE b = true) (ha : PE X a (eOf X W ma)) (hb : PE X b (eOf X W mb)) : PE X (.Call (.Name x p) [a, b] [] pos) (eOf X W (xB2 k ma mb)) := by
  have hst := plain_star hp [b] X.env
  have hst' := plain_star hp' [] X.env
  have hpl : (backTo pos (starEach [b] X.env)).any (·.1) = false := back_any (by simpa using hp') _ _
  have key : ∀ {f : Expr} {r : List V → Hp → VK → Prop}, (∀ xs H Q, (∃ x y d e r, xs = [x, y] ∧ Rep X.K X.mg H x d ∧ Rep X.K X.mg H y e ∧ b2D k d e = some r ∧ ∀ v, Rep X.K X.mg H v r → Q v H) → r xs H Q) → (∀ t : L2.TA, PA X [a, b] t → PE X f (tCB r t)) → PE X f (eOf X W (xB2 k ma mb)) := by
    intro f r hr g
    refine PE_le (g _ (pa_cons ha (pa_cons hb pa_nil hst') hst)) fun σ H Q ⟨env, h, Q0, X0, nw, q, hq⟩ => ⟨env, h, _, X0, nw, q, fun x h1 v1 H1 q1 t1 r1 p1 => ?_⟩
    obtain ⟨d, h1', q1, t1', r1', p1'⟩ := rv_take q1 t1 r1 p1
    refine ⟨env, h1', _, X0, nw.go t1' r1', q1, fun y h2 v2 H2 q2 t2 r2 p2 => ?_⟩
    obtain ⟨e, h2', ⟨r, er, q2⟩, t2', r2', p2'⟩ := rv_take q2 t2 r2 p2
    exact hr _ _ _ ⟨v1, v2, d, e, r, rfl, p1'.mono (t2'.mn r1'), p2', er, fun v pv => hq _ _ _ _ q2 (t1'.trans t2') r2' pv⟩
  unfold b2N at hk
  split at hk
  · rename_i e; subst e; cases hk
    exact key (fun _ _ _ z => z) fun t h => pe_callB (b2_ok S.calm .min) hg (S.blt _ (by decide +kernel)) (by decide +kernel) h (by decide) (by decide) hst hpl
  split at hk
  · rename_i e; subst e; cases hk
    exact key (fun _ _ _ z => z) fun t h => pe_callB (b2_ok S.calm .max) hg (S.blt _ (by decide +kernel)) (by decide +kernel) h (by decide) (by decide) hst hpl
  · cases hk
theorem s_isa (S : Sit P n X W) {t : Str} {ty : Ty} {p2 : Pos} (ht : tyN t = some ty) (hg : Gl X "isinstance") (hgt : Gl X t) (hp : plainE a = true) (ha : PE X a (eOf X W ma)) :
    PE X (.Call (.Name "isinstance" p) [a, .Name t p2] [] pos) (eOf X W (xB1 (.isa ty) ma)) := by
  have hst := plain_star hp [.Name t p2] X.env
  have hb : PE X (.Name t p2) (tC (.ty (tyOf ty))) := by
    unfold tyN at ht
    repeat' split at ht
    all_goals first
      | (cases ht; done)
      | (rename_i e; subst e; cases ht; exact pe_bltn hgt (S.blt _ (by decide +kernel)) (by decide +kernel) rfl (by decide) (by decide))
  refine PE_le (pe_callB (isa_ok ty) hg (S.blt _ (by decide +kernel)) (by decide +kernel) (pa_cons ha (pa_cons hb pa_nil rfl) hst) (by decide) (by decide) hst rfl) fun σ H Q ⟨env, h, Q0, X0, nw, q, hq⟩ =>
    ⟨env, h, _, X0, nw, q, fun x h1 v1 H1 ⟨r, e, q1⟩ t1 r1 p1 => ?_⟩
  obtain ⟨k, ek, e⟩ := Option.map_eq_some_iff.mp e
  subst e
  exact ⟨v1, h1, x, k, rfl, r1, p1.opd, ek, hq _ _ _ _ q1 t1 r1 (.bl k)⟩
/-! ### a range made a tuple or a list -/
theorem small_of {i : Int} (h : small62 i = true) : -(2 ^ 62) ≤ i ∧ i < 2 ^ 62 := by
  unfold small62 at h
  simp only [Bool.and_eq_true,
      decide_eq_true_eq] at h
  omega
theorem reps_rg {K : PySem.W.Frag} {M : Str → Option Value} {H : Hp} (i j : Int) : Reps K M H (rgV i j) (rngL i (j - i).toNat) := by
  unfold rgV rngL
  generalize (j - i).toNat = m
  have : ∀ l : List Nat, Reps K M H (l.map fun k => V.int (i + (k : Nat))) (l.map fun k => D.int (i + (k : Nat))) := fun l => by
    induction l with
    | nil => exact .nil
    | cons k l ih => exact .cons (.int _) ih
  exact this _
theorem s_rg (S : Sit P n X W) (k : Bool) {te : L2.St → Hp → (Int → Int → Hp → Prop) → Prop} {mi : TI} (hx : x = if k = true then "tuple" else "list") (hg : Gl X x) (hr : PRg X a te) (hst : starEach [a] X.env = (false, eval a X.env) :: starEach [] X.env)
    (hi : ∀ σ H Q env h Q0 X0, Now X.K X.mg W σ env h H X0 → mi env h Q0 X0 → (∀ i j h' H', Q0 (.fix (rngL i (j - i).toNat)) h' → small62 i = true → small62 j = true → Tr h H h' H' → RelH X.K X.mg h' H' → Q i j H') → te σ H Q) :
    PE X (.Call (.Name x p) [a] [] pos) (eOf X W (xRng k mi)) := by
  cases k with
  | true =>
    subst hx
    refine PE_le (pe_tupRgX S.calm hg (S.blt _ (by decide +kernel)) hr hst) fun σ H Q ⟨env, h, Q0, X0, nw, q, hq⟩ => hi _ _ _ env h _ X0 nw q fun i j h1 H1 ⟨z, q1⟩ si sj t1 r1 => ?_
    obtain ⟨a1, a2⟩ := small_of si
    obtain ⟨a3, a4⟩ := small_of sj
    have z : (rngL i (j - i).toNat).length ≤ 16777216 := z
    unfold rngL at z
    rw [List.length_map, List.length_range] at z
    exact ⟨⟨a1, a2, a3, a4, by omega⟩, Aft.newT (aft_of hq t1 r1 q1) r1 (reps_rg i j)⟩
  | false =>
    subst hx
    refine PE_le (pe_listRg S.calm hg (S.blt _ (by decide +kernel)) hr hst) fun σ H Q ⟨env, h, Q0, X0, nw, q, hq⟩ => hi _ _ _ env h _ X0 nw q fun i j h1 H1 ⟨z, q1⟩ si sj t1 r1 => ?_
    obtain ⟨a1, a2⟩ := small_of si
    obtain ⟨a3, a4⟩ := small_of sj
    have z : (rngL i (j - i).toNat).length ≤ 16777216 := z
    unfold rngL at z
    rw [List.length_map, List.length_range] at z
    exact ⟨⟨a1, a2, a3, a4, by omega⟩, fun p hp => Aft.newL (aft_of hq t1 r1 q1) r1 hp (reps_rg i j)⟩
theorem asInt_r {K : PySem.W.Frag} {M : Str → Option Value} {H0 H : Hp} {h : AH} {v : V} {r : Rv} {i : Int} (e : asInt r = some i) (p : RepR K M H0 h H v r) : v = .int i := by
  unfold asInt at e
  split at e
  · cases e
    cases p
    rfl
  · cases e
theorem s_rng1 (S : Sit P n X W) (k : Bool) {p2 pos2 : Pos} (hx : x = if k = true then "tuple" else "list") (hg : Gl X x) (hgr : Gl X "range") (hp : plainE a = true) (ha : PE X a (eOf X W ma)) : PE X (.Call (.Name x p) [.Call (.Name "range" p2) [a] [] pos2] [] pos) (eOf X W (xRng k (iR1 ma))) := by
  refine s_rg S k hx hg (prg_1 hgr (S.blt _ (by decide +kernel)) ha (plain_star hp [] _)) rfl fun σ H Q env h Q0 X0 nw q hq => ⟨env, h, _, X0, nw, q, fun r h1 v1 H1 ⟨j, e, s1, q1⟩ t1 r1 p1 => ?_⟩
  exact ⟨j, asInt_r e p1, hq 0 j h1 H1 (by rw [Int.sub_zero]; exact q1) (by decide) s1 t1 r1⟩
theorem s_rng2 (S : Sit P n X W) (k : Bool) {p2 pos2 : Pos} (hx : x = if k = true then "tuple" else "list") (hg : Gl X x) (hgr : Gl X "range") (hp : plainE a = true) (hp' : plainE b = true) (ha : PE X a (eOf X W ma)) (hb : PE X b (eOf X W mb)) :
    PE X (.Call (.Name x p) [.Call (.Name "range" p2) [a, b] [] pos2] [] pos) (eOf X W (xRng k (iR2 ma mb))) := by
  refine s_rg S k hx hg (prg_2 hgr (S.blt _ (by decide +kernel)) ha hb (plain_star hp [b] _) (plain_star hp' [] _) (back_any (by simpa using hp') _ _)) rfl fun σ H Q env h Q0 X0 nw q hq => ⟨env, h, _, X0, nw, q, fun r h1 v1 H1 ⟨i, ei, q1⟩ t1 r1 p1 =>
    ⟨env, h1, _, X0, nw.go t1 r1, q1, fun r' h2 v2 H2 ⟨j, ej, s2, q2⟩ t2 r2 p2 => ?_⟩⟩
  rw [Bool.and_eq_true] at s2
  exact ⟨i, j, asInt_r ei p1, asInt_r ej p2, hq i j h2 H2 q2 s2.1 s2.2 (t1.trans t2) r2⟩
/-! ### methods -/
theorem aft_more {K : PySem.W.Frag} {M : Str → Option Value} {Q0 : Rv → AH → Prop} {Q : VK} {h h2 h3 : AH} {H H2 : Hp} {r : Rv} (hq : ∀ r h' v H', Q0 r h' → Tr h H h' H' → RelH K M h' H' → RepR K M H h' H' v r → Q v H') (x : Tr h H h2 H2) (q : Q0 r h3) : Aft K M h2 H2 h3 Q r :=
  fun v H3 t r3 rp => hq r h3 v H3 q (x.trans t) r3 (rp.back x.grow)
theorem lt_some {x : Rv} {h : AH} (e : (ltV x h).isSome = true) : ∃ xs, ltV x h = some xs := Option.isSome_iff_exists.mp e
theorem s_mt (hu : X.A.units + 65 < cLine) {o : Expr} {mo : TX} {name : Str} {apos cpos : Pos} {m : Mt} (hm : mtN name es.length = some m) (hl : (apos.endLine == cpos.line) = true) (hpo : plainE o = true) (hp : ∀ e ∈ es, plainE e = true)
    (ho : PE X o (eOf X W mo)) (hs : PA X es (aOf X W ms)) (h0 : es = [] → ms = esNil) : PE X (.Call (.Attribute o name apos) es [] cpos) (eOf X W (xMt m mo ms)) := by
  have hb := plain_base hpo name X.env
  have ml : es.length < 30 := by
    unfold mtN at hm
    repeat' split at hm
    all_goals first
      | (cases hm; done)
      | (rename_i e; obtain ⟨_, e⟩ := e; omega)
  -- what the name is
  have key : ∀ {h1 : AH} {H1 : Hp} {v1 : V} {r : Rv}, mtChk m r h1 = true → RelH X.K X.mg h1 H1 → Opd X.K X.mg h1 H1 v1 r → ∃ T id b, IsM X T name id (rMt X.K X.mg m b) ∧ TyC X T v1 H1 ∧ b r := by
    intro h1 H1 v1 r hc rel op
    have lst : ∀ {id : String}, (ltV r h1).isSome = true → Slot "list" name id → typeOf (.builtin id) = pure (.type "method_descriptor") → MtR X id (rMt X.K X.mg m anyR) →
        ∃ T id b, IsM X T name id (rMt X.K X.mg m b) ∧ TyC X T v1 H1 ∧ b r := fun {id} e s t g => by
      obtain ⟨xs, e⟩ := lt_some e
      obtain ⟨a, vs, rfl, hv, _⟩ := opd_lt op rel e
      exact ⟨"list", id, anyR, ⟨PySem.F.plainAttrs_list, s, t, g⟩, tyC_list (SqL.of hv), trivial⟩
    unfold mtN at hm
    split at hm
    · rename_i e; obtain ⟨rfl, _⟩ := e; cases hm
      exact lst hc PySem.F.slot_list_append PySem.F.type_list_append append_ok
    split at hm
    · rename_i e; obtain ⟨rfl, _⟩ := e; cases hm
      exact lst hc PySem.F.slot_list_pop PySem.F.type_list_pop pop_ok
    split at hm
    · rename_i e; obtain ⟨rfl, _⟩ := e; cases hm
      exact lst hc PySem.F.slot_list_pop PySem.F.type_list_pop popi_ok
    split at hm
    · rename_i e; obtain ⟨rfl, _⟩ := e; cases hm
      obtain ⟨xs, hc⟩ := Option.isSome_iff_exists.mp (show (sqV r h1).isSome = true from hc)
      by_cases ht : isTupR r
      · obtain ⟨ys, rfl⟩ := ht
        cases op with
        | tup sd _ => exact ⟨"tuple", _, isTupR, ⟨PySem.F.plainAttrs_tuple, PySem.F.slot_tuple_index, PySem.F.type_tuple_index, index_tup_ok hu⟩, tyC_tup sd, _, rfl⟩
      · have nt : notTupR r := fun ys e => ht ⟨ys, e⟩
        have hc' : lsV r h1 = some xs := by
          unfold sqV at hc
          split at hc
          · exact absurd rfl (nt _)
          · exact hc
        obtain ⟨a, vs, rfl, sl, _⟩ := opd_ls op rel hc'
        exact ⟨"list", _, notTupR, ⟨PySem.F.plainAttrs_list, PySem.F.slot_list_index, PySem.F.type_list_index, index_list_ok hu⟩, tyC_list sl, nt⟩
    split at hm
    · rename_i e; obtain ⟨rfl, _⟩ := e; cases hm
      exact lst hc PySem.F.slot_list_reverse PySem.F.type_list_reverse reverse_ok
    split at hm
    · rename_i e; obtain ⟨rfl, _⟩ := e; cases hm
      exact lst hc PySem.F.slot_list_extend PySem.F.type_list_extend extend_ok
    split at hm
    · rename_i e; obtain ⟨rfl, _⟩ := e; cases hm
      exact lst hc PySem.F.slot_list_insert PySem.F.type_list_insert insert_ok
    · cases hm
  cases es with
  | nil =>
    rw [h0 rfl]
    refine PE_le (pe_mtG0 ho hb hl) fun σ H Q ⟨env, h, Q0, X0, nw, q, hq⟩ => ⟨env, h, _, X0, nw, q, fun r h1 v1 H1 ⟨hc, q1⟩ t1 r1 p1 => ?_⟩
    obtain ⟨T, id, b, im, ty, br⟩ := key hc r1 p1.opd
    obtain ⟨p, ep, q1⟩ := q1
    exact ⟨T, id, _, im, ty, h1, r, [], p, r1, p1.opd, br, .nil, ep, aft_more hq t1 q1⟩
  | cons e es =>
    refine PE_le (pe_mtG ho hs hb hl (back_few hp _ _ ml) (plain_star (hp e List.mem_cons_self) es X.env) (back_any (fun e he => hp e (List.mem_cons_of_mem _ he)) _ _)) fun σ H Q ⟨env, h, Q0, X0, nw, q, hq⟩ =>
      ⟨env, h, _, X0, nw, q, fun r h1 v1 H1 ⟨hc, q1⟩ t1 r1 p1 => ?_⟩
    obtain ⟨T, id, b, im, ty, br⟩ := key hc r1 p1.opd
    refine ⟨T, id, _, im, ty, env, h1, _, X0, nw.go t1 r1, q1, fun ds h2 vs H2 ⟨p, ep, q2⟩ t2 r2 p2 => ?_⟩
    exact ⟨h2, r, ds, p, r2, opd2 p1 t2 r1, br, p2, ep, aft_more hq (t1.trans t2) q2⟩
end
end Py
namespace Py
open L2 PySem.Spec PySem PyProof.Rows
/-! ### targets -/
theorem slot_at {N : List Str} {x : Str} {i : Nat} (h : slot N x = some i) : N[i]? = some x := by
  unfold slot at h
  rw [List.findIdx?_eq_some_iff_getElem] at h
  obtain ⟨hl, he, _⟩ := h
  rw [List.getElem?_eq_getElem hl]
  congr
  exact eq_of_beq he
section
variable {X : Cx} {p : Nat → Bool} {es : List Expr}
theorem each_len (es : List Expr) (env : PySem.Env) : (assignEach es env).length = es.length := by
  induction es with
  | nil => rfl
  | cons e es ih =>
    cases e <;> (show (_ :: assignEach es env).length = _; rw [List.length_cons, List.length_cons, ih])
theorem g_or {e : Expr} {t u : L2.TG} (h : PG X e t) (h' : PG X e u) : PG X e (fun v σ H Q => t v σ H Q ∨ u v σ H Q) :=
  ⟨fun pins s σ H v w Q I r q => q.elim (h.run pins s σ H v w Q I r) (h'.run pins s σ H v w Q I r)⟩
theorem ag_refl {σ : L2.St} : Ag p σ σ := ⟨rfl, fun _ _ => rfl⟩
theorem Ag.trans {σ τ ρ : L2.St} (a : Ag p σ τ) (b : Ag p τ ρ) : Ag p σ ρ := ⟨b.1.trans a.1, fun i h => (b.2 i h).trans (a.2 i h)⟩
theorem s_nm {x : Str} {i : Nat} {pos : Pos} (nd : X.N.Nodup) (hi : X.N[i]? = some x) (hx : Loc X.env.scope x) (hf : X.fn x = true ∨ X.env.scope.names.lookup x = some .local) (hp : p i = true) : PG X (.Name x pos) (gOf X p (gNm i)) :=
  PG_le (pg_name nd hi hx hf) fun v σ H Q ⟨d, env, h, Q0, rel, rs, rp, q, hq⟩ => hq _ _ _ _ q .refl rel (rs.set rp i) ⟨List.length_set, fun j hj => List.getElem?_set_ne (fun e => by rw [← e, hp] at hj; cases hj)⟩
theorem s_tp {k : Nat} {pos : Pos} {m : TGs} (hc : X.calm = true) (hl : ∀ ds env h q, m ds env h q → ds.length = es.length) (h : PGs X es (tgsOf X.K X.mg p m)) (hst : (assignEach es X.env).findIdx? (·.1) = none) : PG X (.Tuple es k pos) (gOf X p (gTp m)) :=
  PG_le (g_or (pg_tup (n := es.length) hc h (each_len _ _) hst) (pg_lst (n := es.length) hc h (each_len _ _) hst)) fun v σ H Q ⟨d, env, h, Q0, rel, rs, rp, ⟨xs, e, q⟩, hq⟩ => by
    obtain ⟨a, vs, rfl, hs, hr⟩ := opd_sq (r := .v d) (v := v) rp rel e
    have hl' : vs.length = es.length := by rw [hr.length]; exact hl _ _ _ _ q
    rcases hs with hs | hs
    · exact .inr ⟨a, vs, rfl, hs, hl', xs, env, h, Q0, rel, rs, hr, q, hq⟩
    · exact .inl ⟨a, vs, rfl, hs.sq, hl', xs, env, h, Q0, rel, rs, hr, q, hq⟩
theorem s_tnil : PGs X [] (tgsOf X.K X.mg p gNil) := ⟨fun pins s σ H vs us Q I r ⟨ds, env, h, Q0, rel, rs, rp, ⟨e, q⟩, hq⟩ => pgs_nil.run pins s σ H vs us Q I r (by
  subst e
  cases rp
  exact ⟨rfl, hq _ _ _ _ q .refl rel rs ag_refl⟩)⟩
theorem s_tcons {e : Expr} {m : TG} {ms : TGs} (h1 : PG X e (gOf X p m)) (h2 : PGs X es (tgsOf X.K X.mg p ms)) (hs : (assignEach (e :: es) X.env).map (·.2) = assign e X.env :: (assignEach es X.env).map (·.2)) : PGs X (e :: es) (tgsOf X.K X.mg p (gCons m ms)) :=
  ⟨fun pins s σ H vs us Q I r ⟨ds, env, h, Q0, rel, rs, rp, q, hq⟩ => (pgs_cons h1 h2 hs).run pins s σ H vs us Q I r (by
    cases ds with
    | nil => exact q.elim
    | cons d ds =>
      cases rp with
      | @cons v vs _ _ rv rr =>
        exact ⟨v, vs, rfl, d, env, h, _, rel, rs, rv, q, fun env1 h1 σ1 H1 q1 t1 r1 s1 a1 =>
          ⟨ds, env1, h1, _, r1, s1, rr.mono (t1.mn rel), q1, fun env2 h2 σ2 H2 q2 t2 r2 s2 a2 => hq _ _ _ _ q2 (t1.trans t2) r2 s2 (a1.trans a2)⟩⟩)⟩
end
mutual
theorem tg_ex : ∀ (t : Tg) (d : D) (env : Env) (h : AH) (k : Env → AH → Prop), wTg t d env h k → ∃ e1 h1, k e1 h1
  | .nm i, d, env, h, k, q => ⟨_, _, q⟩
  | .tp ts, d, env, h, k, ⟨xs, _, q⟩ => tgs_ex ts xs env h k q
theorem tgs_ex : ∀ (ts : Tgs) (ds : List D) (env : Env) (h : AH) (k : Env → AH → Prop), wTgs ts ds env h k → ∃ e1 h1, k e1 h1
  | .nil, ds, env, h, k, q => ⟨_, _, q.2⟩
  | .cons t ts, [], env, h, k, q => q.elim
  | .cons t ts, d :: ds, env, h, k, q => let ⟨e1, h1, q1⟩ := tg_ex t d env h _ q; tgs_ex ts ds e1 h1 k q1
end
theorem tg_len : ∀ (es : List Expr) (ts : Tgs) (N : List Str) (ok : Str → Bool) (n : Nat) (ds : List D) (env : Env) (h : AH) (k : Env → AH → Prop), trT.go N ok n es = some ts → wTgs ts ds env h k → ds.length = es.length
  | [], ts, N, ok, n, ds, env, h, k, e, q => by
    unfold trT.go at e
    cases e
    rw [q.1]
    rfl
  | a :: es, ts, N, ok, n, ds, env, h, k, e, q => by
    unfold trT.go at e
    simp only [bind, Option.bind_eq_some_iff, pure, Option.some.injEq] at e
    obtain ⟨t', e1, ts', e2, rfl⟩ := e
    cases ds with
    | nil => exact q.elim
    | cons d ds =>
      obtain ⟨e1', h1, q1⟩ := tg_ex t' d env h _ q
      rw [List.length_cons, List.length_cons, tg_len es ts' N ok n ds e1' h1 k e2 q1]
/-- a target that is read is plain -/
theorem trT_star {N : List Str} {ok : Str → Bool} {n : Nat} {e : Expr} {t : Tg} (h : trT N ok n e = some t) (es : List Expr) (env : PySem.Env) : assignEach (e :: es) env = (false, assign e env) :: assignEach es env := by
  cases n with
  | zero => unfold trT at h; cases h
  | succ n =>
    unfold trT at h
    cases e <;> first | rfl | cases h
theorem s_tgt {X : Cx} {p : Nat → Bool} {N : List Str} {ok : Str → Bool} (hc : X.calm = true) (nd : X.N.Nodup) (hN : X.N = N) (hok : ∀ x, ok x = true → Loc X.env.scope x ∧ (X.fn x = true ∨ X.env.scope.names.lookup x = some .local)) :
    ∀ (n : Nat) (e : Expr) (t : Tg), trT N ok n e = some t → tgIn p t = true → PG X e (gOf X p (wTg t))
  | 0, e, t, h, _ => by unfold trT at h; cases h
  | n + 1, e, t, h, hp => by
    unfold trT at h
    split at h
    · split at h
      · rename_i x _ hx
        obtain ⟨i, hi, rfl⟩ := Option.map_eq_some_iff.mp h
        obtain ⟨h1, h2⟩ := hok _ hx
        exact s_nm nd (hN ▸ slot_at hi) h1 h2 hp
      · cases h
    · rename_i es _ _
      obtain ⟨ts, hts, rfl⟩ := Option.map_eq_some_iff.mp h
      have go : ∀ (es : List Expr) (ts : Tgs), trT.go N ok n es = some ts → tgsIn p ts = true → PGs X es (tgsOf X.K X.mg p (wTgs ts)) ∧ (assignEach es X.env).findIdx? (·.1) = none := by
        intro es
        induction es with
        | nil =>
          intro ts e hq
          unfold trT.go at e
          cases e
          exact ⟨s_tnil, rfl⟩
        | cons a es ih =>
          intro ts e hq
          unfold trT.go at e
          simp only [bind, Option.bind_eq_some_iff, pure, Option.some.injEq] at e
          obtain ⟨t', e1, ts', e2, rfl⟩ := e
          rw [tgsIn, Bool.and_eq_true] at hq
          obtain ⟨g1, g2⟩ := ih ts' e2 hq.2
          have st := trT_star e1 es X.env
          refine ⟨s_tcons (s_tgt hc nd hN hok n a t' e1 hq.1) g1 (by rw [st]; rfl), ?_⟩
          rw [st, List.findIdx?_cons]
          simp [g2]
      obtain ⟨g1, g2⟩ := go es ts hts hp
      exact s_tp hc (fun ds env h q w => tg_len es ts N ok n ds env h q hts w) g1 g2
    · cases h
mutual
theorem tgIn_all : ∀ t : Tg, tgIn (fun _ => true) t = true
  | .nm i => rfl
  | .tp ts => tgsIn_all ts
theorem tgsIn_all : ∀ t : Tgs, tgsIn (fun _ => true) t = true
  | .nil => rfl
  | .cons t ts => by rw [tgsIn, tgIn_all t, tgsIn_all ts]; rfl
end
/-! ### what is walked -/
section
variable {X : Cx} {W : WX} {P : Prog} {n : Nat} {a b c tg : Expr} {ma mb mc : TX} {p pos : Pos}
theorem pi_any {l : Expr} {tl : L2.TE} (hl : PE X l tl) : PI X tg l (fun σ H R => tl σ H fun x H1 => ∃ a, x = .ref a ∧ (((∃ xs, SqL X.K H1 a xs) ∧ R (Itl X.K a) H1) ∨ ((∃ xs, SqT X.K H1 a xs) ∧ R (Itt X.K a) H1))) := by
  refine ⟨fun pins s σ H R I w => thn (hl.run pins s σ H _ I w) fun v s1 ⟨x, H1, I1, r1, a, e, q⟩ => ?_⟩
  cases e
  cases r1
  rcases q with ⟨⟨xs, hq⟩, q⟩ | ⟨⟨xs, hq⟩, q⟩
  · obtain ⟨its, _, pl, _⟩ := I1.list hq
    exact wpAny_pyIter_list pl.isList (pi_one (tk := s1.toks) I1 _ (turn_list a _) ⟨_, Heap.get?_push_size _ rfl, rfl, rfl⟩ q)
  · obtain ⟨its, _, pl, _⟩ := I1.tuple hq
    exact wpAny_pyIter_tuple (show s1.heap.IsTuple a its.toArray from pl) (pi_one (tk := s1.toks) I1 _ (turn_tuple a _) ⟨_, Heap.get?_push_size _ rfl, rfl, rfl⟩ q)
theorem walk_l {K : PySem.W.Frag} {M : Str → Option Value} {a : Addr} {s : Src} {Hpre : Hp} {h0 : AH} {H0 : Hp} (g : ∀ h H, Kp Hpre h0 H0 h H → Mn K H0 H → RelH K M h H → s.chk h → ∃ vs, SqL K H a vs ∧ Reps K M H vs s.items) : Walks K M s (Itl K a) Hpre h0 H0 := fun h H t m r ck i => by
  obtain ⟨vs, sl, rp⟩ := g h H t m r ck
  refine ⟨fun d hd => ?_, fun hi => ⟨vs, sl, by rw [rp.length]; exact hi⟩⟩
  obtain ⟨v, hv, pv⟩ := rp.get hd
  refine ⟨⟨vs, v, sl, hv⟩, fun x H' y => ⟨y.1, ?_⟩⟩
  have := y.2 vs sl
  rw [hv] at this
  cases this
  exact pv
theorem walk_t {K : PySem.W.Frag} {M : Str → Option Value} {a : Addr} {s : Src} {Hpre : Hp} {h0 : AH} {H0 : Hp} (g : ∀ h H, Kp Hpre h0 H0 h H → Mn K H0 H → RelH K M h H → s.chk h → ∃ vs, SqT K H a vs ∧ Reps K M H vs s.items) : Walks K M s (Itt K a) Hpre h0 H0 := fun h H t m r ck i => by
  obtain ⟨vs, sl, rp⟩ := g h H t m r ck
  refine ⟨fun d hd => ?_, fun hi => ⟨vs, sl, by rw [rp.length]; exact hi⟩⟩
  obtain ⟨v, hv, pv⟩ := rp.get hd
  refine ⟨⟨vs, v, sl, hv⟩, fun x H' y => ⟨y.1, ?_⟩⟩
  have := y.2 vs sl
  rw [hv] at this
  cases this
  exact pv
theorem s_iseq (ha : PE X a (eOf X W ma)) : PI X tg a (iOf X W (iSeq ma)) := PI_le (pi_any ha) fun σ H R ⟨env, h, Q0, X0, nw, q, hq⟩ => ⟨env, h, _, X0, nw, q, fun r h1 v1 H1 ⟨s, e, q1⟩ t1 r1 p1 => by
  unfold srcOf at e
  split at e
  · cases e
    cases p1 with
    | tup sd rs => exact ⟨_, rfl, .inr ⟨⟨_, sd.sq⟩, hq _ _ _ _ q1 t1 r1 (walk_t fun h2 H2 t2 m2 r2 _ => ⟨_, (m2.t _ _ sd).sq, rs.mono m2⟩)⟩⟩
  · cases e
    cases p1 with
    | fl sd rs => exact ⟨_, rfl, .inl ⟨⟨_, sd.seq⟩, hq _ _ _ _ q1 t1 r1 (walk_l fun h2 H2 t2 m2 r2 _ => ⟨_, (m2.f _ _ sd).seq, rs.mono m2⟩)⟩⟩
  · split at e
    · rename_i ea
      cases e
      cases p1 with
      | loc _ =>
      obtain ⟨vs, hv, rs⟩ := r1 _ _ ea
      exact ⟨_, rfl, .inl ⟨⟨vs, SqL.of hv⟩, hq _ _ _ _ q1 t1 r1 (walk_l fun h2 H2 t2 m2 r2 ck => by
        obtain ⟨vs, hv, rs⟩ := r2 _ _ ck
        exact ⟨vs, SqL.of hv, rs⟩)⟩⟩
    · cases e
  · cases e
    obtain ⟨pp, rfl, n0, nn, vs, hv, rs⟩ := p1
    exact ⟨_, rfl, .inl ⟨⟨vs, SqL.of hv⟩, hq _ _ _ _ q1 t1 r1 (walk_l fun h2 H2 t2 m2 r2 ck => ⟨vs, SqL.of (t2 _ _ n0 hv nn).1, rs.mono m2⟩)⟩⟩
  · cases e⟩
theorem walk_r {K : PySem.W.Frag} {M : Str → Option Value} {i : Int} {m : Nat} {Hpre : Hp} {h0 : AH} {H0 : Hp} : Walks K M (.fix (rngL i m)) (Itr i m) Hpre h0 H0 := fun h H t _ r ck k => by
  refine ⟨fun d hd => ?_, fun hi => ?_⟩
  · simp only [Src.items, rngL, List.getElem?_map, Option.map_eq_some_iff] at hd
    obtain ⟨k', hk, rfl⟩ := hd
    obtain ⟨hl, e⟩ := List.getElem?_eq_some_iff.mp hk
    rw [List.length_range] at hl
    rw [List.getElem_range] at e
    subst e
    exact ⟨hl, fun x H' y => ⟨y.1, by rw [y.2]; exact .int _⟩⟩
  · exact show m ≤ k by simpa [Src.items, rngL] using hi
theorem walk_c {K : PySem.W.Frag} {M : Str → Option Value} {i c : Int} {m : Nat} {Hpre : Hp} {h0 : AH} {H0 : Hp} : Walks K M (.fix (rngLC i c m)) (Itc i c m) Hpre h0 H0 := fun h H t _ r ck k => by
  refine ⟨fun d hd => ?_, fun hi => ?_⟩
  · simp only [Src.items, rngLC, List.getElem?_map, Option.map_eq_some_iff] at hd
    obtain ⟨k', hk, rfl⟩ := hd
    obtain ⟨hl, e⟩ := List.getElem?_eq_some_iff.mp hk
    rw [List.length_range] at hl
    rw [List.getElem_range] at e
    subst e
    exact ⟨hl, fun x H' y => ⟨y.1, by rw [y.2]; exact .int _⟩⟩
  · exact show m ≤ k by simpa [Src.items, rngLC] using hi
theorem s_ir1 (S : Sit P n X W) (hg : Gl X "range") (hp : plainE a = true) (ha : PE X a (eOf X W ma)) : PI X tg (.Call (.Name "range" p) [a] [] pos) (iOf X W (iR1 ma)) := by
  have st := plain_star hp [] X.env
  refine PI_le (pi_range1 hg (S.blt _ (by decide +kernel)) (pa_cons ha pa_nil st) st) fun σ H R ⟨env, h, Q0, X0, nw, q, hq⟩ => ⟨env, h, _, X0, nw, q, fun r h1 v1 H1 ⟨j, e, s1, q1⟩ t1 r1 p1 => ?_⟩
  exact ⟨j, by rw [asInt_r e p1], (small_of s1).1, (small_of s1).2, hq _ _ _ _ q1 t1 r1 walk_r⟩
theorem s_ir2 (S : Sit P n X W) (hg : Gl X "range") (hp : plainE a = true) (hp' : plainE b = true) (ha : PE X a (eOf X W ma)) (hb : PE X b (eOf X W mb)) : PI X tg (.Call (.Name "range" p) [a, b] [] pos) (iOf X W (iR2 ma mb)) := by
  have st := plain_star hp [b] X.env
  have st' := plain_star hp' [] X.env
  refine PI_le (pi_range2 hg (S.blt _ (by decide +kernel)) (pa_cons ha (pa_cons hb pa_nil st') st) (by rw [st, st']; rfl) st') fun σ H R ⟨env, h, Q0, X0, nw, q, hq⟩ => ⟨env, h, _, X0, nw, q, fun r h1 v1 H1 ⟨i, ei, q1⟩ t1 r1 p1 =>
    ⟨env, h1, _, X0, nw.go t1 r1, q1, fun r' h2 v2 H2 ⟨j, ej, s2, q2⟩ t2 r2 p2 => ?_⟩⟩
  rw [Bool.and_eq_true] at s2
  exact ⟨i, j, by rw [asInt_r ei p1, asInt_r ej p2], ⟨(small_of s2.1).1, (small_of s2.1).2, (small_of s2.2).1, (small_of s2.2).2⟩, hq _ _ _ _ q2 (t1.trans t2) r2 walk_r⟩
theorem s_ir3 (S : Sit P n X W) (hg : Gl X "range") (hp : plainE a = true) (hp' : plainE b = true) (hp2 : plainE c = true) (ha : PE X a (eOf X W ma)) (hb : PE X b (eOf X W mb)) (hc : PE X c (eOf X W mc)) : PI X tg (.Call (.Name "range" p) [a, b, c] [] pos) (iOf X W (iR3 ma mb mc)) := by
  have st := plain_star hp [b, c] X.env
  have st' := plain_star hp' [c] X.env
  have st2 := plain_star hp2 [] X.env
  refine PI_le (pi_range3 hg (S.blt _ (by decide +kernel)) (pa_cons ha (pa_cons hb (pa_cons hc pa_nil st2) st') st) st (back_any (by simp [hp', hp2]) _ _)) fun σ H R ⟨env, h, Q0, X0, nw, q, hq⟩ => ⟨env, h, _, X0, nw, q, fun r h1 v1 H1 ⟨i, ei, q1⟩ t1 r1 p1 =>
    ⟨env, h1, _, X0, nw.go t1 r1, q1, fun r' h2 v2 H2 ⟨j, ej, q2⟩ t2 r2 p2 => ⟨env, h2, _, X0, (nw.go t1 r1).go t2 r2, q2, fun r3' h3 v3 H3 ⟨k, ek, s3, q3⟩ t3 r3 p3 => ?_⟩⟩⟩
  exact ⟨i, j, k, _, by rw [asInt_r ei p1, asInt_r ej p2, asInt_r ek p3], rgC_of s3, hq _ _ _ _ q3 ((t1.trans t2).trans t3) r3 walk_c⟩
end
end Py
namespace Py
open L2 PySem.Spec PySem PyProof.Rows
/-! ### comprehensions -/
abbrev W0 : WX := fun _ _ _ _ => False
theorem wipe_in {i : Nat} : ∀ {σ : L2.St} {vs : List Nat}, i ∈ vs → (L2.wipe σ vs)[i]? = if i < σ.length then some none else none
  | σ, v :: vs, h => by
    unfold L2.wipe
    by_cases e : v = i
    · subst e
      by_cases hl : v < σ.length
      · rw [if_pos hl, List.getElem?_set_self (by rw [wipe_length]; exact hl)]
      · rw [if_neg hl, List.getElem?_eq_none (by rw [List.length_set, wipe_length]; omega)]
    · rw [List.getElem?_set_ne e]
      exact wipe_in ((List.mem_cons.mp h).resolve_left fun z => e z.symm)
theorem wipe_ag {σ τ : L2.St} {vs : List Nat} (a : Ag vs.contains (L2.wipe σ vs) τ) : L2.wipe τ vs = L2.wipe σ vs := by
  apply List.ext_getElem?
  intro i
  by_cases h : i ∈ vs
  · rw [wipe_in h, wipe_in h, a.1, wipe_length]
  · rw [wipe_out h, a.2 i (by simpa using h)]
section
variable {X : Cx} {W : WX} {P : Prog} {n : Nat}
theorem Sit.blk (S : Sit P n X W) (s : Shared) (H : Hp) (scope : Scope) (cenv : PySem.Env) (fp : List Addr) : Sit P n (X.blk s H scope cenv fp) W0 :=
  ⟨S.calm, S.nd, S.room, S.blt, S.glo, fun f h => let ⟨fa, fd, ps, F⟩ := S.fns f h; ⟨fa, fd, ps, ⟨F.ok, F.np, F.mg, F.keep, F.binds⟩⟩, S.gfn, takes0⟩
end
section
variable {K : PySem.W.Frag} {M : Str → Option Value} {W : WX}
theorem no_x {σ : L2.St} {h : AH} {H : Hp} : Xok K M W σ h H noX := fun _ _ _ _ x => x.elim
/-- a turn's result -/
def ResO (H : Hp) : Option D → Option V → Prop
  | some d, some y => Rep K M H y d
  | none, none => True
  | _, _ => False
/-- one turn, as the layer reads it -/
def turnL (g : L2.TG) (tt : L2.TT) (te : L2.TE) (vs : List Nat) (x : V) (σ : L2.St) (H : Hp) (k : Option V → Hp → Prop) : Prop :=
  g x (L2.wipe σ vs) H fun σ2 H2 => L2.wipe σ2 vs = L2.wipe σ vs ∧ tt σ2 H2 fun b H3 => if b = true then te σ2 H3 fun y H4 => k (some y) H4 else k none H3
/-- the abstract turn is right -/
def StepOk (K : PySem.W.Frag) (M : Str → Option Value) (σ : L2.St) (env : Env) (step : D → AH → (Option D → AH → Prop) → Prop) (tl : V → L2.St → Hp → (Option V → Hp → Prop) → Prop) : Prop :=
  ∀ d x h H k k', RelH K M h H → RelS K M H σ env → Rep K M H x d → step d h k → (∀ o h' ov H', k o h' → Tr h H h' H' → RelH K M h' H' → ResO (K := K) (M := M) H' o ov → k' ov H') → tl x σ H k'
theorem step_c {mt : TG} {me : TX} {own : List Nat} {σ : L2.St} {env : Env} : StepOk K M σ env (stepC mt env own me) (turnL (tgOf K M own.contains mt) tYes (tOf K M W0 me) own) := fun d x h H k k' rel rs rp q hk =>
  ⟨d, Py.wipe env own, h, _, rel, rs.wipe own, rp, q, fun env2 h2 σ2 H2 q2 t2 r2 s2 a2 => ⟨wipe_ag a2, by
    show (if true = true then tOf K M W0 me σ2 H2 (fun y H4 => k' (some y) H4) else k' none H2)
    rw [if_pos rfl]
    refine ⟨env2, h2, _, noX, ⟨r2, s2, no_x⟩, q2, fun r h3 v3 H3 q3 t3 r3 p3 => ?_⟩
    obtain ⟨d, h3', q3, t3', r3', p3'⟩ := rv_take q3 t3 r3 p3
    exact hk _ _ (some v3) _ q3 (t2.trans t3') r3' p3'⟩⟩
theorem step_ci {mt : TG} {mc me : TX} {own : List Nat} {σ : L2.St} {env : Env} : StepOk K M σ env (stepCi mt env own mc me) (turnL (tgOf K M own.contains mt) (ttOf K M W0 (tT mc)) (tOf K M W0 me) own) := fun d x h H k k' rel rs rp q hk =>
  ⟨d, Py.wipe env own, h, _, rel, rs.wipe own, rp, q, fun env2 h2 σ2 H2 q2 t2 r2 s2 a2 => ⟨wipe_ag a2, env2, h2, _, noX, ⟨r2, s2, no_x⟩, q2, fun b h3 H3 q3 t3 r3 => by
    cases b with
    | true =>
      rw [if_pos rfl]
      refine ⟨env2, h3, _, noX, ⟨r3, s2.mono (t3.mn r2), no_x⟩, q3, fun r h4 v4 H4 q4 t4 r4 p4 => ?_⟩
      obtain ⟨d, h4', q4, t4', r4', p4'⟩ := rv_take q4 t4 r4 p4
      exact hk _ _ (some v4) _ q4 ((t2.trans t3).trans t4') r4' p4'
    | false =>
      rw [if_neg (by decide)]
      exact hk none _ none _ q3 (t2.trans t3) r3 trivial⟩⟩
/-- the state of a comprehension: D its list -/
structure CSt (K : PySem.W.Frag) (M : Str → Option Value) (σ : L2.St) (env : Env) (h1 : AH) (H1 : Hp) (D : Addr) (acc : List Py.D) (h : AH) (H : Hp) : Prop where
  rel : RelH K M h H
  rs : RelS K M H σ env
  tr : Tr h1 H1 h H
  nn : h D = none
  ls : ∃ vs, H D = some (.lst vs) ∧ Reps K M H vs acc
/-- the list is written: no one else minds -/
theorem mn_own {H : Hp} {D : Addr} {vs ws : List V} (e : H D = some (.lst vs)) : Mn K H (upd H D (.lst ws)) := by
  refine ⟨fun a xs s => ?_, fun a xs s => ?_⟩
  · rcases s with ⟨o, q, z⟩ | s
    · exact .inl ⟨o, by rw [upd_ne (ne_of q e (by intro z; cases z))]; exact q, z⟩
    · exact .inr s
  · rcases s with ⟨o, q⟩ | s
    · exact .inl ⟨o, by rw [upd_ne (ne_of q e (by intro z; cases z))]; exact q⟩
    · exact .inr s
theorem CSt.push {σ : L2.St} {env : Env} {h1 h h' : AH} {H1 H H' : Hp} {D : Addr} {acc : List Py.D} {d : Py.D} {y : V} (c : CSt K M σ env h1 H1 D acc h H) (hD : H1 D = none) (t : Tr h H h' H') (r : RelH K M h' H') (p : Rep K M H' y d) :
    ∃ vs, H' D = some (.lst vs) ∧ vs.length = acc.length ∧ CSt K M σ env h1 H1 D (acc ++ [d]) h' (upd H' D (.lst (vs ++ [y]))) := by
  obtain ⟨vs, hv, rp⟩ := c.ls
  obtain ⟨hv', hn⟩ := t.keep _ _ hv c.nn
  have m := t.mn c.rel
  have m2 : Mn K H' (upd H' D (.lst (vs ++ [y]))) := mn_own hv'
  refine ⟨vs, hv', rp.length, fun a o e => ?_, (c.rs.mono m).mono m2, ?_, hn, _, upd_same, ((rp.mono m).mono m2).append (.cons (p.mono m2) .nil)⟩
  · have ne : a ≠ D := fun z => by rw [z, hn] at e; cases e
    exact (r a o e).mono m2 (upd_ne ne)
  · refine ⟨fun a o e z => ?_, fun a z => ?_⟩
    · obtain ⟨e2, z2⟩ := (c.tr.trans t).keep a o e z
      exact ⟨by rw [upd_ne (ne_of_none e hD)]; exact e2, z2⟩
    · unfold upd
      split
      · simp
      · exact (c.tr.trans t).grow a z
theorem CSt.go {σ : L2.St} {env : Env} {h1 h h' : AH} {H1 H H' : Hp} {D : Addr} {acc : List Py.D} (c : CSt K M σ env h1 H1 D acc h H) (t : Tr h H h' H') (r : RelH K M h' H') : CSt K M σ env h1 H1 D acc h' H' := by
  obtain ⟨vs, hv, rp⟩ := c.ls
  obtain ⟨hv', hn⟩ := t.keep _ _ hv c.nn
  exact ⟨r, c.rs.mono (t.mn c.rel), c.tr.trans t, hn, vs, hv', rp.mono (t.mn c.rel)⟩
theorem CSt.new {σ : L2.St} {env : Env} {h1 : AH} {H1 : Hp} {D : Addr} (rel : RelH K M h1 H1) (rs : RelS K M H1 σ env) (hD : H1 D = none) : CSt K M σ env h1 H1 D [] h1 (upd H1 D (.lst [])) :=
  ⟨rel.new hD, rs.mono ((Tr.new rel hD).mn rel), Tr.new rel hD, rel.free hD, _, upd_same, .nil⟩
/-- .. together with what the walked thing leans on -/
structure CS2 (K : PySem.W.Frag) (M : Str → Option Value) (σ : L2.St) (env : Env) (h1 : AH) (H1 : Hp) (D : Addr) (Hpre : Hp) (h0 : AH) (H0 : Hp) (acc : List Py.D) (h : AH) (H : Hp) : Prop where
  c : CSt K M σ env h1 H1 D acc h H
  kp : Kp Hpre h0 H0 h H
  mn : Mn K H0 H
theorem Mn.trans {H H' H'' : Hp} (a : Mn K H H') (b : Mn K H' H'') : Mn K H H'' := ⟨fun x xs s => b.t _ _ (a.t x xs s), fun x xs s => b.f _ _ (a.f x xs s)⟩
section
variable {σ : L2.St} {env : Env} {h1 h0 h h' : AH} {H1 Hpre H0 H H' : Hp} {D : Addr} {acc : List Py.D}
theorem CS2.go (c : CS2 K M σ env h1 H1 D Hpre h0 H0 acc h H) (t : Tr h H h' H') (r : RelH K M h' H') : CS2 K M σ env h1 H1 D Hpre h0 H0 acc h' H' :=
  ⟨c.c.go t r, fun p o n e z => let ⟨e1, z1⟩ := c.kp p o n e z; t.keep _ _ e1 z1, c.mn.trans (t.mn c.c.rel)⟩
theorem CS2.push {d : Py.D} {y : V} (c : CS2 K M σ env h1 H1 D Hpre h0 H0 acc h H) (hD : H1 D = none) (hd : ∀ o, Hpre D = none → H0 D = some o → h0 D = none → False) (t : Tr h H h' H') (r : RelH K M h' H') (p : Rep K M H' y d) :
    ∃ vs, H' D = some (.lst vs) ∧ vs.length = acc.length ∧ CS2 K M σ env h1 H1 D Hpre h0 H0 (acc ++ [d]) h' (upd H' D (.lst (vs ++ [y]))) := by
  obtain ⟨vs, hv, hl, c2⟩ := c.c.push hD t r p
  have g := c.go t r
  refine ⟨vs, hv, hl, c2, fun p o n e z => ?_, g.mn.trans (mn_own hv)⟩
  obtain ⟨e1, z1⟩ := g.kp p o n e z
  have ne : p ≠ D := fun w => by subst w; exact hd o n e z
  exact ⟨by rw [upd_ne ne]; exact e1, z1⟩
end
/-- what a turn does with the list -/
def addL (D : Addr) (Nx : Hp → Prop) : Option V → Hp → Prop
  | some y, H => ∃ acc, H D = some (.lst acc) ∧ acc.length < sizeLine ∧ Nx (upd H D (.lst (acc ++ [y])))
  | none, H => Nx H
/-- the turns over one source -/
theorem wcomp_lc {σ : L2.St} {env : Env} {h1 h0 hs : AH} {H1 Hpre H0 Hs : Hp} {D : Addr} {s : Src} {J : L2.It} {step : Py.D → AH → (Option Py.D → AH → Prop) → Prop} {tl : V → L2.St → Hp → (Option V → Hp → Prop) → Prop} {Qf : List Py.D → AH → Prop} {acc0 : List Py.D}
    (hD : H1 D = none) (hd : ∀ o, Hpre D = none → H0 D = some o → h0 D = none → False) (wk : Walks K M s J Hpre h0 H0) (so : StepOk K M σ env step tl) (hw : wComp s.chk step s.items acc0 hs Qf) (c0 : CS2 K M σ env h1 H1 D Hpre h0 H0 acc0 hs Hs) :
    ∃ W1 : Nat → Nat → Hp → Prop, (∃ m, W1 0 m Hs) ∧ ∀ j k H, W1 j k H → (J.stop j H ∧ ∃ acc h, Qf acc h ∧ CS2 K M σ env h1 H1 D Hpre h0 H0 acc h H) ∨
      (J.go j H ∧ ∃ Nx : Hp → Prop, (∀ H', Nx H' → ∃ k', k' < k ∧ W1 (j + 1) k' H') ∧ ∀ x H', J.yld j H x H' → tl x σ H' (addL D Nx)) := by
  refine ⟨fun j k H => ∃ acc h, k = s.items.length - j ∧ j ≤ s.items.length ∧ CS2 K M σ env h1 H1 D Hpre h0 H0 acc h H ∧ wComp s.chk step (s.items.drop j) acc h Qf, ⟨_, acc0, hs, rfl, Nat.zero_le _, c0, hw⟩, ?_⟩
  rintro j k H ⟨acc, h, rfl, hj, c, w⟩
  by_cases e : j < s.items.length
  · refine .inr ?_
    have hi : s.items[j]? = some s.items[j] := List.getElem?_eq_getElem e
    rw [List.drop_eq_getElem_cons e] at w
    obtain ⟨ck, w⟩ := w
    obtain ⟨go, yl⟩ := (wk h H c.kp c.mn c.c.rel ck j).1 _ hi
    refine ⟨go, fun H' => ∃ acc h, CS2 K M σ env h1 H1 D Hpre h0 H0 acc h H' ∧ wComp s.chk step (s.items.drop (j + 1)) acc h Qf, fun H' ⟨acc, h, c, w⟩ => ⟨s.items.length - (j + 1), by omega, acc, h, rfl, e, c, w⟩, fun x H' y => ?_⟩
    obtain ⟨rfl, rx⟩ := yl x H' y
    refine so _ x h H' _ _ c.c.rel c.c.rs rx w fun o h2 ov H2 q2 t2 r2 p2 => ?_
    cases o with
    | none =>
      cases ov with
      | none => exact ⟨acc, h2, c.go t2 r2, q2⟩
      | some y => exact p2.elim
    | some d =>
      cases ov with
      | none => exact p2.elim
      | some y =>
        obtain ⟨vs, hv, hl, c2⟩ := c.push hD hd t2 r2 p2
        exact ⟨vs, hv, by rw [hl, sizeLine_eq]; exact q2.1, _, h2, c2, q2.2⟩
  · have ej : j = s.items.length := by omega
    subst ej
    rw [List.drop_length] at w
    exact .inl ⟨(wk h H c.kp c.mn c.c.rel w.1 _).2 (Nat.le_refl _), acc, h, w.2, c⟩
theorem kp_of {Hpre : Hp} {h0 h : AH} {H0 H : Hp} (t : Tr h0 H0 h H) : Kp Hpre h0 H0 h H := fun p o _ e z => t.keep p o e z
/-- a list comprehension of one clause -/
theorem s_lc1 {mi : TI} {step : Env → Py.D → AH → (Option Py.D → AH → Prop) → Prop} {g : L2.TG} {tt : L2.TT} {te : L2.TE} {own : List Nat} (so : ∀ σ env, StepOk K M σ env (step env) (turnL g tt te own)) {σ : L2.St} {H : Hp} {Q : VK}
    (q : tOf K M W (fun env h Q X => mi env h (fun s h1 => wComp s.chk (step env) s.items [] h1 fun acc h2 => Q (.o (.lst acc)) h2) X) σ H Q) : tLc (tiOf K M W mi) g tt te own σ H Q := by
  obtain ⟨env, h, Q0, X0, nw, q, hq⟩ := q
  refine ⟨env, h, _, X0, nw, q, fun s h1 J H1 q1 t1 r1 wk => ?_⟩
  intro D hD
  have hn := Tr.new (u := .lst []) r1 hD
  obtain ⟨W1, w0, w1⟩ := wcomp_lc (D := D) (Hs := upd H1 D (.lst [])) hD (fun o _ e _ => by rw [hD] at e; cases e) wk (so σ env) q1 ⟨CSt.new r1 (nw.rs.mono (t1.mn nw.rel)) hD, kp_of hn, hn.mn r1⟩
  refine ⟨W1, w0, fun i m H3 w => ?_⟩
  rcases w1 i m H3 w with ⟨st, acc, h3, q3, c3⟩ | ⟨go, Nx, hN, y⟩
  · refine .inl ⟨st, hq _ _ _ _ q3 (t1.trans c3.c.tr) c3.c.rel ⟨D, rfl, ?_, c3.c.nn, c3.c.ls⟩⟩
    cases e : H D with
    | none => rfl
    | some u => exact absurd hD (t1.grow D (by rw [e]; simp))
  · exact .inr ⟨go, Nx, hN, y⟩
theorem yes_i {σ : L2.St} {H : Hp} {p q : Hp → Prop} (w : p H) : tYes σ H (fun b H3 => if b = true then p H3 else q H3) := by
  unfold tYes
  show (if true = true then p H else q H)
  rw [if_pos rfl]
  exact w
/-- .. of two -/
theorem s_lc2 {mi mi1 : TI} {mt mt1 : TG} {me : TX} {own own1 : List Nat} {σ : L2.St} {H : Hp} {Q : VK} (q : tOf K M W (xComp2 mt mi own mt1 mi1 own1 me) σ H Q) :
    tLc2 (tiOf K M W mi) (tgOf K M own.contains mt) tYes (tiOf K M W0 mi1) (tgOf K M own1.contains mt1) tYes (tOf K M W0 me) own own1 σ H Q := by
  obtain ⟨env, h, Q0, X0, nw, q, hq⟩ := q
  refine ⟨env, h, _, X0, nw, q, fun s h1 J H1 q1 t1 r1 wk => ?_⟩
  intro D hD
  refine ⟨fun i m H => ∃ acc h, m = s.items.length - i ∧ i ≤ s.items.length ∧ CSt K M σ env h1 H1 D acc h H ∧ wComp2 s.chk (stepC2 mt env own mt1 mi1 own1 me) (s.items.drop i) acc h (fun acc h2 => Q0 (.o (.lst acc)) h2),
    ⟨_, [], h1, rfl, Nat.zero_le _, CSt.new r1 (nw.rs.mono (t1.mn nw.rel)) hD, q1⟩, ?_⟩
  rintro i m H3 ⟨acc, h3, rfl, hi, c, w⟩
  have wk' := wk h3 H3 (kp_of c.tr) (c.tr.mn r1) c.rel
  by_cases e : i < s.items.length
  · refine .inr ?_
    have hx : s.items[i]? = some s.items[i] := List.getElem?_eq_getElem e
    rw [List.drop_eq_getElem_cons e] at w
    obtain ⟨ck, w⟩ := w
    obtain ⟨go, yl⟩ := (wk' ck i).1 _ hx
    refine ⟨go, fun H' => ∃ acc h, CSt K M σ env h1 H1 D acc h H' ∧ wComp2 s.chk (stepC2 mt env own mt1 mi1 own1 me) (s.items.drop (i + 1)) acc h (fun acc h2 => Q0 (.o (.lst acc)) h2), fun H' ⟨acc, h, c, w⟩ => ⟨s.items.length - (i + 1), by omega, acc, h, rfl, e, c, w⟩, fun x H' y => ?_⟩
    obtain ⟨rfl, rx⟩ := yl x H' y
    refine ⟨_, Py.wipe env own, h3, _, c.rel, c.rs.wipe own, rx, w, fun env2 h4 σ2 H4 q4 t4 r4 s4 a4 => ⟨wipe_ag a4, ?_⟩⟩
    refine yes_i ?_
    refine ⟨env2, h4, _, noX, ⟨r4, s4, no_x⟩, q4, fun s1 h5 J1 H5 q5 t5 r5 wk1 => ?_⟩
    have c5 := (c.go t4 r4).go t5 r5
    have c5' : CSt K M σ2 env2 h1 H1 D acc h5 H5 := ⟨c5.rel, s4.mono (t5.mn r4), c5.tr, c5.nn, c5.ls⟩
    have hd : ∀ o, H4 D = none → H5 D = some o → h5 D = none → False := fun o z _ _ => by
      obtain ⟨vs, hv, _⟩ := (c.go t4 r4).ls
      rw [z] at hv
      cases hv
    obtain ⟨W1, w0, w1⟩ := wcomp_lc (D := D) hD hd wk1 (step_c (mt := mt1) (me := me) (own := own1) (σ := σ2) (env := env2)) q5 ⟨c5', fun p o _ a b => ⟨a, b⟩, ⟨fun _ _ z => z, fun _ _ z => z⟩⟩
    refine ⟨W1, w0, fun j k H6 w6 => ?_⟩
    rcases w1 j k H6 w6 with ⟨st, acc6, h6, q6, c6⟩ | ⟨go1, Nx1, hN1, y1⟩
    · exact .inl ⟨st, acc6, h6, ⟨c6.c.rel, c5.rs.mono c6.mn, c6.c.tr, c6.c.nn, c6.c.ls⟩, q6⟩
    · exact .inr ⟨go1, Nx1, hN1, y1⟩
  · have ej : i = s.items.length := by omega
    subst ej
    rw [List.drop_length] at w
    refine .inl ⟨(wk' w.1 _).2 (Nat.le_refl _), hq _ _ _ _ w.2 (t1.trans c.tr) c.rel ⟨D, rfl, ?_, c.nn, c.ls⟩⟩
    cases e : H D with
    | none => rfl
    | some u => exact absurd hD (t1.grow D (by rw [e]; simp))
end
end Py
namespace Py
open L2 PySem.Spec PySem PyProof.Rows
theorem trE_plain {F : Str → Bool} {N : List Str} {n : Nat} {sc : Scope} {e : Expr} {ex : Ex} (h : trE F N n sc e = some ex) : plainE e = true := by
  cases n with
  | zero => unfold trE at h; cases h
  | succ n =>
    cases e with
    | Starred _ _ => unfold trE at h; cases h
    | Slice _ _ _ _ => unfold trE at h; cases h
    | Set _ _ _ => unfold trE at h; cases h
    | Call f es ks pos =>
      cases f with
      | Name x p =>
        unfold trE at h
        cases ks with
        | nil =>
          simp only at h
          show okN x = true
          by_cases o : okN x = true
          · exact o
          · rw [if_neg o] at h; cases h
        | cons _ _ => cases h
      | _ => rfl
    | _ => rfl
theorem vis_of {X : Cx} {sc : Scope} {x : Str} (e : X.env.scope = sc) (h : visB sc x = true) : Vis X.env.scope x := by
  unfold visB at h
  unfold Vis
  rw [e]
  split at h
  · exact .inl (by assumption)
  · exact .inr (.inl (by assumption))
  · exact .inr (.inr (by assumption))
  · cases h
theorem glo_of {X : Cx} {sc : Scope} {x : Str} (e : X.env.scope = sc) (h : gloB sc x = true) : Gl X x := by
  unfold gloB at h
  show X.env.scope.names.lookup x = _
  rw [e]
  split at h
  · assumption
  · cases h
theorem okN_d {x : Str} (h : okN x = true) : (x == ("__debug__" : Str)) = false ∧ (x == ("__classdict__" : Str)) = false ∧ x ≠ "__name__" := by
  unfold okN at h
  simp only [Bool.and_eq_true, Bool.not_eq_true', beq_eq_false_iff_ne] at h
  obtain ⟨⟨⟨_, h1⟩, h2⟩, h3⟩ := h
  exact ⟨beq_eq_false_iff_ne.mpr h1, beq_eq_false_iff_ne.mpr h2, h3⟩
section
variable {X : Cx} {W : WX} {P : Prog} {n : Nat}
theorem s_glo (S : Sit P n X W) {x : Str} {pos : Pos} (hg : Gl X x) (hd : (x == ("__debug__" : Str)) = false) : PE X (.Name x pos) (eOf X W (xGlo P.gl x)) := ⟨fun pins s σ H Q I ⟨env, h, Q0, X0, nw, ⟨d, e, q⟩, hq⟩ => by
  obtain ⟨v, u, hm, rv, rp⟩ := S.glo x d e
  exact (pe_glob hg hm rv hd).run pins s σ H Q I (hq _ _ _ _ q .refl nw.rel (rp H))⟩
theorem s_const {c : Const} {d : D} {k : Nat} {pos : Pos} (h : trC c = some d) : ∃ v : V, PE X (.Constant c k pos) (tC v) ∧ ∀ H, Rep X.K X.mg H v d := by
  unfold trC at h
  split at h
  · cases h; exact ⟨_, pe_non, fun H => .non⟩
  · cases h; exact ⟨_, pe_bl, fun H => .bl _⟩
  · cases h; exact ⟨_, pe_int, fun H => .int _⟩
  · cases h; exact ⟨_, pe_str, fun H => .str _⟩
  · cases h
theorem s_isC {e : Expr} {d : D} (h : trIsC e = some d) : ∃ v : V, PE X e (tC v) ∧ ∀ H, Rep X.K X.mg H v d := by
  unfold trIsC at h
  split at h
  · cases h; exact ⟨_, pe_non, fun H => .non⟩
  · cases h; exact ⟨_, pe_bl, fun H => .bl _⟩
  · cases h
theorem trOp_eq {op : Operator} {o : Bop} (h : trOp op = some o) : op = opOf o := by
  unfold trOp at h
  split at h <;> first | (cases h; rfl) | cases h
theorem trCop_eq {op : CmpOp} {o : Cop} (h : trCop op = some o) : op = copOf o := by
  unfold trCop at h
  split at h <;> first | (cases h; rfl) | cases h
theorem trIs_eq {op : CmpOp} {b : Bool} (h : trIs op = some b) : op = if b then .IsNot else .Is := by
  unfold trIs at h
  split at h <;> first | (cases h; rfl) | cases h
theorem Sit.hu (S : Sit P n X W) : X.A.units + 65 < cLine := by
  have := S.room.un
  have e : cLine = 9900 := rfl
  omega
end
/-- what is shown of an expression -/
def EOk (P : Prog) (n : Nat) (F : Str → Bool) (N : List Str) (m : Nat) : Prop := ∀ (sc : Scope) (e : Expr) (ex : Ex), trE F N m sc e = some ex → ∀ (X : Cx) (W : WX), Sit P n X W → X.env.scope = sc → X.N = N →
  PE X e (eOf X W (wX (wC P n) P.gl ex)) ∧ PT X e (cOf X W (wX (wC P n) P.gl ex))
section
variable {P : Prog} {n : Nat} {F : Str → Bool} {N : List Str} {m : Nat} (hF : ∀ f, F f = true → P.fn f ≠ none) (ih : EOk P n F N m)
include ih
theorem s_es {sc : Scope} {X : Cx} {W : WX} (S : Sit P n X W) (hs : X.env.scope = sc) (hN : X.N = N) : ∀ {es : List Expr} {r : Es}, trEs (trE F N m sc) es = some r →
    PA X es (aOf X W (wEs (wC P n) P.gl r)) ∧ (∀ e ∈ es, plainE e = true) ∧ (es = [] → wEs (wC P n) P.gl r = esNil)
  | [], r, h => by
    unfold trEs at h
    cases h
    exact ⟨s_nil, (fun e he => nomatch he), fun _ => rfl⟩
  | e :: es, r, h => by
    unfold trEs at h
    simp only [bind, Option.bind_eq_some_iff, pure, Option.some.injEq] at h
    obtain ⟨a, h1, r', h2, rfl⟩ := h
    obtain ⟨g1, g2, _⟩ := s_es S hs hN h2
    have hp := trE_plain h1
    exact ⟨s_cons (ih sc e a h1 X W S hs hN).1 g1 (plain_star hp es X.env), fun x hx => (List.mem_cons.mp hx).elim (fun q => q ▸ hp) (g2 x), fun q => nomatch q⟩
theorem s_bool {sc : Scope} {X : Cx} {W : WX} (S : Sit P n X W) (hs : X.env.scope = sc) (hN : X.N = N) {op : BoolOp} {pos : Pos} : ∀ {es : List Expr} {ex : Ex}, trBool (trE F N m sc) op es = some ex →
    PE X (.BoolOp op es pos) (eOf X W (wX (wC P n) P.gl ex)) ∧ PW X (.BoolOp op es pos) (cOf X W (wX (wC P n) P.gl ex))
  | [], ex, h => by
    unfold trBool at h
    cases h
  | [a], ex, h => by
    unfold trBool at h
    exact s_one (ih sc a ex h X W S hs hN)
  | a :: b :: r, ex, h => by
    unfold trBool at h
    simp only [bind, Option.bind_eq_some_iff, pure, Option.some.injEq] at h
    obtain ⟨x, h1, y, h2, rfl⟩ := h
    have g1 := ih sc a x h1 X W S hs hN
    have g2 := s_bool (pos := pos) S hs hN h2
    cases op with
    | And => exact s_and (mX (wC_mono P n) x) g1 g2
    | Or => exact s_or (mX (wC_mono P n) x) g1 g2
theorem s_o {sc : Scope} {X : Cx} {W : WX} (S : Sit P n X W) (hs : X.env.scope = sc) (hN : X.N = N) {o : Option Expr} {r : Oe} (h : trO (trE F N m sc) o = some r) : PO X o (oOf X W (wO (wC P n) P.gl r)) := by
  cases o with
  | none =>
    unfold trO at h
    cases h
    exact s_oNo
  | some e =>
    unfold trO at h
    simp only [bind, Option.bind_eq_some_iff, pure, Option.some.injEq] at h
    obtain ⟨x, h1, rfl⟩ := h
    exact s_oSo (ih sc e x h1 X W S hs hN).1
theorem s_it {sc : Scope} {X : Cx} {W : WX} (S : Sit P n X W) (hs : X.env.scope = sc) (hN : X.N = N) {tg e : Expr} {it : It} (h : trI sc (trE F N m sc) e = some it) : PI X tg e (iOf X W (wI (wC P n) P.gl it)) := by
  have seq : ∀ {e : Expr} {x : Ex}, trE F N m sc e = some x → PI X tg e (iOf X W (wI (wC P n) P.gl (.seq x))) := fun {e x} h => s_iseq (ih sc e x h X W S hs hN).1
  unfold trI at h
  split at h
  · rename_i g es pos
    split at h
    · rename_i hg
      have rg : ∃ p, g = .Name "range" p ∧ Gl X "range" := by
        unfold isRng at hg
        split at hg
        · rename_i x p
          rw [Bool.and_eq_true, decide_eq_true_eq] at hg
          obtain ⟨rfl, hg⟩ := hg
          exact ⟨p, rfl, glo_of hs hg⟩
        · cases hg
      obtain ⟨p, rfl, hG⟩ := rg
      split at h
      · simp only [bind, Option.bind_eq_some_iff, pure, Option.some.injEq] at h
        obtain ⟨x, h1, rfl⟩ := h
        exact s_ir1 S hG (trE_plain h1) (ih sc _ x h1 X W S hs hN).1
      · simp only [bind, Option.bind_eq_some_iff, pure, Option.some.injEq] at h
        obtain ⟨x, h1, y, h2, rfl⟩ := h
        exact s_ir2 S hG (trE_plain h1) (trE_plain h2) (ih sc _ x h1 X W S hs hN).1 (ih sc _ y h2 X W S hs hN).1
      · simp only [bind, Option.bind_eq_some_iff, pure, Option.some.injEq] at h
        obtain ⟨x, h1, y, h2, z, h3, rfl⟩ := h
        exact s_ir3 S hG (trE_plain h1) (trE_plain h2) (trE_plain h3) (ih sc _ x h1 X W S hs hN).1 (ih sc _ y h2 X W S hs hN).1 (ih sc _ z h3 X W S hs hN).1
      · cases h
    · simp only [bind, Option.bind_eq_some_iff, pure, Option.some.injEq] at h
      obtain ⟨x, h1, rfl⟩ := h
      exact seq h1
  · simp only [bind, Option.bind_eq_some_iff, pure, Option.some.injEq] at h
    obtain ⟨x, h1, rfl⟩ := h
    exact seq h1
omit ih in
theorem trI_plain {sc : Scope} {e : Expr} {it : It} (h : trI sc (trE F N m sc) e = some it) : plainE e = true := by
  unfold trI at h
  split at h
  · rename_i g es pos
    split at h
    · rename_i hg
      unfold isRng at hg
      split at hg
      · rw [Bool.and_eq_true, decide_eq_true_eq] at hg
        obtain ⟨rfl, hg⟩ := hg
        exact (show okN "range" = true by decide +kernel)
      · cases hg
    · simp only [bind, Option.bind_eq_some_iff, pure, Option.some.injEq] at h
      obtain ⟨x, h1, rfl⟩ := h
      exact trE_plain h1
  · simp only [bind, Option.bind_eq_some_iff, pure, Option.some.injEq] at h
    obtain ⟨x, h1, rfl⟩ := h
    exact trE_plain h1
end
/-- plainly its value's truth -/
theorem pl_t {X : Cx} {e : Expr} (h : ∀ whole, isTrue e X.env whole = (do let v ← whole; standAt e.pos; holding [v] (truthy v))) : PlainT X e := h
theorem loc_of {X : Cx} {scope : Scope} {x : Str} (e : X.env.scope.names.lookup x = scope.names.lookup x ∨ True) : True := trivial
theorem blk_ok {X : Cx} {scope : Scope} {s : Shared} {H : Hp} {C : Addr} {cl : List (Str × Addr)} {fp : List Addr} {x : Str} (h : locB scope x = true) :
    Loc (X.blk s H scope (compEnvC scope cl C X.env) fp).env.scope x ∧ ((X.blk s H scope (compEnvC scope cl C X.env) fp).fn x = true ∨ (X.blk s H scope (compEnvC scope cl C X.env) fp).env.scope.names.lookup x = some .local) := by
  have e : (compEnvC scope cl C X.env).scope = relS scope X.env.scope := rfl
  show Loc (compEnvC scope cl C X.env).scope x ∧ ((scope.names.lookup x == some .cell) = true ∨ (compEnvC scope cl C X.env).scope.names.lookup x = some .local)
  rw [e]
  unfold locB at h
  split at h
  · rename_i q
    have := lookup_relS_keep (sc := X.env.scope) (by decide) q
    exact ⟨.inl this, .inr this⟩
  · rename_i q
    have := lookup_relS_keep (sc := X.env.scope) (by decide) q
    exact ⟨.inr this, .inl (by rw [q]; rfl)⟩
  · cases h
end Py
namespace Py
open L2 PySem.Spec PySem PyProof.Rows
theorem isRng_eq {sc : Scope} {g : Expr} (h : isRng sc g = true) : ∃ p, g = .Name "range" p ∧ gloB sc "range" = true := by
  unfold isRng at h
  split at h
  · rename_i x p
    rw [Bool.and_eq_true, decide_eq_true_eq]
        at h
    obtain ⟨rfl, h⟩ := h
    exact ⟨p, rfl, h⟩
  · cases h
theorem trI_1 {sc : Scope} {f : Expr → Option Ex} {e : Expr} {i : Ex} (h : trI sc f e = some (.rng1 i)) : ∃ p a pos, e = .Call (.Name "range" p) [a] [] pos ∧ gloB sc "range" = true ∧ f a = some i := by
  unfold trI at h
  split at h
  · split at h
    · rename_i hg
      obtain ⟨p, rfl, hG⟩ := isRng_eq hg
      split at h
      · simp only [bind, Option.bind_eq_some_iff, pure, Option.some.injEq] at h
        obtain ⟨x, h1, h2⟩ := h
        cases h2
        exact ⟨_, _, _, rfl, hG, h1⟩
      · simp only [bind, Option.bind_eq_some_iff, pure, Option.some.injEq] at h
        obtain ⟨x, h1, y, h2, h3⟩ := h
        cases h3
      · simp only [bind, Option.bind_eq_some_iff, pure, Option.some.injEq] at h
        obtain ⟨x, h1, y, h2, z, h3, h4⟩ := h
        cases h4
      · cases h
    · simp only [bind, Option.bind_eq_some_iff, pure, Option.some.injEq] at h
      obtain ⟨x, h1, h2⟩ := h
      cases h2
  · simp only [bind, Option.bind_eq_some_iff, pure, Option.some.injEq] at h
    obtain ⟨x, h1, h2⟩ := h
    cases h2
theorem trI_2 {sc : Scope} {f : Expr → Option Ex} {e : Expr} {i j : Ex} (h : trI sc f e = some (.rng2 i j)) : ∃ p a b pos, e = .Call (.Name "range" p) [a, b] [] pos ∧ gloB sc "range" = true ∧ f a = some i ∧ f b = some j := by
  unfold trI at h
  split at h
  · split at h
    · rename_i hg
      obtain ⟨p, rfl, hG⟩ := isRng_eq hg
      split at h
      · simp only [bind, Option.bind_eq_some_iff, pure, Option.some.injEq] at h
        obtain ⟨x, h1, h2⟩ := h
        cases h2
      · simp only [bind, Option.bind_eq_some_iff, pure, Option.some.injEq] at h
        obtain ⟨x, h1, y, h2, h3⟩ := h
        cases h3
        exact ⟨_, _, _, _, rfl, hG, h1, h2⟩
      · simp only [bind, Option.bind_eq_some_iff, pure, Option.some.injEq] at h
        obtain ⟨x, h1, y, h2, z, h3, h4⟩ := h
        cases h4
      · cases h
    · simp only [bind, Option.bind_eq_some_iff, pure, Option.some.injEq] at h
      obtain ⟨x, h1, h2⟩ := h
      cases h2
  · simp only [bind, Option.bind_eq_some_iff, pure, Option.some.injEq] at h
    obtain ⟨x, h1, h2⟩ := h
    cases h2
/-- a comprehension, whatever is done with it -/
structure LcOk (X : Cx) (W : WX) (P : Prog) (n : Nat) (elt : Expr) (gens : List Comprehension) (scope : Scope) (ex : Ex) : Prop where
  one : (∃ (tg iter : Expr) (ifs : List Expr) (own : List (Str × Nat)) (g : L2.TG) (tt : L2.TT) (te : L2.TE) (wi : L2.TI), gens = [⟨tg, iter, ifs, 0⟩] ∧ PI X tg iter wi ∧ BlkOk X.N X.env.scope scope own ∧
      (∀ (s : Shared) (H : Hp) (C : Addr) (cl : List (Str × Addr)) (fp : List Addr), PG (X.blk s H scope (compEnvC scope cl C X.env) fp) tg g) ∧ (∀ (s : Shared) (H : Hp) (C : Addr) (cl : List (Str × Addr)) (fp : List Addr), PTs (X.blk s H scope (compEnvC scope cl C X.env) fp) ifs tt) ∧
      (∀ (s : Shared) (H : Hp) (C : Addr) (cl : List (Str × Addr)) (fp : List Addr), PE (X.blk s H scope (compEnvC scope cl C X.env) fp) elt te) ∧ (∀ x, foldedSetIterable iter X.env x = pure x) ∧
      ∀ σ H Q, eOf X W (wX (wC P n) P.gl ex) σ H Q → tLc wi g tt te (own.map (·.2)) σ H Q) ∨
    (∃ (tg iter tg1 iter1 : Expr) (own : List (Str × Nat)) (g g1 : L2.TG) (te : L2.TE) (wi wi1 : L2.TI) (vs1 : List Nat), gens = [⟨tg, iter, [], 0⟩, ⟨tg1, iter1, [], 0⟩] ∧ (∀ i ∈ vs1, i ∈ own.map (·.2)) ∧ PI X tg iter wi ∧ BlkOk X.N X.env.scope scope own ∧
      (∀ (s : Shared) (H : Hp) (C : Addr) (cl : List (Str × Addr)) (fp : List Addr), PG (X.blk s H scope (compEnvC scope cl C X.env) fp) tg g) ∧ (∀ (s : Shared) (H : Hp) (C : Addr) (cl : List (Str × Addr)) (fp : List Addr), PI (X.blk s H scope (compEnvC scope cl C X.env) fp) tg1 iter1 wi1) ∧
      (∀ (s : Shared) (H : Hp) (C : Addr) (cl : List (Str × Addr)) (fp : List Addr), PG (X.blk s H scope (compEnvC scope cl C X.env) fp) tg1 g1) ∧
      (∀ (s : Shared) (H : Hp) (C : Addr) (cl : List (Str × Addr)) (fp : List Addr), PE (X.blk s H scope (compEnvC scope cl C X.env) fp) elt te) ∧ (∀ x, foldedSetIterable iter X.env x = pure x) ∧ (∀ env x, foldedSetIterable iter1 env x = pure x) ∧
      ∀ σ H Q, eOf X W (wX (wC P n) P.gl ex) σ H Q → tLc2 wi g tYes wi1 g1 tYes te (own.map (·.2)) vs1 σ H Q)
theorem lc_ok {P : Prog} {n : Nat} {F : Str → Bool} {N : List Str} {m : Nat} (ih : EOk P n F N m) {sc : Scope} {X : Cx} {W : WX} (S : Sit P n X W) (hs : X.env.scope = sc) (hN : X.N = N) {elt : Expr} {gens : List Comprehension} {scope : Scope} {pos : Pos} {ex : Ex}
    (h : trE F N (m + 1) sc (.ListComp elt gens scope pos) = some ex) : LcOk X W P n elt gens scope ex := by
  have S' := fun (s : Shared) (H : Hp) (C : Addr) (cl : List (Str × Addr)) (fp : List Addr) => S.blk s H scope (compEnvC scope cl C X.env) fp
  have es : ∀ (s : Shared) (H : Hp) (C : Addr) (cl : List (Str × Addr)) (fp : List Addr), (X.blk s H scope (compEnvC scope cl C X.env) fp).env.scope = relS scope sc := fun s H C cl fp => by rw [← hs]; rfl
  unfold trE at h
  simp only at h
  split at h
  · -- one clause
    rename_i t it ifs
    split at h
    · rename_i hb
      simp only [bind, Option.bind_eq_some_iff, pure, Option.some.injEq] at h
      obtain ⟨t', h1, h⟩ := h
      split at h
      · rename_i ht
        simp only [bind, Option.bind_eq_some_iff, pure, Option.some.injEq] at h
        obtain ⟨it', h2, e', h3, h⟩ := h
        have hb' : BlkOk X.N X.env.scope scope (ownOf N scope.names) := by rw [hs, hN]; exact blkOk_by hb
        have hg := fun (s : Shared) (H : Hp) (C : Addr) (cl : List (Str × Addr)) (fp : List Addr) => s_tgt (X := X.blk s H scope (compEnvC scope cl C X.env) fp) (p := ((ownOf N scope.names).map (·.2)).contains) (ok := locB scope) S.calm S.nd hN (fun x hx => blk_ok hx) 4 t t' h1 ht
        have he := fun (s : Shared) (H : Hp) (C : Addr) (cl : List (Str × Addr)) (fp : List Addr) => (ih _ elt e' h3 _ _ (S' s H C cl fp) (es s H C cl fp) hN).1
        have hi := s_it (tg := t) ih S hs hN h2
        split at h
        · cases h
          exact ⟨.inl ⟨t, it, [], _, _, _, _, _, rfl, hi, hb', hg, fun _ _ _ _ _ => pts_nil, he, plain_fold (trI_plain h2) X.env, fun σ H Q q => s_lc1 (fun σ env => step_c) q⟩⟩
        · rename_i c
          simp only [bind, Option.bind_eq_some_iff, pure, Option.some.injEq] at h
          obtain ⟨c', h4, rfl⟩ := h
          have hc := fun (s : Shared) (H : Hp) (C : Addr) (cl : List (Str × Addr)) (fp : List Addr) => pts_one (ih _ c c' h4 _ _ (S' s H C cl fp) (es s H C cl fp) hN).2
          exact ⟨.inl ⟨t, it, [c], _, _, _, _, _, rfl, hi, hb', hg, hc, he, plain_fold (trI_plain h2) X.env, fun σ H Q q => s_lc1 (fun σ env => step_ci) q⟩⟩
        · cases h
      · cases h
    · cases h
  · -- two
    rename_i t it t1 it1
    split at h
    · rename_i hb
      simp only [bind, Option.bind_eq_some_iff, pure, Option.some.injEq] at h
      obtain ⟨t', h1, t1', h1', h⟩ := h
      split at h
      · rename_i ht
        rw [Bool.and_eq_true] at ht
        have ht2 := ht.2
        rw [Bool.and_eq_true] at ht2
        have hv : ∀ i ∈ tgIdx t1', i ∈ (ownOf N scope.names).map (·.2) := fun i hi => by simpa using List.all_eq_true.mp ht2.2 i hi
        simp only [bind, Option.bind_eq_some_iff, pure, Option.some.injEq] at h
        obtain ⟨it', h2, it1', h2', e', h3, rfl⟩ := h
        have hb' : BlkOk X.N X.env.scope scope (ownOf N scope.names) := by rw [hs, hN]; exact blkOk_by hb
        have hg := fun (s : Shared) (H : Hp) (C : Addr) (cl : List (Str × Addr)) (fp : List Addr) => s_tgt (X := X.blk s H scope (compEnvC scope cl C X.env) fp) (p := ((ownOf N scope.names).map (·.2)).contains) (ok := locB scope) S.calm S.nd hN (fun x hx => blk_ok hx) 4 t t' h1 ht.1
        have hg1 := fun (s : Shared) (H : Hp) (C : Addr) (cl : List (Str × Addr)) (fp : List Addr) => s_tgt (X := X.blk s H scope (compEnvC scope cl C X.env) fp) (p := (tgIdx t1').contains) (ok := locB scope) S.calm S.nd hN (fun x hx => blk_ok hx) 4 t1 t1' h1' ht2.1
        have he := fun (s : Shared) (H : Hp) (C : Addr) (cl : List (Str × Addr)) (fp : List Addr) => (ih _ elt e' h3 _ _ (S' s H C cl fp) (es s H C cl fp) hN).1
        have hi := s_it (tg := t) ih S hs hN h2
        have hi1 := fun (s : Shared) (H : Hp) (C : Addr) (cl : List (Str × Addr)) (fp : List Addr) => s_it (tg := t1) ih (S' s H C cl fp) (es s H C cl fp) hN h2'
        exact ⟨.inr ⟨t, it, t1, it1, _, _, _, _, _, _, _, rfl, hv, hi, hb', hg, hi1, hg1, he, plain_fold (trI_plain h2) X.env, fun env x => plain_fold (trI_plain h2') env x, fun σ H Q q => s_lc2 q⟩⟩
      · cases h
    · cases h
  · cases h
theorem sE {P : Prog} {n : Nat} {F : Str → Bool} {N : List Str} (hF : ∀ f, F f = true → P.fn f ≠ none) : ∀ m, EOk P n F N m
  | 0 => fun sc e ex h => by unfold trE at h; cases h
  | m + 1 => by
    have ih := sE hF m (n := n) (N := N)
    intro sc e ex h X W S hs hN
    have hu := S.hu
    cases e with
    | Constant c k pos =>
      unfold trE at h
      obtain ⟨d, hd, rfl⟩ := Option.map_eq_some_iff.mp h
      obtain ⟨v, g1, g2⟩ := s_const (X := X) (k := k) (pos := pos) hd
      have g := s_lit (W := W) g1 g2
      exact ⟨g, s_truth g fun _ => rfl⟩
    | Name x pos =>
      unfold trE at h
      simp only at h
      split at h
      · rename_i ho
        obtain ⟨d1, d2, d3⟩ := okN_d ho
        split at h
        · rename_i hv
          obtain ⟨i, hi, rfl⟩ := Option.map_eq_some_iff.mp h
          have g := s_var (W := W) (pe_var (pos := pos) (hN ▸ slot_at hi) (vis_of hs hv) d1 d2)
          exact ⟨g, s_truth g fun _ => rfl⟩
        · split at h
          · rename_i hg
            rw [Bool.and_eq_true] at hg
            cases h
            have g := s_glo S (pos := pos) (glo_of hs hg.1) d1
            exact ⟨g, s_truth g fun _ => rfl⟩
          · cases h
      · cases h
    | BinOp a op b pos =>
      unfold trE at h
      simp only [bind, Option.bind_eq_some_iff, pure, Option.some.injEq] at h
      obtain ⟨o, h0, x, h1, y, h2, rfl⟩ := h
      cases trOp_eq h0
      have g := s_bin o (pos := pos) (ih sc a x h1 X W S hs hN).1 (ih sc b y h2 X W S hs hN).1
      exact ⟨g, s_truth g fun _ => rfl⟩
    | UnaryOp op a pos =>
      unfold trE at h
      cases op with
      | Not =>
        simp only [bind, Option.bind_eq_some_iff, pure, Option.some.injEq] at h
        obtain ⟨x, h1, rfl⟩ := h
        exact s_not (ih sc a x h1 X W S hs hN)
      | USub =>
        simp only [bind, Option.bind_eq_some_iff, pure, Option.some.injEq] at h
        obtain ⟨x, h1, rfl⟩ := h
        have g := s_neg (pos := pos) (ih sc a x h1 X W S hs hN).1
        exact ⟨g, s_truth g fun _ => rfl⟩
      | _ => cases h
    | BoolOp op es pos =>
      unfold trE at h
      obtain ⟨g1, g2⟩ := s_bool (pos := pos) ih S hs hN h
      exact ⟨g1, g2.pt⟩
    | IfExp c a b pos =>
      unfold trE at h
      simp only [bind, Option.bind_eq_some_iff, pure, Option.some.injEq] at h
      obtain ⟨z, h0, x, h1, y, h2, rfl⟩ := h
      exact s_ite (mX (wC_mono P n) x) (mX (wC_mono P n) y) (ih sc c z h0 X W S hs hN).2 (ih sc a x h1 X W S hs hN) (ih sc b y h2 X W S hs hN)
    | Compare a ops bs pos =>
      unfold trE at h
      simp only at h
      split at h
      · split at h
        · rename_i neg hneg
          simp only [bind, Option.bind_eq_some_iff, pure, Option.some.injEq] at h
          obtain ⟨c, h0, x, h1, rfl⟩ := h
          cases trIs_eq hneg
          obtain ⟨v, g1, g2⟩ := s_isC (X := X) h0
          exact s_isc neg c (ih sc a x h1 X W S hs hN).1 g1 g2
        · simp only [bind, Option.bind_eq_some_iff, pure, Option.some.injEq] at h
          obtain ⟨o1, h0, x, h1, y, h2, rfl⟩ := h
          cases trCop_eq h0
          exact s_cmp hu o1 (ih sc a x h1 X W S hs hN).1 (ih sc _ y h2 X W S hs hN).1 (plain_mark (trE_plain h2) _)
      · simp only [bind, Option.bind_eq_some_iff, pure, Option.some.injEq] at h
        obtain ⟨o1, h0, o2, h0', x, h1, y, h2, z, h3, rfl⟩ := h
        cases trCop_eq h0
        cases trCop_eq h0'
        exact s_chain hu o1 o2 (ih sc a x h1 X W S hs hN).1 (ih sc _ y h2 X W S hs hN).1 (ih sc _ z h3 X W S hs hN).1 (by
          show behindInMarks _ _ = false
          exact plain_mark (trE_plain h3) _)
      · cases h
    | Tuple es k pos =>
      unfold trE at h
      obtain ⟨r, hr, rfl⟩ := Option.map_eq_some_iff.mp h
      have g := s_tup (pos := pos) (k := k) (s_es ih S hs hN hr).1
      exact ⟨g, s_truth g fun _ => rfl⟩
    | List es pos =>
      unfold trE at h
      obtain ⟨r, hr, rfl⟩ := Option.map_eq_some_iff.mp h
      have g := s_lst (pos := pos) (s_es ih S hs hN hr).1
      exact ⟨g, s_truth g fun _ => rfl⟩
    | Call f es ks pos =>
      suffices g : PE X (.Call f es ks pos) (eOf X W (wX (wC P n) P.gl ex)) from ⟨g, s_truth g fun _ => rfl⟩
      cases ks with
      | cons _ _ =>
        unfold trE at h
        cases h
      | nil =>
      unfold trE at h
      simp only at h
      split at h
      · -- a name
        rename_i x p
        split at h
        · rename_i ho
          obtain ⟨d1, d2, d3⟩ := okN_d ho
          split at h
          · rename_i hv
            split at h
            · cases h
            · simp only [bind, Option.bind_eq_some_iff, pure, Option.some.injEq] at h
              obtain ⟨i, hi, r, hr, rfl⟩ := h
              obtain ⟨g1, g2, _⟩ := s_es ih S hs hN hr
              cases es with
              | nil => exact absurd rfl (by assumption)
              | cons e es => exact s_callv S (hN ▸ slot_at hi) (vis_of hs hv) d1 d2 g2 g1
          · split at h
            · rename_i hg
              have hG := glo_of hs hg
              split at h
              · split at h
                · rename_i a
                  split at h
                  · simp only [bind, Option.bind_eq_some_iff, pure, Option.some.injEq] at h
                    obtain ⟨b, hb, y, h1, rfl⟩ := h
                    exact s_b1 S hb hG (trE_plain h1) (ih sc _ y h1 X W S hs hN).1
                  · rename_i hi
                    obtain ⟨p2, a', pos2, rfl, hr, h1⟩ := trI_1 hi
                    split at h
                    · rename_i hx; cases h
                      exact s_rng1 S true hx hG (glo_of hs hr) (trE_plain h1) (ih sc _ _ h1 X W S hs hN).1
                    · split at h
                      · rename_i hx; cases h
                        exact s_rng1 S false hx hG (glo_of hs hr) (trE_plain h1) (ih sc _ _ h1 X W S hs hN).1
                      · cases h
                  · rename_i hi
                    obtain ⟨p2, a', b', pos2, rfl, hr, h1, h2⟩ := trI_2 hi
                    split at h
                    · rename_i hx; cases h
                      exact s_rng2 S true hx hG (glo_of hs hr) (trE_plain h1) (trE_plain h2) (ih sc _ _ h1 X W S hs hN).1 (ih sc _ _ h2 X W S hs hN).1
                    · split at h
                      · rename_i hx; cases h
                        exact s_rng2 S false hx hG (glo_of hs hr) (trE_plain h1) (trE_plain h2) (ih sc _ _ h1 X W S hs hN).1 (ih sc _ _ h2 X W S hs hN).1
                      · cases h
                  · cases h
                  · split at h
                    · rename_i b hb
                      simp only [bind, Option.bind_eq_some_iff, pure, Option.some.injEq] at h
                      obtain ⟨y, h1, rfl⟩ := h
                      obtain ⟨rfl, p2, q2, rfl, hs2⟩ := setA_eq hb
                      exact s_lens S.calm hG (S.blt _ (by decide +kernel)) (glo_of hs hs2) (S.blt _ (by decide +kernel)) (ih sc _ y h1 X W S hs hN).1 (plain_star (trE_plain h1) [] _)
                    · split at h
                      · rename_i b hb
                        simp only [bind, Option.bind_eq_some_iff, pure, Option.some.injEq] at h
                        obtain ⟨y, h1, rfl⟩ := h
                        obtain ⟨rfl, p2, q2, rfl, hs2⟩ := setB_eq hb
                        exact s_sset S.calm hG (S.blt _ (by decide +kernel)) (glo_of hs hs2) (S.blt _ (by decide +kernel)) (ih sc _ y h1 X W S hs hN).1 (plain_star (trE_plain h1) [] _)
                      · cases h
                · rename_i a b
                  split at h
                  · rename_i hx
                    cases hx
                    split at h
                    · split at h
                      · rename_i hgt
                        simp only [bind, Option.bind_eq_some_iff, pure, Option.some.injEq] at h
                        obtain ⟨ty, hty, y, h1, rfl⟩ := h
                        exact s_isa S hty hG (glo_of hs hgt) (trE_plain h1) (ih sc _ y h1 X W S hs hN).1
                      · cases h
                    · cases h
                  · simp only [bind, Option.bind_eq_some_iff, pure, Option.some.injEq] at h
                    obtain ⟨o, ho, y, h1, z, h2, rfl⟩ := h
                    exact s_b2 S ho hG (trE_plain h1) (trE_plain h2) (ih sc _ y h1 X W S hs hN).1 (ih sc _ z h2 X W S hs hN).1
                · cases h
              · split at h
                · rename_i hf
                  simp only [bind, Option.bind_eq_some_iff, pure, Option.some.injEq] at h
                  obtain ⟨r, hr, rfl⟩ := h
                  obtain ⟨g1, g2, g3⟩ := s_es ih S hs hN hr
                  exact s_call S (hF _ hf) hG d1 g2 g1 g3
                · cases h
            · cases h
        · cases h
      · -- a method
        rename_i o nm apos
        split at h
        · rename_i hl
          simp only [bind, Option.bind_eq_some_iff, pure, Option.some.injEq] at h
          obtain ⟨k, hk, x, h1, r, hr, rfl⟩ := h
          obtain ⟨g1, g2, g3⟩ := s_es ih S hs hN hr
          exact s_mt hu hk hl (trE_plain h1) g2 (ih sc _ x h1 X W S hs hN).1 g1 g3
        · cases h
      · cases h
    | Subscript a i pos =>
      suffices g : PE X (.Subscript a i pos) (eOf X W (wX (wC P n) P.gl ex)) from ⟨g, s_truth g fun _ => rfl⟩
      unfold trE at h
      simp only at h
      split at h
      · split at h
        · simp only [bind, Option.bind_eq_some_iff, pure, Option.some.injEq] at h
          obtain ⟨x, h1, l, h2, u, h3, rfl⟩ := h
          exact s_sl (ih sc a x h1 X W S hs hN).1 (s_o ih S hs hN h2) (s_o ih S hs hN h3)
        · simp only [bind, Option.bind_eq_some_iff, pure, Option.some.injEq] at h
          obtain ⟨k, hk, x, h1, l, h2, u, h3, rfl⟩ := h
          exact s_sls hk (ih sc a x h1 X W S hs hN).1 (s_o ih S hs hN h2) (s_o ih S hs hN h3)
      · simp only [bind, Option.bind_eq_some_iff, pure, Option.some.injEq] at h
        obtain ⟨x, h1, y, h2, rfl⟩ := h
        exact s_ix (ih sc a x h1 X W S hs hN).1 (ih sc _ y h2 X W S hs hN).1 (plain_ix (trE_plain h2))
    | ListComp elt gens scope pos =>
      suffices g : PE X (.ListComp elt gens scope pos) (eOf X W (wX (wC P n) P.gl ex)) from ⟨g, s_truth g fun _ => rfl⟩
      rcases (lc_ok ih S hs hN h).one with ⟨tg, iter, ifs, own, g, tt, te, wi, rfl, h1, h2, h3, h4, h5, h6, h7⟩ | ⟨tg, iter, tg1, iter1, own, g, g1, te, wi, wi1, vs1, rfl, hv, h1, h2, h3, h4, h5, h6, h7, h8, h9⟩
      · exact PE_le (pe_lc S.calm S.nd h1 h2 h3 h4 h5 h6) h7
      · exact PE_le (pe_lc2 S.calm S.nd h1 h2 hv h3 (fun _ _ _ _ _ => pts_nil) h4 h5 (fun _ _ _ _ _ => pts_nil) h6 h7 h8) h9
    | _ => unfold trE at h; cases h
end Py
namespace Py
open L2 PySem.Spec PySem PyProof.Rows
/-! ### what a caught error is -/
structure IsF (K : PySem.W.Frag) (M : Str → Option Value) (D : Addr) (t : Str) (k : Bool) : Prop where
  exc : ExcC K D
  cl : (M t = none ∧ ∃ s, bootBuiltins t = some (.type s) ∧ t ≠ "__name__" ∧ PySem.W.kitOne K (.ref D) (.type s) = some k) ∨ (∃ b, M t = some (.ref b) ∧ PySem.W.kitOne K (.ref D) (.ref b) = some k)
/-- the slot i holds the error a; the word v is given -/
def tItem (i : Nat) (a : Addr) (v : Bool) : TE := fun σ H Q => σ[i]? = some (some (.ref a)) ∧ Q (.bl v) H
section
variable {X : Cx} {a D : Addr} {oe : Obj} {pn : List (Addr × Obj)} {i : Nat} {n t : Str} {k : Bool} {p p2 p3 pos : Pos}
theorem pe_item (hN : X.N[i]? = some n) (hv : Vis X.env.scope n) (hn : okN n = true) (hg : Gl X "isinstance") (hm : X.mg "isinstance" = none) (hgt : Gl X t) (hdt : (t == ("__debug__" : Str)) = false) (F : IsF X.K X.mg D t k) (hz : Zc (.ref D) none oe) (hf : ∃ vs, oe.data = .fields vs) :
    PE (X.suite a ((a, oe) :: pn)) (.Call (.Name "isinstance" p) [.Name n p2, .Name t p3] [] pos) (tItem i a k) := by
  obtain ⟨d1, d2, d3⟩ := okN_d hn
  have he : PE (X.suite a ((a, oe) :: pn)) (.Name n p2) (tVar i) := pe_var hN hv d1 d2
  have key : ∀ (c : V) (cv : Value), (∀ u, RelV c u → u = cv) → PySem.W.kitOne X.K (.ref D) cv = some k → PE (X.suite a ((a, oe) :: pn)) (.Name t p3) (tC c) → PE (X.suite a ((a, oe) :: pn)) (.Call (.Name "isinstance" p) [.Name n p2, .Name t p3] [] pos) (tItem i a k) := fun c cv hc hk ht =>
    PE_le (pe_callB (call_isE F.exc hz hf) hg hm (by decide +kernel) (pa_cons he (pa_cons ht pa_nil rfl) rfl) (by decide) (by decide) rfl rfl) fun σ H Q ⟨h1, h2⟩ => ⟨_, h1, c, cv, k, rfl, hc, hk, h2⟩
  rcases F.cl with ⟨h1, s, h2, h3, h4⟩ | ⟨b, h1, h2⟩
  · exact key (.ty s) (.type s) (fun u r => r) h4 (pe_bltn hgt h1 h2 rfl h3 hdt)
  · exact key (.ref b) (.ref b) (fun u r => r) h2 (pe_glob hgt h1 rfl hdt)
theorem pe_one_item {sc : Scope} {sub : Str → Str → Option Bool} {y : Str} {e : Expr} {g b : Bool} (hN : X.N[i]? = some n) (hv : Vis X.env.scope n) (hn : okN n = true) (hm : X.mg "isinstance" = none) (hs : X.env.scope = sc) (hz : Zc (.ref D) none oe) (hf : ∃ vs, oe.data = .fields vs)
    (F : ∀ t k, sub y (isaN t) = some k → IsF X.K X.mg D t k) (h : isItem sc n e = some (g, t)) (hb : sub y (isaN t) = some b) : PE (X.suite a ((a, oe) :: pn)) e (tItem i a (decide (b = g))) := by
  unfold isItem at h
  split at h
  · split at h
    · rename_i c
      cases h
      obtain ⟨rfl, rfl, c3, c4, c5⟩ := c
      refine PE_le (pe_item (a := a) (pn := pn) hN hv hn (glo_of hs c3) hm (glo_of hs c4) c5 (F _ _ hb) hz hf) fun σ H Q ⟨h1, h2⟩ => ⟨h1, ?_⟩
      cases b <;> exact h2
    · cases h
  · split at h
    · rename_i c
      cases h
      obtain ⟨rfl, rfl, c3, c4, c5⟩ := c
      refine PE_le (pe_not (pe_item (a := a) (pn := pn) hN hv hn (glo_of hs c3) hm (glo_of hs c4) c5 (F _ _ hb) hz hf)) fun σ H Q ⟨h1, h2⟩ => ⟨h1, b, rfl, ?_⟩
      cases b <;> exact h2
    · cases h
  · cases h
theorem pe_items {sc : Scope} {sub : Str → Str → Option Bool} {y : Str} (hN : X.N[i]? = some n) (hv : Vis X.env.scope n) (hn : okN n = true) (hm : X.mg "isinstance" = none) (hs : X.env.scope = sc) (hz : Zc (.ref D) none oe) (hf : ∃ vs, oe.data = .fields vs)
    (F : ∀ t k, sub y (isaN t) = some k → IsF X.K X.mg D t k) : ∀ (es : List Expr) (ts : List (Bool × Str)) (v : Bool), isItems sc n es = some ts → isaAll sub y ts = some v → PE (X.suite a ((a, oe) :: pn)) (.BoolOp .And es pos) (tItem i a v)
  | [], ts, v, h, _ => by cases h
  | [e], ts, v, h, hv2 => by
    obtain ⟨⟨g, t⟩, h1, rfl⟩ := Option.map_eq_some_iff.mp h
    unfold isaAll at hv2
    obtain ⟨b, hb, hv2⟩ := Option.bind_eq_some_iff.mp hv2
    have := pe_one (op := .And) (pos := pos) (pe_one_item (a := a) (pn := pn) hN hv hn hm hs hz hf F h1 hb)
    by_cases z : b = g
    · rw [if_pos z] at hv2
      cases hv2
      rwa [decide_eq_true z] at this
    · rw [if_neg z] at hv2
      cases hv2
      rwa [decide_eq_false z] at this
  | e :: e2 :: r, ts, v, h, hv2 => by
    unfold isItems at h
    simp only [bind, Option.bind_eq_some_iff, pure, Option.some.injEq] at h
    obtain ⟨⟨g, t⟩, h1, ts2, h2, rfl⟩ := h
    unfold isaAll at hv2
    obtain ⟨b, hb, hv2⟩ := Option.bind_eq_some_iff.mp hv2
    have p1 := pe_one_item (a := a) (pn := pn) hN hv hn hm hs hz hf F h1 hb
    by_cases z : b = g
    · rw [if_pos z] at hv2
      rw [decide_eq_true z] at p1
      have p2 := pe_items hN hv hn hm hs hz hf F (e2 :: r) ts2 v h2 hv2
      exact PE_le (pe_and p1 p2) fun σ H Q ⟨q1, q2⟩ => ⟨q1, true, rfl, q1, q2⟩
    · rw [if_neg z] at hv2
      cases hv2
      rw [decide_eq_false z] at p1
      cases ek : isaAll sub y ts2 with
      | some v2 => exact PE_le (pe_and p1 (pe_items hN hv hn hm hs hz hf F (e2 :: r) ts2 v2 h2 ek)) fun σ H Q ⟨q1, q2⟩ => ⟨q1, false, rfl, q2⟩
      | none => exact PE_le (pe_and p1 (tb := fun _ _ _ => False) ⟨fun _ _ _ _ _ _ z => z.elim⟩) fun σ H Q ⟨q1, q2⟩ => ⟨q1, false, rfl, q2⟩
end
end Py
namespace Py
open L2 PySem.Spec PySem PyProof.Rows
structure KsOk (K : PySem.W.Frag) (M : Str → Option Value) (W : WX) (h : AH) (H : Hp) (k : Ks) (D : Ends) : Prop where
  nx : ∀ env' h' σ' H', k.nx env' h' → Tr h H h' H' → RelH K M h' H' → RelS K M H' σ' env' → D.nx σ' H'
  rt : ∀ d h' v H', k.rt d h' → Tr h H h' H' → RelH K M h' H' → Rep K M H' v d → D.rt v H'
  bk : ∀ env' h' σ' H', k.bk env' h' → Tr h H h' H' → RelH K M h' H' → RelS K M H' σ' env' → D.bk σ' H'
  ct : ∀ env' h' σ' H', k.ct env' h' → Tr h H h' H' → RelH K M h' H' → RelS K M H' σ' env' → D.ct σ' H'
  ex : ∀ env' c h' σ' H' a, k.ex env' c h' → Tr h H h' H' → RelH K M h' H' → RelS K M H' σ' env' → M c = some (.ref a) → W (.ref a) none σ' H'
def tsOf (K : PySem.W.Frag) (M : Str → Option Value) (W : WX) (m : TS) : L2.TS := fun D σ H => ∃ env h k, RelH K M h H ∧ RelS K M H σ env ∧ m env h k ∧ KsOk K M W h H k D
abbrev sOf (X : Cx) (W : WX) (m : TS) : L2.TS := tsOf X.K X.mg W m
section
variable {K : PySem.W.Frag} {M : Str → Option Value} {W : WX} {h h' : AH} {H H' : Hp} {k : Ks} {Dn : Ends} {σ : L2.St} {env : Env}
theorem KsOk.go (o : KsOk K M W h H k Dn) (t : Tr h H h' H') : KsOk K M W h' H' k Dn :=
  ⟨fun e2 h2 s2 H2 q t2 => o.nx e2 h2 s2 H2 q (t.trans t2), fun d h2 v H2 q t2 => o.rt d h2 v H2 q (t.trans t2), fun e2 h2 s2 H2 q t2 => o.bk e2 h2 s2 H2 q (t.trans t2), fun e2 h2 s2 H2 q t2 => o.ct e2 h2 s2 H2 q (t.trans t2),
    fun e2 c h2 s2 H2 a q t2 => o.ex e2 c h2 s2 H2 a q (t.trans t2)⟩
theorem KsOk.now (o : KsOk K M W h H k Dn) (rel : RelH K M h H) (rs : RelS K M H σ env) : Now K M W σ env h H (k.ex env) := ⟨rel, rs, fun c h2 H2 a x t r e => o.ex env c h2 σ H2 a x t r (rs.mono (t.mn rel)) e⟩
/-- a value that is kept -/
theorem tE_of {a : TX} {Q0 : D → AH → Prop} {X0 : Xc} {Q : VK} (nw : Now K M W σ env h H X0) (q : tE a env h Q0 X0) (hq : ∀ d h' v H', Q0 d h' → Tr h H h' H' → RelH K M h' H' → Rep K M H' v d → Q v H') : tOf K M W a σ H Q :=
  ⟨env, h, _, X0, nw, q, fun r h1 v1 H1 q1 t1 r1 p1 => by
    obtain ⟨d, h2, q2, t2, r2, p2⟩ := rv_take q1 t1 r1 p1
    exact hq d h2 v1 H1 q2 t2 r2 p2⟩
end
/-- the sight of a body's statements -/
structure SitS (P : Prog) (n : Nat) (Xs : Str → Bool) (X : Cx) (W : WX) : Prop where
  s : Sit P n X W
  kind :
      X.env.scope.kind = .function
  fn : ∀ x, X.fn x = true
  po : PassesOwn (model X.prog X.w) X.A X.env X.xe
  stk : X.stack = X.env :: X.outer
  frm : X.env.frame = some X.env.locals
  cls : ∀ c, Xs c = true → ∃ C, X.mg c = some (.ref C) ∧ PySem.W.keepIn X.K (.ref C) = true ∧ Raises X (.ref C) ∧ ∃ B newId initId bmB, ExcBaseFacts B newId initId bmB ∧ PySem.W.excIn X.K C bmB newId = true
  isa : ∀ x t k a, P.sub x (isaN t) = some k → X.mg x = some (.ref a) → IsF X.K X.mg a t k
  sub : ∀ x c k a b, isI c = false → P.sub x c = some k → X.mg x = some (.ref a) → X.mg c = some (.ref b) → PySem.W.exmOne X.K (.ref a) (.ref b) = some k
section
variable {X : Cx} {W : WX} {P : Prog} {n : Nat} {Xs : Str → Bool} {a b c e : Expr} {pos : Pos} {ma mb mc : TX} {m1 m2 : TS} {st : Stmt} {s1 s2 : List Stmt} {i : Nat} {x : Str}
theorem z_pass : PS X (.Pass pos) (sOf X W sPass) := PS_le ps_pass fun D σ H ⟨env, h, k, rel, rs, q, o⟩ => o.nx _ _ _ _ q .refl rel rs
theorem z_doc {y : Str} {j : Nat} {p2 : Pos} : PS X (.Expr (.Constant (.str y) j p2) pos) (sOf X W sPass) := PS_le ps_doc fun D σ H ⟨env, h, k, rel, rs, q, o⟩ => o.nx _ _ _ _ q .refl rel rs
theorem z_brk : PS X (.Break pos) (sOf X W sBrk) := PS_le ps_break fun D σ H ⟨env, h, k, rel, rs, q, o⟩ => o.bk _ _ _ _ q .refl rel rs
theorem z_cnt : PS X (.Continue pos) (sOf X W sCnt) := PS_le ps_continue fun D σ H ⟨env, h, k, rel, rs, q, o⟩ => o.ct _ _ _ _ q .refl rel rs
theorem z_nil : PSs X [] (sOf X W sPass) := PSs_le pss_nil fun D σ H ⟨env, h, k, rel, rs, q, o⟩ => o.nx _ _ _ _ q .refl rel rs
theorem z_cons (g1 : PS X st (sOf X W m1)) (g2 : PSs X s2 (sOf X W m2)) : PSs X (st :: s2) (sOf X W (bCons m1 m2)) :=
  PSs_le (pss_cons g1 g2) fun D σ H ⟨env, h, k, rel, rs, q, o⟩ => ⟨env, h, _, rel, rs, q, ⟨fun e1 h1 σ1 H1 q1 t1 r1 s1 => ⟨e1, h1, k, r1, s1, q1, o.go t1⟩, o.rt, o.bk, o.ct, o.ex⟩⟩
theorem z_ret (ha : PE X a (eOf X W ma)) : PS X (.Return (some a) pos) (sOf X W (sRet ma)) := PS_le (ps_ret ha) fun D σ H ⟨env, h, k, rel, rs, q, o⟩ => tE_of (o.now rel rs) q o.rt
theorem z_retn : PS X (.Return none pos) (sOf X W sRetn) := PS_le ps_retN fun D σ H ⟨env, h, k, rel, rs, q, o⟩ => o.rt _ _ _ _ q .refl rel .non
theorem z_expr (ha : PE X a (eOf X W ma)) (hs : swapsWith a none pos.line X.env = pure false) : PS X (.Expr a pos) (sOf X W (sExpr ma)) := PS_le (ps_expr ha hs) fun D σ H ⟨env, h, k, rel, rs, q, o⟩ =>
  ⟨env, h, _, _, o.now rel rs, q, fun r h1 v1 H1 q1 t1 r1 p1 => o.nx _ _ _ _ q1 t1 r1 (rs.mono (t1.mn rel))⟩
theorem z_if (hc : PT X c (cOf X W mc)) (g1 : PSs X s1 (sOf X W m1)) (g2 : PSs X s2 (sOf X W m2)) : PS X (.If c s1 s2 pos) (sOf X W (sIf mc m1 m2)) :=
  PS_le (ps_if hc g1 g2) fun D σ H ⟨env, h, k, rel, rs, q, o⟩ => ⟨env, h, _, _, o.now rel rs, q, fun b h1 H1 q1 t1 r1 => by
    cases b with
    | true => exact ⟨env, h1, k, r1, rs.mono (t1.mn rel), q1, o.go t1⟩
    | false => exact ⟨env, h1, k, r1, rs.mono (t1.mn rel), q1, o.go t1⟩⟩
theorem KsOk.turn {K : PySem.W.Frag} {M : Str → Option Value} {W : WX} {h : AH} {H : Hp} {k : Ks} {D : Ends} (o : KsOk K M W h H k D) {nx : Env → AH → Prop} {N : L2.St → Hp → Prop}
    (hN : ∀ env' h' σ' H', nx env' h' → Tr h H h' H' → RelH K M h' H' → RelS K M H' σ' env' → N σ' H') : KsOk K M W h H (k.turn nx) { D with nx := N, ct := N, bk := D.nx } := ⟨hN, o.rt, o.nx, hN, o.ex⟩
theorem z_whl (S : SitS P n Xs X W) (hc : PT X c (cOf X W mc)) (g1 : PSs X s1 (sOf X W m1)) : PS X (.While c s1 [] pos) (sOf X W (sWhl mc m1)) :=
  PS_le (ps_while S.po hc g1) fun D σ H ⟨env, h, k, rel, rs, ⟨W1, ⟨m0, w0⟩, q⟩, o⟩ =>
    ⟨fun m σ' H' => ∃ env' h', W1 m env' h' ∧ Tr h H h' H' ∧ RelH X.K X.mg h' H' ∧ RelS X.K X.mg H' σ' env', ⟨m0, env, h, w0, .refl, rel, rs⟩, fun m σ' H' ⟨env', h', w, t, r, s⟩ =>
      ⟨env', h', _, _, (o.go t).now r s, q m env' h' w, fun b h1 H1 q1 t1 r1 => by
        cases b with
        | true =>
          refine ⟨fun σ2 H2 => ∃ m', m' < m ∧ ∃ env2 h2, W1 m' env2 h2 ∧ Tr h H h2 H2 ∧ RelH X.K X.mg h2 H2 ∧ RelS X.K X.mg H2 σ2 env2, fun σ2 H2 z => z, env', h1, _, r1, s.mono (t1.mn r), q1, ?_⟩
          exact (o.go (t.trans t1)).turn fun e2 h2 σ2 H2 ⟨m', hm, w2⟩ t2 r2 s2 => ⟨m', hm, e2, h2, w2, (t.trans t1).trans t2, r2, s2⟩
        | false => exact o.nx _ _ _ _ q1 (t.trans t1) r1 (s.mono (t1.mn r))⟩⟩
theorem z_for {tg it : Expr} {mi : TI} {mt : TG} (S : SitS P n Xs X W) (hi : PI X tg it (iOf X W mi)) (ht : PG X tg (gOf X (fun _ => true) mt)) (g1 : PSs X s1 (sOf X W m1)) (hf : ∀ x, foldedSetIterable it X.env x = pure x) : PS X (.For tg it s1 [] pos) (sOf X W (sFor mt mi m1)) :=
  PS_le (ps_for S.po S.s.calm hi ht g1 hf) fun D σ H ⟨env, h, k, rel, rs, q, o⟩ => ⟨env, h, _, _, o.now rel rs, q, fun s h1 J H1 q1 t1 r1 wk => by
    refine ⟨fun i m σ' H' => ∃ env' h', m = s.items.length - i ∧ i ≤ s.items.length ∧ wFor s.chk (bdF mt m1 k) k.nx (s.items.drop i) env' h' ∧ Tr h1 H1 h' H' ∧ RelH X.K X.mg h' H' ∧ RelS X.K X.mg H' σ' env',
      ⟨_, env, h1, rfl, Nat.zero_le _, q1, .refl, r1, rs.mono (t1.mn rel)⟩, ?_⟩
    rintro i m σ' H' ⟨env', h', rfl, hi, w, t, r, s'⟩
    by_cases e : i < s.items.length
    · refine .inr ?_
      have hx : s.items[i]? = some s.items[i] := List.getElem?_eq_getElem e
      rw [List.drop_eq_getElem_cons e] at w
      obtain ⟨ck, w⟩ := w
      obtain ⟨go, yl⟩ := (wk h' H' (fun p o n e z => t.keep p o e z) (t.mn r1) r ck i).1 _ hx
      refine ⟨go, fun σ2 H2 => ∃ env2 h2, wFor s.chk (bdF mt m1 k) k.nx (s.items.drop (i + 1)) env2 h2 ∧ Tr h1 H1 h2 H2 ∧ RelH X.K X.mg h2 H2 ∧ RelS X.K X.mg H2 σ2 env2,
        fun σ2 H2 ⟨env2, h2, w2, t2, r2, s2⟩ => ⟨s.items.length - (i + 1), by omega, env2, h2, rfl, e, w2, t2, r2, s2⟩, fun x H2 y => ?_⟩
      obtain ⟨rfl, rx⟩ := yl x H2 y
      refine ⟨_, env', h', _, r, s', rx, w, fun env3 h3 σ3 H3 q3 t3 r3 s3 _ => ⟨env3, h3, _, r3, s3, q3, ?_⟩⟩
      exact (o.go ((t1.trans t).trans t3)).turn fun e2 h2 σ2 H2 w2 t2 r2 s2 => ⟨e2, h2, w2, (t.trans t3).trans t2, r2, s2⟩
    · have ei : i = s.items.length := by omega
      subst ei
      rw [List.drop_length] at w
      exact .inl ⟨(wk h' H' (fun p o n e z => t.keep p o e z) (t.mn r1) r w.1 _).2 (Nat.le_refl _), o.nx _ _ _ _ w.2 (t1.trans t) r s'⟩⟩
theorem z_asg {tg : Expr} {mt : TG} (ha : PE X a (eOf X W ma)) (ht : PG X tg (gOf X (fun _ => true) mt)) (hs : swapsWithSole [tg] a pos.line X.env = pure false) (hw : swappedStores [tg] a X.env = pure none) (h1 : (assignEach [tg] X.env).map (·.2) = [assign tg X.env]) :
    PS X (.Assign [tg] a pos) (sOf X W (sAsg mt ma)) :=
  PS_le (ps_asg ha ht hs hw h1) fun D σ H ⟨env, h, k, rel, rs, q, o⟩ => tE_of (o.now rel rs) q fun d h1 v H1 q1 t1 r1 p1 =>
    ⟨d, env, h1, _, r1, rs.mono (t1.mn rel), p1, q1, fun e2 h2 σ2 H2 q2 t2 r2 s2 _ => o.nx _ _ _ _ q2 (t1.trans t2) r2 s2⟩
/-- name = value: what is shown of the value's reading -/
theorem z_nm {te : L2.TE} (g : PS X st (tAsg te (gName i))) (hle : ∀ σ H Q, eOf X W ma σ H Q → te σ H Q) : PS X st (sOf X W (sAsg (gNm i) ma)) :=
  PS_le g fun D σ H ⟨env, h, k, rel, rs, q, o⟩ => hle _ _ _ (tE_of (o.now rel rs) q fun d h1 v H1 q1 t1 r1 p1 => o.nx _ _ _ _ q1 t1 r1 ((rs.mono (t1.mn rel)).set p1 i))
theorem z_set {o i : Expr} {mo mi : TX} {p2 : Pos} (ha : PE X a (eOf X W ma)) (ho : PE X o (eOf X W mo)) (hi : PE X i (eOf X W mi)) (hs : swapsWithSole [.Subscript o i p2] a pos.line X.env = pure false) (hw : swappedStores [.Subscript o i p2] a X.env = pure none) (hns : plainE i = true) :
    PS X (.Assign [.Subscript o i p2] a pos) (sOf X W (sSet mo mi ma)) :=
  PS_le (ps_asg ha (pg_sub ho hi set_ok (by intro v; cases i <;> first | rfl | cases hns)) hs hw rfl) fun D σ H ⟨env, h, k, rel, rs, q, oo⟩ => tE_of (oo.now rel rs) q fun d h1 v H1 q1 t1 r1 p1 =>
    tE_of ((oo.now rel rs).go t1 r1) q1 fun d2 h2 v2 H2 q2 t2 r2 p2 => tE_of (((oo.now rel rs).go t1 r1).go t2 r2) q2 fun d3 h3 v3 H3 ⟨h4, e4, q4⟩ t3 r3 p3 =>
      ⟨h3, d2, d3, d, h4, r3, p2.mono (t3.mn r2), p3, (p1.mono (t2.mn r1)).mono (t3.mn r2), e4, fun H4 t4 r4 => oo.nx _ _ _ _ q4 (((t1.trans t2).trans t3).trans t4) r4 (rs.mono ((((t1.trans t2).trans t3).trans t4).mn rel))⟩
theorem z_aug (op : Bop) {p2 : Pos} (nd : X.N.Nodup) (hi : X.N[i]? = some x) (hx : Loc X.env.scope x) (hf : X.fn x = true) (ha : PE X a (eOf X W ma)) : PS X (.AugAssign (.Name x p2) (opOf op) a pos) (sOf X W (sAug i op ma)) :=
  PS_le (ps_aug nd hi hx ha (fun pins s σ H x y v u Q I r r' q => augR (aug_ok op) I r r' q) (.inl hf)) fun D σ H ⟨env, h, k, rel, rs, ⟨d, ed, q⟩, o⟩ => by
    obtain ⟨v, ev, rv⟩ := rs.lk ed
    refine ⟨v, ev, env, h, _, _, o.now rel rs, q, fun r h1 v1 H1 ⟨p, ep, q1⟩ t1 r1 p1 => ?_⟩
    refine ⟨h1, d, r, p.1, p.2, r1, rv.mono (t1.mn rel), p1.opd, ep, fun v2 H2 t2 r2 p2 => ?_⟩
    obtain ⟨d2, h3, q3, t3, r3, p3⟩ := rv_take q1 t2 r2 p2
    exact o.nx _ _ _ _ q3 (t1.trans t3) r3 ((rs.mono ((t1.trans t3).mn rel)).set p3 i)
theorem z_rais {m : Str} {j : Nat} {p p2 p3 : Pos} (S : SitS P n Xs X W) (hc : Xs c1 = true) (hg : Gl X c1) (hd : (c1 == ("__debug__" : Str)) = false) : PS X (.Raise (some (.Call (.Name c1 p) [.Constant (.str m) j p2] [] p3)) none pos) (sOf X W (sRais c1)) := by
  obtain ⟨C, h1, h2, h3, B, nw, it, bm, F, h4⟩ := S.cls _ hc
  exact PS_le (ps_raise S.s.calm S.s.tk (pmk_own F h4 h1 h2 h3 hg hd)) fun D σ H ⟨env, h, k, rel, rs, q, o⟩ => o.ex _ _ _ _ _ _ q .refl rel rs h1
theorem z_par {i j : Nat} {y : Str} {b : Expr} {ms : TEs} {px py pt : Pos} {kt k2 : Nat} {pt2 : Pos} (S : SitS P n Xs X W) (hi : X.N[i]? = some x) (hj : X.N[j]? = some y) (hij : i ≠ j) (hx : X.env.scope.names.lookup x = some .local) (hy : X.env.scope.names.lookup y = some .local)
    (ha : PA X [a, b] (aOf X W ms)) (hw : swappedStores [.Tuple [.Name x px, .Name y py] kt pt] (.Tuple [a, b] k2 pt2) X.env = pure (some [x, y])) :
    PS X (.Assign [.Tuple [.Name x px, .Name y py] kt pt] (.Tuple [a, b] k2 pt2) pos) (sOf X W (sAsg (gTp (gCons (gNm i) (gCons (gNm j) gNil))) (xTup ms))) :=
  PS_le (ps_par S.s.calm S.s.nd hi hj hij hx hy ha hw rfl) fun D σ H ⟨env, h, k, rel, rs, q, o⟩ => ⟨env, h, _, _, o.now rel rs, q, fun ds h1 vs H1 ⟨_, q1⟩ t1 r1 p1 => by
    obtain ⟨xs, e, q1⟩ := q1
    cases (show some ds = some xs from e)
    match ds, vs, p1, q1 with
    | [d1, d2], [v1, v2], .cons a1 (.cons a2 .nil), q1 =>
      exact ⟨v1, v2, rfl, o.nx _ _ _ _ q1.2 t1 r1 (((rs.mono (t1.mn rel)).set a1 i).set a2 j)⟩
    | d1 :: d2 :: d3 :: r, _, _, q1 => cases q1.1
    | [d1], _, _, q1 => exact q1.elim
    | [], _, _, q1 => exact q1.elim⟩
theorem z_par3 {i j l : Nat} {y z : Str} {b c : Expr} {ms : TEs} {px py pz pt : Pos} {kt k2 : Nat} {pt2 : Pos} (S : SitS P n Xs X W) (hi : X.N[i]? = some x) (hj : X.N[j]? = some y) (hl : X.N[l]? = some z) (hij : i ≠ j) (hil : i ≠ l) (hjl : j ≠ l)
    (hx : X.env.scope.names.lookup x = some .local) (hy : X.env.scope.names.lookup y = some .local) (hz : X.env.scope.names.lookup z = some .local)
    (ha : PA X [a, b, c] (aOf X W ms)) (hw : swappedStores [.Tuple [.Name x px, .Name y py, .Name z pz] kt pt] (.Tuple [a, b, c] k2 pt2) X.env = pure (some [x, y, z])) :
    PS X (.Assign [.Tuple [.Name x px, .Name y py, .Name z pz] kt pt] (.Tuple [a, b, c] k2 pt2) pos) (sOf X W (sAsg (gTp (gCons (gNm i) (gCons (gNm j) (gCons (gNm l) gNil)))) (xTup ms))) :=
  PS_le (ps_par3 S.s.calm S.s.nd hi hj hl hij hil hjl hx hy hz ha hw rfl) fun D σ H ⟨env, h, k, rel, rs, q, o⟩ => ⟨env, h, _, _, o.now rel rs, q, fun ds h1 vs H1 ⟨_, q1⟩ t1 r1 p1 => by
    obtain ⟨xs, e, q1⟩ := q1
    cases (show some ds = some xs from e)
    match ds, vs, p1, q1 with
    | [d1, d2, d3], [v1, v2, v3], .cons a1 (.cons a2 (.cons a3 .nil)), q1 =>
      exact ⟨v1, v2, v3, rfl, o.nx _ _ _ _ q1.2 t1 r1 ((((rs.mono (t1.mn rel)).set a1 i).set a2 j).set a3 l)⟩
    | d1 :: d2 :: d3 :: d4 :: r, _, _, q1 => cases q1.1
    | [d1, d2], _, _, q1 => exact q1.elim
    | [d1], _, _, q1 => exact q1.elim
    | [], _, _, q1 => exact q1.elim⟩
theorem SitS.tr (S : SitS P n Xs X W) (W' : WX) (pn : List (Addr × Obj)) (xe : Value → Shared → Prop) (tk : Takes (X.tr pn xe) W') (po : PassesOwn (model X.prog X.w) X.A X.env xe) : SitS P n Xs (X.tr pn xe) W' :=
  ⟨⟨S.s.calm, S.s.nd, S.s.room, S.s.blt, S.s.glo, fun f h => let ⟨fa, fd, ps, F⟩ := S.s.fns f h; ⟨fa, fd, ps, ⟨F.ok, F.np, F.mg, F.keep, F.binds⟩⟩, S.s.gfn, tk⟩, S.kind, S.fn, po, S.stk, S.frm, S.cls, S.isa, S.sub⟩
theorem z_try {cx : Str} {np p2 p3 pos' : Pos} {kc : Const} {j : Nat} {d : D} (S : SitS P n Xs X W) (hc : Xs cx = true) (hg : Gl X cx) (hd : (cx == ("__debug__" : Str)) = false) (hI : isI cx = false) (hk : trC kc = some d)
    (hb : ∀ (W' : WX) (pn : List (Addr × Obj)) (xe : Value → Shared → Prop), SitS P n Xs (X.tr pn xe) W' → PSs (X.tr pn xe) s1 (sOf X W' m1)) :
    PS X (.Try s1 [.ExceptHandler (some (.Name cx np)) none [.Return (some (.Constant kc j p2)) p3] pos'] [] [] pos) (sOf X W (sTry P.sub m1 cx d)) := by
  obtain ⟨C, h1, h2, _⟩ := S.cls _ hc
  obtain ⟨v, _, hv⟩ := s_const (X := X) (k := j) (pos := p2) hk
  refine PS_le (ps_try_only (c := .ref C) (tb := fun W' => sOf X W' m1) (ts := fun _ _ _ => tRet (tC v)) S.stk S.frm ⟨hg, hd, .inl h1⟩ S.s.tk (fun W' pn xe tk po => hb W' pn xe (S.tr W' pn xe tk po)) fun a oe cls dd pn _ _ => ?_) fun D σ H ⟨env, h, k, rel, rs, q, o⟩ =>
    ⟨env, h, _, rel, rs, q, ⟨o.nx, o.rt, o.bk, o.ct, fun e2 y h2 σ2 H2 a ⟨kk, ek, q2⟩ t2 r2 s2 hm => ?_⟩⟩
  · have hc : PE (X.suite a ((a, oe) :: pn)) (.Constant kc j p2) (tC v) := by
      unfold trC at hk
      split at hk
      · cases hk; cases hv (fun _ => none); exact pe_non
      · cases hk; cases hv (fun _ => none); exact pe_bl
      · cases hk; cases hv (fun _ => none); exact pe_int
      · cases hk; cases hv (fun _ => none); exact pe_str
      · cases hk
    exact pss_one (ps_ret hc)
  · refine ⟨kk, S.sub _ _ _ _ _ hI ek hm h1, fun e a' _ => ?_, fun e => ?_⟩
    · subst e
      exact o.rt _ _ _ _ q2 t2 r2 (hv H2)
    · subst e
      exact o.ex _ _ _ _ _ _ q2 t2 r2 s2 hm
theorem z_tryi {cx : Str} {np p2 p3 pos' : Pos} {sc : Scope} {es : List Expr} {ts : List (Bool × Str)} (S : SitS P n Xs X W) (hc : Xs cx = true) (hg : Gl X cx) (hd : (cx == ("__debug__" : Str)) = false) (hI : isI cx = false) (hi : X.N[i]? = some x) (hl : X.env.scope.names.lookup x = some .local) (hn : okN x = true) (hs : X.env.scope = sc) (hk : isItems sc x es = some ts)
    (hb : ∀ (W' : WX) (pn : List (Addr × Obj)) (xe : Value → Shared → Prop), SitS P n Xs (X.tr pn xe) W' → PSs (X.tr pn xe) s1 (sOf X W' m1)) :
    PS X (.Try s1 [.ExceptHandler (some (.Name cx np)) (some x) [.Return (some (.BoolOp .And es p2)) p3] pos'] [] [] pos) (sOf X W (sTryi P.sub m1 cx ts)) := by
  obtain ⟨C, h1, h2, _⟩ := S.cls _ hc
  refine PS_le (ps_try_as (c := .ref C) (i := i) (tb := fun W' => sOf X W' m1) (ts := fun a cls dd Dn σ H => ∃ D y v, cls = .ref D ∧ dd = none ∧ X.mg y = some (.ref D) ∧ isaAll P.sub y ts = some v ∧ (σ.length ≤ i ∨ σ[i]? = some (some (.ref a))) ∧ Dn.rt (.bl v) H) S.stk S.frm S.s.nd hi hl ⟨hg, hd, .inl h1⟩ S.s.tk (fun W' pn xe tk po => hb W' pn xe (S.tr W' pn xe tk po)) fun a oe cls dd pn hz hf => ?_) fun D σ H ⟨env, h, k, rel, rs, q, o⟩ =>
    ⟨env, h, _, rel, rs, q, ⟨o.nx, o.rt, o.bk, o.ct, fun e2 y h2 σ2 H2 a ⟨kk, ek, q2⟩ t2 r2 s2 hm => ?_⟩⟩
  · refine ⟨fun pins s σ H Dn I ⟨D, y, v, e1, e2, hy, ev, hσ, q⟩ => ?_⟩
    subst e1 e2
    have hlen : σ.length = X.N.length := I.len
    have hlt : i < X.N.length := (List.getElem?_eq_some_iff.mp hi).1
    have hσ' : σ[i]? = some (some (.ref a)) := hσ.resolve_left (by omega)
    have pe := pe_items (a := a) (pn := pn) (pos := p2) (sub := P.sub) (y := y) hi (.inl hl) hn (S.s.blt _ (by decide +kernel)) hs hz hf (fun t k e => S.isa y t k _ e hy) es ts v hk ev
    exact (pss_one (ps_ret pe)).run pins s σ H Dn I ⟨hσ', q⟩
  · refine ⟨kk, S.sub _ _ _ _ _ hI ek hm h1, fun e a' _ => ?_, fun e => ?_⟩
    · subst e
      obtain ⟨v, ev, q2⟩ : gd (isaAll P.sub y ts) (fun v => k.rt (.bl v) h2) := q2
      refine ⟨a, y, v, rfl, rfl, hm, ev, ?_, o.rt _ _ _ _ q2 t2 r2 (.bl v)⟩
      by_cases z : i < σ2.length
      · right
        rw [List.getElem?_set_self z]
      · left
        rw [List.length_set]
        omega
    · subst e
      exact o.ex _ _ _ _ _ _ q2 t2 r2 s2 hm
end
end Py
namespace Py
open L2 PySem.Spec PySem PyProof.Rows
theorem bk_fun {env : PySem.Env} (h : env.scope.kind = .function) : env.blockKind = .function := by unfold Env.blockKind; rw [h]; rfl
theorem lcl_eq {sc : Scope} {x : Str} : lclB sc x = (sc.names.lookup x == some .local) := by
  unfold lclB
  split
  · rename_i e; rw [e]; rfl
  · rename_i e
    cases h : sc.names.lookup x with
    | none => rfl
    | some k => cases k <;> first | rfl | exact absurd h e
theorem sw_nm {e : Expr} {t : Str} {p : Pos} {l : Nat} {env : PySem.Env} {sc : Scope} {F : Str → Bool} {N : List Str} {m : Nat} {ex : Ex} (hk : env.scope.kind = .function) (hs : env.scope = sc) (he : trE F N m sc e = some ex) :
    swapsWith e (some (.Name t p)) l env = pure (swB sc t p e) := by
  cases m with
  | zero => unfold trE at he; cases he
  | succ m =>
    cases e with
    | SetComp _ _ _ _ => unfold trE at he; cases he
    | DictComp _ _ _ _ _ => unfold trE at he; cases he
    | ListComp elt gs s q =>
      unfold swapsWith swB
      simp only [bk_fun hk, lcl_eq]
      rw [← hs]
      rfl
    | _ => rfl
theorem sw_o {e : Expr} {o i : Expr} {p : Pos} {l : Nat} {env : PySem.Env} : swapsWith e (some (.Subscript o i p)) l env = pure false := by
  cases e <;> rfl
theorem sw_t {e : Expr} {ts : List Expr} {k : Nat} {p : Pos} {l : Nat} {env : PySem.Env} : swapsWith e (some (.Tuple ts k p)) l env = pure false := by
  cases e <;> rfl
theorem sw_n {e : Expr} {l : Nat} {env : PySem.Env} {sc : Scope} {F : Str → Bool} {N : List Str} {m : Nat} {ex : Ex} (he : trE F N m sc e = some ex) (hn : ∀ a b c d, e ≠ .ListComp a b c d) : swapsWith e none l env = pure false := by
  cases m with
  | zero => unfold trE at he; cases he
  | succ m =>
    cases e with
    | SetComp _ _ _ _ => unfold trE at he; cases he
    | DictComp _ _ _ _ _ => unfold trE at he; cases he
    | ListComp a b c d => exact absurd rfl (hn a b c d)
    | _ => rfl
theorem ss_no {t e : Expr} {env : PySem.Env} (h : ∀ ts k p, e ≠ .Tuple ts k p) : swappedStores [t] e env = pure none := by
  cases e with
  | Tuple ts k p => exact absurd rfl (h ts k p)
  | _ => cases t <;> rfl
theorem ss_sub {o i e : Expr} {p : Pos} {env : PySem.Env} : swappedStores [.Subscript o i p] e env = pure none := by
  cases e <;> rfl
theorem star_eq (vs : List Expr) : (vs.any fun | .Starred .. => true | _ => false) = vs.any isStar := by
  congr 1
theorem ss_eq {ts vs : List Expr} {k k2 : Nat} {p p2 : Pos} {env : PySem.Env} {sc : Scope} {r : Option (List Str)} (hk : env.scope.kind = .function) (hs : env.scope = sc) (h : swC sc ts vs = some r) : swappedStores [.Tuple ts k p] (.Tuple vs k2 p2) env = pure r := by
  unfold swappedStores
  unfold swC at h
  simp only [bk_fun hk]
  subst hs
  rw [show (ScopeKind.function != ScopeKind.function) = false from rfl, Bool.or_false]
  split at h
  · rename_i c
    cases h
    exact if_pos c
  rename_i c1
  refine (if_neg c1).trans ?_
  split at h
  · rename_i c
    cases h
    exact if_pos c
  rename_i c2
  refine (if_neg c2).trans ?_
  simp only at h
  split at h
  · rename_i c
    cases h
    exact if_pos c
  rename_i c3
  refine (if_neg c3).trans ?_
  split at h
  · rename_i c
    cases h
    exact if_pos c
  rename_i c4
  refine (if_neg c4).trans ?_
  split at h
  · cases h
  rename_i c5
  refine (if_neg c5).trans ?_
  cases h
  rfl
/-- a pair stored from the right: whose names they are -/
theorem nmS_eq {N : List Str} {sc : Scope} {e : Expr} {i : Nat} (h : nmS N sc e = some i) : ∃ x p, e = .Name x p ∧ sc.names.lookup x = some .local ∧ N[i]? = some x := by
  unfold nmS at h
  split at h
  · rename_i x p
    split at h
    · rename_i hl
      rw [lcl_eq] at hl
      exact ⟨x, p, rfl, by simpa using hl, slot_at h⟩
    · cases h
  · cases h
theorem swC_2 {sc : Scope} {x y : Str} {px py : Pos} {vs : List Expr} {r : List Str} (h : swC sc [.Name x px, .Name y py] vs = some (some r)) : r = [x, y] := by
  unfold swC at h
  split at h
  · cases h
  split at h
  · cases h
  simp only at h
  split at h
  · cases h
  rename_i c
  split at h
  · cases h
  split at h
  · cases h
  cases h
  simp only [Bool.or_eq_true, not_or, bne_iff_ne, ne_eq, Decidable.not_not] at c
  have c1 := c.1
  simp only [List.filterMap_cons, List.filterMap_nil] at c1 ⊢
  split at c1
  · split at c1 <;> simp at c1
  · rename_i h1
    split at c1
    · simp at c1
    · rename_i h2
      split at h1 <;> first | (cases h1; done) | skip
      split at h2 <;> first | (cases h2; done) | skip
      simp_all
theorem swC_3 {sc : Scope} {x y z : Str} {px py pz : Pos} {vs : List Expr} {r : List Str} (h : swC sc [.Name x px, .Name y py, .Name z pz] vs = some (some r)) : r = [x, y, z] := by
  unfold swC at h
  split at h
  · cases h
  split at h
  · cases h
  simp only at h
  split at h
  · cases h
  rename_i c
  split at h
  · cases h
  split at h
  · cases h
  cases h
  simp only [Bool.or_eq_true, not_or, bne_iff_ne, ne_eq, Decidable.not_not] at c
  have c1 := c.1
  simp only [List.filterMap_cons, List.filterMap_nil] at c1 ⊢
  split at c1
  · split at c1
    · split at c1 <;> simp at c1
    · split at c1 <;> simp at c1
  · rename_i h1
    split at c1
    · split at c1 <;> simp at c1
    · rename_i h2
      split at c1
      · simp at c1
      · rename_i h3
        split at h1 <;> first | (cases h1; done) | skip
        split at h2 <;> first | (cases h2; done) | skip
        split at h3 <;> first | (cases h3; done) | skip
        simp_all
end Py
namespace Py
open L2 PySem.Spec PySem PyProof.Rows
def SOk (P : Prog) (n : Nat) (F Xs : Str → Bool) (N : List Str) (m : Nat) : Prop := ∀ (sc : Scope) (st : PySem.Stmt) (s : St), trS F Xs N m sc st = some s → ∀ (X : Cx) (W : WX), SitS P n Xs X W → X.env.scope = sc → X.N = N →
  PS X st (sOf X W (wS (wC P n) P.gl P.sub s))
def BOk (P : Prog) (n : Nat) (F Xs : Str → Bool) (N : List Str) (m : Nat) : Prop := ∀ (sc : Scope) (b : List PySem.Stmt) (s : Sts), trS.go F Xs N m sc b = some s → ∀ (X : Cx) (W : WX), SitS P n Xs X W → X.env.scope = sc → X.N = N →
  PSs X b (sOf X W (wB (wC P n) P.gl P.sub s))
theorem b_of {P : Prog} {n : Nat} {F Xs : Str → Bool} {N : List Str} {m : Nat} (ih : SOk P n F Xs N m) : BOk P n F Xs N m := by
  intro sc b
  induction b with
  | nil =>
    intro s h X W S hs hN
    unfold trS.go at h
    cases h
    exact z_nil
  | cons a b ihb =>
    intro s h X W S hs hN
    unfold trS.go at h
    simp only [bind, Option.bind_eq_some_iff, pure, Option.some.injEq] at h
    obtain ⟨x, h1, y, h2, rfl⟩ := h
    exact z_cons (ih sc a x h1 X W S hs hN) (ihb y h2 X W S hs hN)
theorem loc_b {sc : Scope} {x : Str} (h : locB sc x = true) : Loc sc x := by
  unfold locB at h
  split at h
  · exact .inl (by assumption)
  · exact .inr (by assumption)
  · cases h
theorem okc {Xs : Str → Bool} {sc : Scope} {c : Str} (h : (Xs c && gloB sc c && okN c) = true) : Xs c = true ∧ gloB sc c = true ∧ (c == ("__debug__" : Str)) = false := by
  simp only [Bool.and_eq_true]
      at h
  exact ⟨h.1.1, h.1.2, (okN_d h.2).1⟩
theorem each1 {tg : Expr} {N : List Str} {ok : Str → Bool} {n : Nat} {t : Tg} (h : trT N ok n tg = some t) (env : PySem.Env) : (assignEach [tg] env).map (·.2) = [assign tg env] := by
  rw [trT_star h]
  rfl
theorem sw_ts {e : Expr} {ts : List Expr} {k : Nat} {p : Pos} {l : Nat} {env : PySem.Env} : swapsWithSole [.Tuple ts k p] e l env = pure false := by cases e <;> rfl
theorem sw_os {e o i : Expr} {p : Pos} {l : Nat} {env : PySem.Env} : swapsWithSole [.Subscript o i p] e l env = pure false := by cases e <;> rfl
theorem sS {P : Prog} {n : Nat} {F Xs : Str → Bool} {N : List Str} (hF : ∀ f, F f = true → P.fn f ≠ none) : ∀ m, SOk P n F Xs N m
  | 0 => fun sc st s h => by unfold trS at h; cases h
  | m + 1 => by
    have ihS := sS hF m (n := n) (N := N) (Xs := Xs)
    have ihB := b_of ihS
    have ih := sE hF trN (n := n) (N := N)
    intro sc st s h X W S hs hN
    have hk := S.kind
    have tgt : ∀ {tg : Expr} {t : Tg}, trT N (locB sc) 6 tg = some t → PG X tg (gOf X (fun _ => true) (wTg t)) := fun {tg t} h => s_tgt S.s.calm S.s.nd hN (fun x hx => ⟨hs ▸ loc_b hx, .inl (S.fn x)⟩) 6 tg t h (tgIn_all t)
    unfold trS at h
    split at h
    · -- an assignment
      rename_i tg e pos
      split at h
      · -- to a name
        rename_i x p
        split at h
        · rename_i hl
          simp only [bind, Option.bind_eq_some_iff, pure, Option.some.injEq] at h
          obtain ⟨i, hi, v, hv, rfl⟩ := h
          have hx : Loc X.env.scope x := hs ▸ loc_b hl
          have hi' : X.N[i]? = some x := hN ▸ slot_at hi
          have sw := sw_nm (t := x) (p := p) (l := pos.line) hk hs hv
          cases hb : swB sc x p e with
          | false =>
            rw [hb] at sw
            exact z_nm (ps_set S.s.nd hi' hx (ih sc e v hv X W S.s hs hN).1 sw (.inl (S.fn x))) fun _ _ _ q => q
          | true =>
            rw [hb] at sw
            cases e with
            | ListComp elt gens scope q =>
              have hy : X.env.scope.names.lookup x = some .local := by
                unfold swB at hb
                simp only [Bool.and_eq_true] at hb
                have := hb.1.1
                rw [lcl_eq, ← hs] at this
                simpa using this
              have hv' : trE F N (59 + 1) sc (.ListComp elt gens scope q) = some v := hv
              rcases (lc_ok (sE hF 59) S.s hs hN hv').one with ⟨tg, iter, ifs, own, g, tt, te, wi, rfl, h1, h2, h3, h4, h5, h6, h7⟩ | ⟨tg, iter, tg1, iter1, own, g, g1, te, wi, wi1, vs1, rfl, hv2, h1, h2, h3, h4, h5, h6, h7, h8, h9⟩
              · exact z_nm (ps_setLc S.s.calm S.s.nd hi' hy sw h1 h2 h3 h4 h5 h6) h7
              · exact z_nm (ps_setLc2 S.s.calm S.s.nd hi' hy sw h1 h2 hv2 h3 (fun _ _ _ _ _ => pts_nil) h4 h5 (fun _ _ _ _ _ => pts_nil) h6 h7 h8) h9
            | _ => cases hb
        · cases h
      · -- to several
        rename_i ts kt pt
        split at h
        · rename_i vs k2 p2
          split at h
          · cases h
          · rename_i hw
            simp only [bind, Option.bind_eq_some_iff, pure, Option.some.injEq] at h
            obtain ⟨t, ht, v, hv, rfl⟩ := h
            exact z_asg (ih sc _ v hv X W S.s hs hN).1 (tgt ht) sw_ts (ss_eq hk hs hw) (each1 ht _)
          · rename_i r hw
            split at h
            · rename_i a b c d
              simp only [bind, Option.bind_eq_some_iff, pure] at h
              obtain ⟨i, hi, j, hj, r2, hr, h⟩ := h
              split at h
              · cases h
              · rename_i hij
                cases h
                obtain ⟨x, px, rfl, hx, hix⟩ := nmS_eq hi
                obtain ⟨y, py, rfl, hy, hjy⟩ := nmS_eq hj
                have er := swC_2 hw
                subst er
                subst hs
                subst hN
                exact z_par S hix hjy hij hx hy (s_es ih S.s rfl rfl hr).1 (ss_eq hk rfl hw)
            · rename_i a b l c d m'
              simp only [bind, Option.bind_eq_some_iff, pure] at h
              obtain ⟨i, hi, j, hj, k, hk', r2, hr, h⟩ := h
              split at h
              · cases h
              · rename_i hij
                cases h
                obtain ⟨x, px, rfl, hx, hix⟩ := nmS_eq hi
                obtain ⟨y, py, rfl, hy, hjy⟩ := nmS_eq hj
                obtain ⟨z, pz, rfl, hz, hkz⟩ := nmS_eq hk'
                have er := swC_3 hw
                subst er
                subst hs
                subst hN
                exact z_par3 S hix hjy hkz (fun q => hij (.inl q)) (fun q => hij (.inr (.inl q))) (fun q => hij (.inr (.inr q))) hx hy hz (s_es ih S.s rfl rfl hr).1 (ss_eq hk rfl hw)
            · cases h
        · rename_i hne
          simp only [bind, Option.bind_eq_some_iff, pure, Option.some.injEq] at h
          obtain ⟨t, ht, v, hv, rfl⟩ := h
          exact z_asg (ih sc _ v hv X W S.s hs hN).1 (tgt ht) sw_ts (ss_no fun ts k p q => hne _ _ _ q) (each1 ht _)
      · -- to an item
        rename_i o i p
        split at h
        · cases h
        · simp only [bind, Option.bind_eq_some_iff, pure, Option.some.injEq] at h
          obtain ⟨v, hv, a, ha, k, hk2, rfl⟩ := h
          exact z_set (ih sc _ v hv X W S.s hs hN).1 (ih sc _ a ha X W S.s hs hN).1 (ih sc _ k hk2 X W S.s hs hN).1 sw_os ss_sub (trE_plain hk2)
      · cases h
    · -- op=
      split at h
      · rename_i hl
        simp only [bind, Option.bind_eq_some_iff, pure, Option.some.injEq] at h
        obtain ⟨i, hi, o, ho, v, hv, rfl⟩ := h
        cases trOp_eq ho
        exact z_aug o S.s.nd (hN ▸ slot_at hi) (hs ▸ loc_b hl) (S.fn _) (ih sc _ v hv X W S.s hs hN).1
      · cases h
    · -- an expression
      split at h
      · cases h
        exact z_doc
      · cases h
      · rename_i hn
        simp only [bind, Option.bind_eq_some_iff, pure, Option.some.injEq] at h
        obtain ⟨v, hv, rfl⟩ := h
        exact z_expr (ih sc _ v hv X W S.s hs hN).1 (sw_n hv fun a b c d q => hn _ _ _ _ q)
    · simp only [bind, Option.bind_eq_some_iff, pure, Option.some.injEq] at h
      obtain ⟨z, hz, x, hx, y, hy, rfl⟩ := h
      exact z_if (ih sc _ z hz X W S.s hs hN).2 (ihB sc _ x hx X W S hs hN) (ihB sc _ y hy X W S hs hN)
    · simp only [bind, Option.bind_eq_some_iff, pure, Option.some.injEq] at h
      obtain ⟨z, hz, x, hx, rfl⟩ := h
      exact z_whl S (ih sc _ z hz X W S.s hs hN).2 (ihB sc _ x hx X W S hs hN)
    · simp only [bind, Option.bind_eq_some_iff, pure, Option.some.injEq] at h
      obtain ⟨t, ht, z, hz, x, hx, rfl⟩ := h
      exact z_for S (s_it ih S.s hs hN hz) (tgt ht) (ihB sc _ x hx X W S hs hN) (plain_fold (trI_plain hz) X.env)
    · simp only [bind, Option.bind_eq_some_iff, pure, Option.some.injEq] at h
      obtain ⟨v, hv, rfl⟩ := h
      exact z_ret (ih sc _ v hv X W S.s hs hN).1
    · cases h
      exact z_retn
    · split at h
      · rename_i hc
        cases h
        obtain ⟨h1, h2, h3⟩ := okc hc
        exact z_rais S h1 (glo_of hs h2) h3
      · cases h
    · split at h
      · rename_i hc
        simp only [bind, Option.bind_eq_some_iff, pure, Option.some.injEq] at h
        obtain ⟨x, hx, d, hd, rfl⟩ := h
        rw [Bool.and_eq_true] at hc
        obtain ⟨h1, h2, h3⟩ := okc hc.1
        exact z_try S h1 (glo_of hs h2) h3 (by simpa using hc.2) hd fun W' pn xe S' => ihB sc _ x hx (X.tr pn xe) W' S' hs hN
      · cases h
    · split at h
      · rename_i hc
        simp only [bind, Option.bind_eq_some_iff, pure, Option.some.injEq] at h
        obtain ⟨x, hx, i, hi, ts, ht, rfl⟩ := h
        rw [Bool.and_eq_true, Bool.and_eq_true, Bool.and_eq_true] at hc
        obtain ⟨⟨⟨hc, c2⟩, c3⟩, c4⟩ := hc
        obtain ⟨h1, h2, h3⟩ := okc hc
        exact z_tryi S h1 (glo_of hs h2) h3 (by simpa using c2) (hN ▸ slot_at hi) (by rw [lcl_eq, ← hs] at c3; simpa using c3) c4 hs ht fun W' pn xe S' => ihB sc _ x hx (X.tr pn xe) W' S' hs hN
      · cases h
    · cases h; exact z_pass
    · cases h; exact z_brk
    · cases h; exact z_cnt
    · cases h
end Py
/-! The defs of a program's top, and its law's end. -/
namespace Py
open L2 PySem.Spec PySem PyProof.Rows
/-- one def of the top -/
structure FnT where
  name : Str
  params : Arguments
  body : List PySem.Stmt
  scope : Scope
  ps : List Str
  N : List Str
  c : Fn
def FnT.d (t : FnT) : He.DefD := ⟨(t.name, none), t.name, t.name, t.params, t.body, t.scope, [], []⟩
def fsB (N ps : List Str) (sc : Scope) : Bool := sc.kind == .function && (!sc.isCoroutine && (!sc.isGenerator && (decide N.Nodup && (decide (N.take ps.length = ps) && ((ps.all fun x => locB sc x) && (sc.names.all fun y => y.2 != .free))))))
theorem fs_of {N ps : List Str} {sc : Scope} (h : fsB N ps sc = true) : FnScope N ps sc := by
  unfold fsB at h
  simp only [Bool.and_eq_true, decide_eq_true_eq, Bool.not_eq_true', List.all_eq_true, bne_iff_ne, ne_eq] at h
  obtain ⟨h1, h2, h3, h4, h5, h6, h7⟩ := h
  exact ⟨eq_of_beq h1, h2, h3, h4, h5, fun x hx => loc_b (h6 x hx), h7⟩
def tbF (tb : List FnT) (x : Str) : Option FnT := tb.find? fun t => t.name == x
def inF (tb : List FnT) (x : Str) : Bool := (tbF tb x).isSome
def progOf (tb : List FnT) (gl : List (Str × D)) (sb : List (Str × Str × Bool)) : Prog :=
  ⟨fun x => (tbF tb x).map (·.c), fun x => gl.lookup x, fun x y => (sb.find? fun p => p.1 == x && p.2.1 == y).map (·.2.2)⟩
structure FnT.Ok (F Xs : Str → Bool) (t : FnT) : Prop where
  tr : trS.go F Xs t.N 60 t.scope t.body = some t.c.body
  sc : fsB t.N t.ps t.scope = true
  np : t.c.np = t.ps.length
  nn : t.c.nn = t.N.length
  bd : ∀ (kV doc pm : Value) (an : Option Addr) (cdv ct : Value) (us : List Value), us.length = t.ps.length → bindArgs (PySem.W.fnOf t.name t.name t.params t.body t.scope .none kV doc pm an cdv ct) ⟨us, []⟩ = pure (t.ps.zip us)
/-- what the module's part K says of it -/
structure MOk (K : PySem.W.Frag) (M : Str → Option Value) (tb : List FnT) (gl : List (Str × D)) (sb : List (Str × Str × Bool)) (xs : List Str) : Prop where
  df : ∀ t ∈ tb, ∃ fa fd, FunD K t.name t.name t.params t.body t.scope [] [] fa fd ∧ M t.name = some (.ref fa)
  blt : ∀ x, bltB x = true → M x = none
  glo : ∀ x d, (x, d) ∈ gl → ∃ v u, M x = some u ∧ RelV v u ∧ ∀ H, Rep K M H v d
  cls : ∀ c ∈ xs, ∃ C, M c = some (.ref C) ∧ PySem.W.keepIn K (.ref C) = true ∧ PySem.W.subIn K (.ref C) (.type "BaseException") = some true ∧ PySem.W.typeIn K (.ref C) = some (.type "type") ∧ PySem.W.excIn K C He.veBase "ValueError.__new__" = true
  isa : ∀ x t k, (x, isaN t, k) ∈ sb → ∀ a, M x = some (.ref a) → IsF K M a t k
  sub : ∀ x c k, (x, c, k) ∈ sb → isI c = false → ∀ a b, M x = some (.ref a) → M c = some (.ref b) → PySem.W.exmOne K (.ref a) (.ref b) = some k
/-- a table's own facts: no program, no heap -/
structure TOk (tb : List FnT) (gl : List (Str × D)) (xs : List Str) : Prop where
  ok : ∀ t ∈ tb, t.Ok (inF tb) xs.contains
  gfn : gl.all (fun p => match p.2 with
    | .fn f => inF tb f
    | _ => true) = true
theorem tbF_mem {tb : List FnT} {x : Str} {t : FnT} (h : tbF tb x = some t) : t ∈ tb ∧ t.name = x := by
  unfold tbF at h
  exact ⟨List.mem_of_find?_eq_some h, by simpa using List.find?_some h⟩
section
variable {pr : Program} {w : World} {K : PySem.W.Frag} {M : Str → Option Value} {base : Heap} {tb : List FnT} {gl : List (Str × D)} {sb : List (Str × Str × Bool)} {xs : List Str}
theorem lookup_mem {α : Type} : ∀ {l : List (Str × α)} {x : Str} {a : α}, l.lookup x = some a → (x, a) ∈ l
  | [], _, _, h => by cases h
  | (y, b) :: r, x, a, h => by
    rw [List.lookup_cons] at h
    split at h
    · rename_i e
      cases h
      rw [eq_of_beq e]
      exact List.mem_cons_self
    · exact List.mem_cons_of_mem _ (lookup_mem h)
theorem reps_some {H : Hp} : ∀ {vs : List V} {ds : List D}, Reps K M H vs ds → ∀ m : Nat, RelS K M H (vs.map some ++ List.replicate m none) (ds.map some ++ List.replicate m none) := by
  intro vs ds r m
  refine ⟨by simp [r.length], fun i d e => ?_⟩
  by_cases hi : i < ds.length
  · rw [List.getElem?_append_left (by simpa using hi), List.getElem?_map, Option.map_eq_some_iff] at e
    obtain ⟨d', e1, e2⟩ := e
    cases e2
    obtain ⟨v, hv, rp⟩ := r.get e1
    exact ⟨v, by rw [List.getElem?_append_left (by rw [List.length_map, r.length]; exact hi), List.getElem?_map, hv]; rfl, rp⟩
  · rw [List.getElem?_append_right (by simpa using hi)] at e
    obtain ⟨_, e⟩ := List.getElem?_eq_some_iff.mp e
    simp at e
theorem _root_.Py.RelH.part {h h' : AH} {H : Hp} (r : RelH K M h H) (s : Sub h' h) : RelH K M h' H := fun a o e => r a o (s a o e)
theorem _root_.Py.Tr.part {h h' h2 : AH} {H H' : Hp} (t : Tr h H h' H') (s : Sub h2 h') : Tr h H h2 H' := by
  refine ⟨fun a o e n => ?_, t.grow⟩
  obtain ⟨e1, n1⟩ := t.keep a o e n
  refine ⟨e1, ?_⟩
  cases q : h2 a with
  | none => rfl
  | some u =>
    have z := s a u q
    rw [n1] at z
    cases z
/-- every def, to n levels -/
theorem fnAll (T : TOk tb gl xs) (m : MOk K M tb gl sb xs) : ∀ (n : Nat) (t : FnT) (fa : Addr) (fd : FuncData), tbF tb t.name = some t → FunD K t.name t.name t.params t.body t.scope [] [] fa fd → M t.name = some (.ref fa) → FnA pr w K M base (progOf tb gl sb) n t.name fa fd t.ps := by
  intro n
  induction n with
  | zero =>
    intro t fa fd ht hF hM
    obtain ⟨hm, _⟩ := tbF_mem ht
    have o := T.ok t hm
    exact ⟨⟨fun vs H Q E h => h.1, fun A outer s H args us vs Q E _ _ _ _ h => by
        obtain ⟨_, _, _, _, _, _, _, z, _⟩ := h
        exact z.elim⟩, fun c hc => by
          have e : (tbF tb t.name).map (·.c) = some c := hc
          rw [ht] at e
          cases e
          exact o.np.symm, hM, hF.kp, hF.bindsN o.bd⟩
  | succ n ih =>
    intro t fa fd ht hF hM
    obtain ⟨hm, _⟩ := tbF_mem ht
    have o := T.ok t hm
    have S := fs_of o.sc
    have np : ∀ c, (progOf tb gl sb).fn t.name = some c → c = t.c := fun c hc => by
      have e : (tbF tb t.name).map (·.c) = some c := hc
      rw [ht] at e
      cases e
      rfl
    · refine ⟨FunD.ok hF S (fun vs H Q E h => h.1) (fun cdv A outer s H vs Q E hr h => ?_), fun c hc => by rw [np c hc]; exact o.np.symm, hM, hF.kp, hF.bindsN o.bd⟩
      obtain ⟨hl, h0, ds, Q0, X0, rel, rp, ⟨c, hc, hd, q⟩, hq, hx⟩ := h
      have ec := np c hc
      subst ec
      refine ⟨_, b_of (sS (P := progOf tb gl sb) (F := inF tb) (Xs := xs.contains) (n := n) (fun f hf => ?_) 60) t.scope t.body t.c.body o.tr _ (fun cls d _ H => E cls d H) ?_ rfl rfl, ?_⟩
      · intro z
        have z' : (tbF tb f).map (·.c) = none := z
        unfold inF at hf
        cases e : tbF tb f with
        | none => rw [e] at hf; cases hf
        | some t => rw [e] at z'; cases z'
      · refine ⟨⟨rfl, S.nd, hr, m.blt, fun x d hx => m.glo x d (lookup_mem hx), fun f hf => ?_, fun f hf => ?_, takes_of rfl rfl rfl rfl⟩, S.kind, fun _ => rfl, passes_of rfl, rfl, rfl, fun c hc => ?_, fun x t k a hs h1 => ?_, fun x c k a b hI hs h1 h2 => ?_⟩
        · cases hf2 : tbF tb f with
          | none => exact absurd (show (tbF tb f).map (·.c) = none by rw [hf2]; rfl) hf
          | some t2 =>
            obtain ⟨hm2, rfl⟩ := tbF_mem hf2
            obtain ⟨fa2, fd2, F2, M2⟩ := m.df t2 hm2
            exact ⟨fa2, fd2, t2.ps, ih t2 fa2 fd2 hf2 F2 M2⟩
        · intro z
          have z' : (tbF tb f).map (·.c) = none := z
          obtain ⟨d, e1, e2⟩ := Option.bind_eq_some_iff.mp hf
          have e3 := List.all_eq_true.mp T.gfn _ (lookup_mem e1)
          unfold asFn at e2
          split at e2
          · cases e2
            have e4 : inF tb f = true := e3
            unfold inF at e4
            cases e : tbF tb f with
            | none => rw [e] at e4; cases e4
            | some t => rw [e] at z'; cases z'
          · cases e2
        · obtain ⟨C, h1, h2, h3, h4, h5⟩ := m.cls c (by simpa using hc)
          exact ⟨C, h1, h2, raises_own h3 h4, _, _, _, _, PySem.F.excBase_ValueError, h5⟩
        · have hs' : (sb.find? fun p => p.1 == x && p.2.1 == isaN t).map (·.2.2) = some k := hs
          obtain ⟨p, hp, rfl⟩ := Option.map_eq_some_iff.mp hs'
          have e := List.find?_some hp
          simp only [Bool.and_eq_true, beq_iff_eq] at e
          obtain ⟨rfl, e2⟩ := e
          refine m.isa p.1 t p.2.2 ?_ a h1
          have := List.mem_of_find?_eq_some hp
          rw [← e2]
          exact this
        · have hs' : (sb.find? fun p => p.1 == x && p.2.1 == c).map (·.2.2) = some k := hs
          obtain ⟨p, hp, rfl⟩ := Option.map_eq_some_iff.mp hs'
          have e := List.find?_some hp
          simp only [Bool.and_eq_true, beq_iff_eq] at e
          obtain ⟨rfl, rfl⟩ := e
          exact m.sub p.1 p.2.1 p.2.2 (List.mem_of_find?_eq_some hp) hI a b h1 h2
      · have hn : vs.length = ds.length := rp.length
        refine ⟨Py.start t.c.nn ds, h0, ksOf (someQ Q0) (someX X0), rel, ?_, q, ?_⟩
        · show RelS K M H (vs.map some ++ List.replicate (t.N.length - vs.length) none) (ds.map some ++ List.replicate (t.c.nn - ds.length) none)
          rw [hn, o.nn]
          exact reps_some rp _
        · exact ⟨fun e2 h2 σ2 H2 ⟨h3, s3, q3⟩ t2 r2 _ => hq _ _ _ _ q3 (t2.part s3) (r2.part s3) .non, fun d h2 v H2 ⟨h3, s3, q3⟩ t2 r2 p2 => hq _ _ _ _ q3 (t2.part s3) (r2.part s3) p2, fun _ _ _ _ q2 => q2.elim, fun _ _ _ _ q2 => q2.elim,
            fun e2 c h2 σ2 H2 a ⟨h3, s3, q3⟩ t2 r2 _ hm => hx c h3 H2 a q3 (t2.part s3) (r2.part s3) hm⟩
end
theorem mN {α : Type} {p : α → Prop} : ∀ x ∈ ([] : List α), p x := fun _ h => nomatch h
theorem mC {α : Type} {p : α → Prop} {a : α} {l : List α} (h : p a) (t : ∀ x ∈ l, p x) : ∀ x ∈ a :: l, p x := fun x hx => (List.mem_cons.mp hx).elim (fun e => e ▸ h) (t x)
end Py
namespace Py
open L2 PySem.Spec PySem PyProof.Rows
/-! ### constants of the module -/
def allB (f : Value → D → Bool) : List Value → List D → Bool
  | [], [] => true
  | u :: us, d :: ds => f u d && allB f us ds
  | _, _ => false
def repB (K : PySem.W.Frag) : Nat → Value → D → Bool
  | 0, _, _ => false
  | n + 1, u, d => match d with
    | .non => (match u with
      | .none => true
      | _ => false)
    | .bl b => (match u with
      | .bool c => b == c
      | _ => false)
    | .int i => (match u with
      | .int j _ => decide (i = j)
      | _ => false)
    | .str x => (match u with
      | .str y _ => decide (x = y)
      | _ => false)
    | .fn x => (match u with
      | .ref a => He.eqO (PySem.W.nsIn K mainGlobals x) (some (some (.ref a)))
      | _ => false)
    | .tup ds => (match u with
      | .ref a =>
          (match K.lookup a with
        | some ⟨.type c, none, .seq its _, _⟩ => decide (c = "tuple") && (decide (its.size ≤ sizeLine) && allB (repB K n) its.toList ds)
        | _ => false)
      | _ => false)
    | .fl ds => (match u with
      | .ref a =>
          (match K.lookup a with
        | some ⟨.type c, none, .seq its _, _⟩ => decide (c = "list") && (decide (its.size ≤ sizeLine) && allB (repB K n) its.toList ds)
        | _ => false)
      | _ => false)
    | .loc _ => false
section
variable {K : PySem.W.Frag} {M : Str → Option Value} {h : Heap}
theorem repB_ok (X : K.In h) (G : h.Ns mainGlobals M) : ∀ (n : Nat) (u : Value) (d : D), repB K n u d = true → ∃ v, RelV v u ∧ ∀ H, Rep K M H v d
  | 0, u, d, q => by cases q
  | n + 1, u, d, q => by
    have all : ∀ (us : List Value) (ds : List D), allB (repB K n) us ds = true → ∃ vs, Vals vs us ∧ ∀ H, Reps K M H vs ds := by
      intro us
      induction us with
      | nil =>
        intro ds q
        cases ds with
        | nil => exact ⟨[], .nil, fun _ => .nil⟩
        | cons _ _ => cases q
      | cons u us ih =>
        intro ds q
        cases ds with
        | nil => cases q
        | cons d ds =>
          rw [allB, Bool.and_eq_true] at q
          obtain ⟨v, r1, r2⟩ := repB_ok X G n u d q.1
          obtain ⟨vs, r3, r4⟩ := ih ds q.2
          exact ⟨v :: vs, .cons r1 r3, fun H => .cons (r2 H) (r4 H)⟩
    unfold repB at q
    cases d with
    | non =>
      cases u with
      | none => exact ⟨.non, rfl, fun _ => .non⟩
      | _ => cases q
    | bl b =>
      cases u with
      | bool c =>
        have e : b = c := by simpa using q
        subst e
        exact ⟨.bl b, rfl, fun _ => .bl b⟩
      | _ => cases q
    | int i =>
      cases u with
      | int j t =>
        have e : i = j := by simpa using q
        subst e
        exact ⟨.int i, ⟨t, rfl⟩, fun _ => .int i⟩
      | _ => cases q
    | str x =>
      cases u with
      | str y t =>
        have e : x = y := by simpa using q
        subst e
        exact ⟨.str x, ⟨t, rfl⟩, fun _ => .str x⟩
      | _ => cases q
    | fn x =>
      cases u with
      | ref a => exact ⟨.ref a, rfl, fun _ => .fn (PySem.W.mg_of X G (He.eqO_ok q))⟩
      | _ => cases q
    | loc _ => cases q
    | tup ds =>
      cases u with
      | ref a =>
        simp only at q
        split at q
        · rename_i c its m sl e
          simp only [Bool.and_eq_true,
              decide_eq_true_eq] at q
          obtain ⟨rfl, hz, q⟩ := q
          obtain ⟨vs, r1, r2⟩ := all _ _ q
          exact ⟨.ref a, rfl, fun H => .tup (.inr ⟨_, its, m, e, rfl, rfl, rfl, hz, r1⟩) (r2 H)⟩
        · cases q
      | _ => cases q
    | fl ds =>
      cases u with
      | ref a =>
        simp only at q
        split at q
        · rename_i c its m sl e
          simp only [Bool.and_eq_true,
              decide_eq_true_eq] at q
          obtain ⟨rfl, hz, q⟩ := q
          obtain ⟨vs, r1, r2⟩ := all _ _ q
          exact ⟨.ref a, rfl, fun H => .fl (.inr ⟨_, its, m, e, rfl, rfl, rfl, hz, r1⟩) (r2 H)⟩
        · cases q
      | _ => cases q
def glB (gl : List (Str × D)) (K : PySem.W.Frag) : Bool := gl.all fun p => match PySem.W.nsIn K mainGlobals p.1 with
  | some (some u) => repB K 12 u p.2
  | _ => false
/-- what isinstance says of errors -/
def excB (K : PySem.W.Frag) (D : Addr) : Bool := He.eqO (PySem.W.findIn K (.ref D) "__getattribute__") (some (some (.builtin "BaseException.__getattribute__"))) && (He.eqO (PySem.W.findIn K (.ref D) "__getattr__") (some none) && (decide (PySem.W.subIn K (.ref D) (.type "BaseException") = some true) && (PySem.W.hasDictIn K D &&
  (He.eqO (PySem.W.findIn K (.ref D) "__class__") (some (some (.builtin "object.__class__"))) && (He.eqO (PySem.W.specialIn K (.builtin "object.__class__") "__get__") (some (some (.builtin "getset_descriptor.__get__"))) && (decide (PySem.W.takesIn K (.builtin "object.__class__") = some true) && decide (PySem.W.mroIn K D (.type "object") = some true)))))))
theorem excB_ok {K : PySem.W.Frag} {D : Addr} (h : excB K D = true) : ExcC K D := by
  unfold excB at h
  simp only [Bool.and_eq_true,
      decide_eq_true_eq] at h
  obtain ⟨a, b, c, d, e, f, g, i⟩ := h
  exact ⟨He.eqO_ok a, He.eqO_ok b, c, d, He.eqO_ok e, He.eqO_ok f, g, i⟩
def clB (K : PySem.W.Frag) (D : Addr) (t : Str) (k : Bool) : Bool := match PySem.W.nsIn K mainGlobals t with
  | some none => (match bootBuiltins t with
    | some (.type s) => decide (t ≠ "__name__") && decide (PySem.W.kitOne K (.ref D) (.type s) = some k)
    | _ => false)
  | some (some (.ref b)) => decide (PySem.W.kitOne K (.ref D) (.ref b) = some k)
  | _ => false
def isB (sb : List (Str × Str × Bool)) (K : PySem.W.Frag) : Bool := sb.all fun p => if isI p.2.1 = true then excB K (He.ga K p.1) && clB K (He.ga K p.1) (unN p.2.1) p.2.2 else true
def faOf (tb : List FnT) (sb : List (Str × Str × Bool)) (xs : List Str) : List He.Fa := (tb.map fun t => .glo t.name) ++ (blts.map .free ++ (xs.flatMap (fun c => [.glo c, .exc c]) ++ (sb.filter fun p => !isI p.2.1).map fun p => .exm p.1 p.2.1 p.2.2))
/-! ### the Hook -/
abbrev AlP : Type := He.AlD × Bool
def obsP (n : Nat) (fa : List He.Fa) (fn : List He.DefD) (gl : List (Str × D)) (sb : List (Str × Str × Bool)) (g : Addr → Option Obj) : AlP := (He.obsD fa fn (He.frG g (He.asD g n)), glB gl (He.frG g (He.asD g n)) && isB sb (He.frG g (He.asD g n)))
def hookP (n : Nat) (fa : List He.Fa) (fn : List He.DefD) (gl : List (Str × D)) (sb : List (Str × Str × Bool)) : PySem.W.Hook where
  α := AlP
  obs := fun s => obsP n fa fn gl sb s.heap.get?
  val := fun _ => (He.valD fn, true)
  says := fun _ h => ∃ K : PySem.W.Frag, K.In h ∧ He.SaysD fa fn K ∧ (glB gl K && isB sb K) = true
  of := fun _ _ e => ⟨_, He.frG_in, congrArg (fun z : AlP => z.1) e, congrArg (fun z : AlP => z.2) e⟩
  keeps :=
      fun _ _ _ ⟨K, hK, c⟩ k => ⟨K, PySem.W.Frag.In.keeps hK k, c⟩
theorem obsP_eq {n : Nat} {fa : List He.Fa} {fn : List He.DefD} {gl : List (Str × D)} {sb : List (Str × Str × Bool)} {g : Addr → Option Obj} {s : Shared} (h : ∀ a, g a = s.heap.get? a) : obsP n fa fn gl sb g = (hookP n fa fn gl sb).obs s := by
  have e : g = s.heap.get? :=
      funext h
  rw [e] <;> rfl
theorem mok_of {tb : List FnT} {gl : List (Str × D)} {sb : List (Str × Str × Bool)} {xs : List Str} (hsb : (sb.all fun p => xs.contains p.1 && (xs.contains p.2.1 || isI p.2.1)) = true) (X : K.In h) (G : h.Ns mainGlobals M) (c : He.SaysD (faOf tb sb xs) (tb.map FnT.d) K) (cg : glB gl K = true) (ci : isB sb K = true) : MOk K M tb gl sb xs := by
  have fx : ∀ f ∈ faOf tb sb xs, f.ok K = true := fun f hf => He.SaysD.facts c hf
  have hx : ∀ x ∈ xs, M x = some (.ref (He.ga K x)) := fun x hx => He.glo_ok X G (fx _ (List.mem_append_right _ (List.mem_append_right _ (List.mem_append_left _ (List.mem_flatMap.mpr ⟨x, hx, by simp⟩)))))
  refine ⟨fun t ht => ?_, fun x hx => ?_, fun x d hd => ?_, fun y hy => ?_, fun x t k hs a ha => ?_, fun x y k hs hI a b ha hb => ?_⟩
  · obtain ⟨fd, F⟩ := He.SaysD.defs c (d := t.d) (List.mem_map_of_mem ht)
    have hM := He.glo_ok X G (fx (.glo t.name) (List.mem_append_left _ (List.mem_map.mpr ⟨t, ht, rfl⟩)))
    exact ⟨_, fd, F, hM⟩
  · refine He.free_ok X G (fx (.free x) (List.mem_append_right _ (List.mem_append_left _ (List.mem_map.mpr ⟨x, ?_, rfl⟩))))
    unfold bltB at hx
    simpa using hx
  · have q := List.all_eq_true.mp cg _ hd
    simp only at q
    split at q
    · rename_i u e
      obtain ⟨v, r1, r2⟩ := repB_ok X G 12 u d q
      exact ⟨v, u, PySem.W.mg_of X G e, r1, r2⟩
    · cases q
  · have q := He.exc_ok (fx (.exc y) (List.mem_append_right _ (List.mem_append_right _ (List.mem_append_left _ (List.mem_flatMap.mpr ⟨y, hy, by simp⟩)))))
    exact ⟨_, hx y hy, q.2.1, q.2.2.1, q.2.2.2, q.1⟩
  · have q2 := List.all_eq_true.mp hsb _ hs
    rw [Bool.and_eq_true] at q2
    have e1 := (hx x (by simpa using q2.1)).symm.trans ha
    cases e1
    have q := List.all_eq_true.mp ci _ hs
    simp only [isI_N, if_true, unN_N, Bool.and_eq_true] at q
    refine ⟨excB_ok q.1, ?_⟩
    have q3 := q.2
    unfold clB at q3
    split at q3
    · rename_i e
      split at q3
      · rename_i s e3
        simp only [Bool.and_eq_true, decide_eq_true_eq] at q3
        exact .inl ⟨PySem.W.mg_none_of X G e, s, e3, q3.1, q3.2⟩
      · cases q3
    · rename_i b e
      exact .inr ⟨b, PySem.W.mg_of X G e, of_decide_eq_true q3⟩
    · cases q3
  · have q := He.exm_ok (fx (.exm x y k) (List.mem_append_right _ (List.mem_append_right _ (List.mem_append_right _ (List.mem_map.mpr ⟨_, List.mem_filter.mpr ⟨hs, by simp [hI]⟩, rfl⟩)))))
    have q2 := List.all_eq_true.mp hsb _ hs
    rw [Bool.and_eq_true] at q2
    have e1 := (hx x (by simpa using q2.1)).symm.trans ha
    have e2 := (hx y (by rw [hI, Bool.or_false] at q2; simpa using q2.2)).symm.trans hb
    cases e1
    cases e2
    exact q
end
def cxA (P : Program) : CXT := fun outer H s E e s' => ∃ w, L2.CX P w outer H s E e s'
theorem cx_no {P : Program} {w : World} {H : Hp} {s : Shared} {e : Value} {s' : Shared} (c : L2.CX P w [] H s (fun _ _ _ => False) e s') : False := by
  obtain ⟨_, _, _, _, _, _, _, _, _, _, _, _, z⟩ := c
  exact z
theorem fn_cx {P : Program} {w : World} {K : PySem.W.Frag} {mg : Str → Option Value} {base : Heap} {k : Nat} {f : Addr} {fd : FuncData} {ps : List Str} {sp : Sp} (F : FnOk P w K mg base (L2.CX P w) k f fd ps sp) : FnOk P w K mg base (cxA P) k f fd ps sp :=
  ⟨F.len, fun A outer s H args us vs Q E h1 h2 h3 h4 h5 => codeAny_mono (F.run A outer s H args us vs Q E h1 h2 h3 h4 h5) fun r s' q => by
    cases r with
    | error e => exact ⟨w, q⟩
    | ok fl => cases fl <;> exact q⟩
/-- THE END of a law: the abstract reading of law(script) comes to True -/
theorem law_end {l : PySem.W.OpenLaw} {k m : Nat} {q : Program} {loose : List Str} {XP : (Str → Option Value) → Heap → Prop} {d : DefRec} {tb : List FnT} {gl : List (Str × D)} {sb : List (Str × Str × Bool)} {xs : List Str} {t : FnT} {x : Str}
    (hl : l.most = some 63) (hdf : d.params.defaults = []) (hr : Room k callerA) (T : TOk tb gl xs) (hsb : (sb.all fun p => xs.contains p.1 && (xs.contains p.2.1 || isI p.2.1)) = true) (ht : tbF tb d.name = some t) (hps : t.ps = [x])
    (F : ∀ ns : List Int, ns.length ≤ 63 → wC (progOf tb gl sb) k d.name [.fl (ns.map D.int)] (fun _ => none) (fun v _ => v = .bl true) noX) :
    PySem.W.WalkO q loose XP (hookP m (faOf tb sb xs) (tb.map FnT.d) gl sb).says l.row.toRowW d [] (fun f vs => PySem.call f vs) := by
  refine L2.walk_ofE (n := 63) (k := k) (x := x) (CX := cxA l.prog) hl (by decide) hdf hr (fun w mg fa h Y G hmg => ?_) (fun H s e s' ⟨w, c⟩ => ?_)
  · obtain ⟨K, KX, c, cg⟩ := Y
    rw [Bool.and_eq_true] at cg
    have m := mok_of hsb KX G c cg.1 cg.2
    obtain ⟨tm, tn⟩ := tbF_mem ht
    obtain ⟨fa', fd, hF, hM⟩ := m.df t tm
    have e : fa = fa' := by
      have e1 := hmg.symm.trans ((congrArg mg tn.symm).trans hM)
      cases e1
      rfl
    subst e
    have o := T.ok t tm
    have hb := fun (s : Shared) (u : Value) => hF.bindsA (ps := t.ps) o.bd s [u] (by rw [hps]; rfl)
    refine ⟨K, fd, spOf K mg (wC (progOf tb gl sb) k) d.name t.ps.length, KX, fun s u => by have := hb s u; rw [hps] at this; exact this, fun H a ns hl hO hS => ?_, fun base hK hB => ?_⟩
    · refine ⟨by rw [hps]; rfl, fun _ => none, [.fl (ns.map D.int)], _, noX, (fun a o e => by cases e), .cons (.fl ?_ (Reps.ofInts ns)) .nil, F ns hl, fun d h' v H' e _ _ r => ?_, fun _ _ _ _ z => z.elim⟩
      · rcases hS with hS | hS
        · rcases hS with hS | hS
          · rcases hO a with z | ⟨o', xs', z⟩
            · rw [z] at hS; cases hS
            · rw [z] at hS; cases hS
          · exact .inl hS
        · exact .inr hS
      · subst e
        cases r
        rfl
    · have F2 := fnAll (pr := l.prog) (w := w) (base := base) T m k t fa fd (by rw [tn]; exact ht) hF hM
      have F3 := fn_cx F2.ok
      rw [tn, hps] at F3
      rw [hps]
      exact F3
  · exact cx_no c
end Py
namespace Py
open PySem (Str)
theorem wC_i {P : Prog} {n : Nat} {f : Str} {c : Fn} {ds : List D} {h : AH} {Q : D → AH → Prop} {X : Xc} (e : P.fn f = some c) (l : ds.length = c.np) (q : wB (wC P n) P.gl P.sub c.body (start c.nn ds) h (ksOf (someQ Q) (someX X))) : wC P (n + 1) f ds h Q X := ⟨c, e, l, q⟩
theorem sub_refl {h : AH} : Sub h h := fun _ _ e => e
theorem sub_put {h : AH} {a : Nat} {o : AO} (n : h a = none) : Sub h (put h a o) := fun b u e => by
  have : b ≠ a := fun z => by rw [z, n] at e; cases e
  rw [put_ne this]; exact e
theorem Sub.put {h h' : AH} {a : Nat} {o : AO} (s : Sub h h') (n : h a = none) : Sub h (put h' a o) := fun b u e => by
  have : b ≠ a := fun z => by rw [z, n] at e; cases e
  rw [put_ne this]; exact s b u e
theorem someX_i {X : Xc} {c : Str} {h : AH} (q : X c h) : someX X c h := ⟨h, sub_refl, q⟩
theorem someQ_i {Q : D → AH → Prop} {d : D} {h : AH} (q : Q d h) : someQ Q d h := ⟨h, sub_refl, q⟩
theorem someQ_s {Q : D → AH → Prop} {d : D} {h h' : AH} (s : Sub h h') (q : Q d h) : someQ Q d h' := ⟨h, s, q⟩
section
variable {cal : Cal} {G : Str → Option D} {Sb : Str → Str → Option Bool} {env : Env} {h : AH} {K : Ks} {X : Xc} {Q : Rv → AH → Prop} {QE : List D → AH → Prop} {QO : Option Int → AH → Prop} {QI : Src → AH → Prop}
/-- the rest of a body, not opened yet -/
def rB (cal : Cal) (G : Str → Option D) (Sb : Str → Str → Option Bool) (r : Sts) (K : Ks) : Env → AH → Prop := fun env h => wB cal G Sb r env h K
@[simp] theorem v_rB {r : Sts} : rB cal G Sb r K env h = wB cal G Sb r env h K := (rfl)
@[simp] theorem v_nil : wB cal G Sb .nil env h K = K.nx env h := (rfl)
@[simp] theorem v_cons {s : St} {r : Sts} : wB cal G Sb (.cons s r) env h K = wS cal G Sb s env h (K.then (rB cal G Sb r K)) := (rfl)
@[simp] theorem v_nx {n : Env → AH → Prop} : (K.then n).nx = n := (rfl)
@[simp] theorem v_rt {n : Env → AH → Prop} : (K.then n).rt = K.rt := (rfl)
@[simp] theorem v_bk {n : Env → AH → Prop} : (K.then n).bk = K.bk := (rfl)
@[simp] theorem v_ct {n : Env → AH → Prop} : (K.then n).ct = K.ct := (rfl)
@[simp] theorem v_ex {n : Env → AH → Prop} : (K.then n).ex = K.ex := (rfl)
@[simp] theorem v_tnx {n : Env → AH → Prop} : (K.turn n).nx = n := (rfl)
@[simp] theorem v_trt {n : Env → AH → Prop} : (K.turn n).rt = K.rt := (rfl)
@[simp] theorem v_tbk {n : Env → AH → Prop} : (K.turn n).bk = K.nx := (rfl)
@[simp] theorem v_tct {n : Env → AH → Prop} : (K.turn n).ct = n := (rfl)
@[simp] theorem v_tex {n : Env → AH → Prop} : (K.turn n).ex = K.ex := (rfl)
@[simp] theorem v_krt {Q : D → AH → Prop} {X : Xc} : (ksOf Q X).rt = Q := (rfl)
@[simp] theorem v_knx {Q : D → AH → Prop} {X : Xc} {env : Env} {h : AH} : (ksOf Q X).nx env h = Q .non h := (rfl)
@[simp] theorem v_kex {Q : D → AH → Prop} {X : Xc} {env : Env} : (ksOf Q X).ex env = X := (rfl)
@[simp] theorem v_asg {t : Tg} {e : Ex} : wS cal G Sb (.asg t e) env h K = wX cal G e env h (fun r h1 => rv r h1 fun d h2 => wTg t d env h2 K.nx) (K.ex env) := (rfl)
@[simp] theorem v_set {o i e : Ex} : wS cal G Sb (.set o i e) env h K = wX cal G e env h (fun r h1 => rv r h1 fun d h2 => wX cal G o env h2 (fun r2 h3 => rv r2 h3 fun a h4 => wX cal G i env h4 (fun r3 h5 => rv r3 h5 fun k h6 => gd (setD a k d h6) fun h7 => K.nx env h7) (K.ex env)) (K.ex env)) (K.ex env) := (rfl)
@[simp] theorem v_aug {i : Nat} {op : Bop} {e : Ex} : wS cal G Sb (.aug i op e) env h K = gd (lk env i) fun x => wX cal G e env h (fun r h1 => gd (augD op x r h1) fun p => rv p.1 p.2 fun d h2 => K.nx (env.set i (some d)) h2) (K.ex env) := (rfl)
@[simp] theorem v_expr {e : Ex} : wS cal G Sb (.expr e) env h K = wX cal G e env h (fun _ h1 => K.nx env h1) (K.ex env) := (rfl)
@[simp] theorem v_ifs {c : Ex} {a b : Sts} : wS cal G Sb (.ifs c a b) env h K = wX cal G c env h (fun r h1 => gd (tru r h1) fun k => if k = true then wB cal G Sb a env h1 K else wB cal G Sb b env h1 K) (K.ex env) := (rfl)
@[simp] theorem v_ret {e : Ex} : wS cal G Sb (.ret e) env h K = wX cal G e env h (fun r h1 => rv r h1 K.rt) (K.ex env) := (rfl)
@[simp] theorem v_retn : wS cal G Sb .retn env h K = K.rt .non h := (rfl)
@[simp] theorem v_rais {c : Str} : wS cal G Sb (.rais c) env h K = K.ex env c h := (rfl)
/-- what is wanted inside of a try -/
def Ks.tr (K : Ks) (S : Str → Str → Option Bool) (c : Str) (d : D) : Ks := ⟨K.nx, K.rt, K.bk, K.ct, fun env1 x h1 => gd (S x c) fun k => if k = true then K.rt d h1 else K.ex env1 x h1⟩
@[simp] theorem v_try {b : Sts} {c : Str} {d : D} : wS cal G Sb (.tryx b c d) env h K = wB cal G Sb b env h (K.tr Sb c d) := (rfl)
def Ks.tri (K : Ks) (S : Str → Str → Option Bool) (c : Str) (ts : List (Bool × Str)) : Ks := ⟨K.nx, K.rt, K.bk, K.ct, fun env1 x h1 => gd (S x c) fun k => if k = true then gd (isaAll S x ts) fun v => K.rt (.bl v) h1 else K.ex env1 x h1⟩
@[simp] theorem v_tryi {b : Sts} {c : Str} {ts : List (Bool × Str)} : wS cal G Sb (.tryi b c ts) env h K = wB cal G Sb b env h (K.tri Sb c ts) := (rfl)
@[simp] theorem v_trinx {S : Str → Str → Option Bool} {c : Str} {ts : List (Bool × Str)} : (K.tri S c ts).nx = K.nx := (rfl)
@[simp] theorem v_trirt {S : Str → Str → Option Bool} {c : Str} {ts : List (Bool × Str)} : (K.tri S c ts).rt = K.rt := (rfl)
@[simp] theorem v_tribk {S : Str → Str → Option Bool} {c : Str} {ts : List (Bool × Str)} : (K.tri S c ts).bk = K.bk := (rfl)
@[simp] theorem v_trict {S : Str → Str → Option Bool} {c : Str} {ts : List (Bool × Str)} : (K.tri S c ts).ct = K.ct := (rfl)
@[simp] theorem v_triex {S : Str → Str → Option Bool} {c : Str} {ts : List (Bool × Str)} {x : Str} : (K.tri S c ts).ex env x h = gd (S x c) fun k => if k = true then gd (isaAll S x ts) fun v => K.rt (.bl v) h else K.ex env x h := (rfl)
@[simp] theorem v_trnx {S : Str → Str → Option Bool} {c : Str} {d : D} : (K.tr S c d).nx = K.nx := (rfl)
@[simp] theorem v_trrt {S : Str → Str → Option Bool} {c : Str} {d : D} : (K.tr S c d).rt = K.rt := (rfl)
@[simp] theorem v_trbk {S : Str → Str → Option Bool} {c : Str} {d : D} : (K.tr S c d).bk = K.bk := (rfl)
@[simp] theorem v_trct {S : Str → Str → Option Bool} {c : Str} {d : D} : (K.tr S c d).ct = K.ct := (rfl)
@[simp] theorem v_trex {S : Str → Str → Option Bool} {c : Str} {d : D} {x : Str} : (K.tr S c d).ex env x h = gd (S x c) fun k => if k = true then K.rt d h else K.ex env x h := (rfl)
@[simp] theorem v_pass : wS cal G Sb .pass env h K = K.nx env h := (rfl)
@[simp] theorem v_brk : wS cal G Sb .brk env h K = K.bk env h := (rfl)
@[simp] theorem v_cnt : wS cal G Sb .cnt env h K = K.ct env h := (rfl)
@[simp] theorem v_lit {d : D} : wX cal G (.lit d) env h Q X = Q (.v d) h := (rfl)
@[simp] theorem v_var {i : Nat} : wX cal G (.var i) env h Q X = gd (lk env i) fun d => Q (.v d) h := (rfl)
@[simp] theorem v_glo {x : Str} : wX cal G (.glo x) env h Q X = gd (G x) fun d => Q (.v d) h := (rfl)
@[simp] theorem v_bin {op : Bop} {a b : Ex} : wX cal G (.bin op a b) env h Q X = wX cal G a env h (fun x h1 => wX cal G b env h1 (fun y h2 => gd (binD op x y h2) fun r => Q r h2) X) X := (rfl)
@[simp] theorem v_cmp {op : Cop} {a b : Ex} : wX cal G (.cmp op a b) env h Q X = wX cal G a env h (fun x h1 => wX cal G b env h1 (fun y h2 => gd (cmpD op x y h2) fun k => Q (.v (.bl k)) h2) X) X := (rfl)
@[simp] theorem v_chain {o1 o2 : Cop} {a b c : Ex} : wX cal G (.chain o1 o2 a b c) env h Q X = wX cal G a env h (fun x h1 => wX cal G b env h1 (fun y h2 => gd (cmpD o1 x y h2) fun k => if k = true then wX cal G c env h2 (fun z h3 => gd (cmpD o2 y z h3) fun k2 => Q (.v (.bl k2)) h3) X else Q (.v (.bl false)) h2) X) X := (rfl)
@[simp] theorem v_isc {neg : Bool} {a : Ex} {c : D} : wX cal G (.isc neg a c) env h Q X = wX cal G a env h (fun x h1 => gd (isD x c) fun k => Q (.v (.bl (k != neg))) h1) X := (rfl)
@[simp] theorem v_and {a b : Ex} : wX cal G (.and a b) env h Q X = wX cal G a env h (fun x h1 => gd (tru x h1) fun k => if k = true then wX cal G b env h1 Q X else Q x h1) X := (rfl)
@[simp] theorem v_or {a b : Ex} : wX cal G (.or a b) env h Q X = wX cal G a env h (fun x h1 => gd (tru x h1) fun k => if k = true then Q x h1 else wX cal G b env h1 Q X) X := (rfl)
@[simp] theorem v_not {a : Ex} : wX cal G (.not a) env h Q X = wX cal G a env h (fun x h1 => gd (tru x h1) fun k => Q (.v (.bl (!k))) h1) X := (rfl)
@[simp] theorem v_neg {a : Ex} : wX cal G (.neg a) env h Q X = wX cal G a env h (fun x h1 => gd (asInt x) fun i => Q (.v (.int (-i))) h1) X := (rfl)
@[simp] theorem v_ite {c a b : Ex} : wX cal G (.ite c a b) env h Q X = wX cal G c env h (fun x h1 => gd (tru x h1) fun k => if k = true then wX cal G a env h1 Q X else wX cal G b env h1 Q X) X := (rfl)
@[simp] theorem v_tup {es : Es} : wX cal G (.tup es) env h Q X = wEs cal G es env h (fun ds h1 => ds.length ≤ 16777216 ∧ Q (.v (.tup ds)) h1) X := (rfl)
@[simp] theorem v_lst {es : Es} : wX cal G (.lst es) env h Q X = wEs cal G es env h (fun ds h1 => ds.length ≤ 16777216 ∧ Q (.o (.lst ds)) h1) X := (rfl)
@[simp] theorem v_call {f : Str} {es : Es} : wX cal G (.call f es) env h Q X = wEs cal G es env h (fun ds h1 => cal f ds h1 (fun d h2 => Q (.v d) h2) X) X := (rfl)
@[simp] theorem v_b1 {b : Bi} {a : Ex} : wX cal G (.b1 b a) env h Q X = wX cal G a env h (fun x h1 => gd (b1D b x h1) fun r => Q r h1) X := (rfl)
@[simp] theorem v_b2 {b : B2} {a c : Ex} : wX cal G (.b2 b a c) env h Q X = wX cal G a env h (fun x h1 => rv x h1 fun x1 h2 => wX cal G c env h2 (fun y h3 => rv y h3 fun y1 h4 => gd (b2D b x1 y1) fun r => Q (.v r) h4) X) X := (rfl)
@[simp] theorem v_mt {m : Mt} {o : Ex} {es : Es} : wX cal G (.mt m o es) env h Q X = wX cal G o env h (fun x h1 => mtChk m x h1 = true ∧ wEs cal G es env h1 (fun ds h2 => gd (mtD m x ds h2) fun p => Q p.1 p.2) X) X := (rfl)
@[simp] theorem v_ix {a i : Ex} : wX cal G (.ix a i) env h Q X = wX cal G a env h (fun x h1 => wX cal G i env h1 (fun y h2 => gd (ixD x y h2) fun d => Q (.v d) h2) X) X := (rfl)
@[simp] theorem v_sl {a : Ex} {lo hi : Oe} : wX cal G (.sl a lo hi) env h Q X = wX cal G a env h (fun x h1 => wO cal G lo env h1 (fun l h2 => wO cal G hi env h2 (fun u h3 => gd (slD x l u h3) fun r => Q r h3) X) X) X := (rfl)
@[simp] theorem v_rng {t : Bool} {it : It} : wX cal G (.rng t it) env h Q X = wI cal G it env h (fun s h1 => s.items.length ≤ 16777216 ∧ Q (if t = true then .v (.tup s.items) else .o (.lst s.items)) h1) X := (rfl)
@[simp] theorem v_esn : wEs cal G .nil env h QE X = QE [] h := (rfl)
@[simp] theorem v_esc {e : Ex} {es : Es} : wEs cal G (.cons e es) env h QE X = wX cal G e env h (fun r h1 => rv r h1 fun d h2 => wEs cal G es env h2 (fun ds h3 => QE (d :: ds) h3) X) X := (rfl)
@[simp] theorem v_ono : wO cal G .no env h QO X = QO none h := (rfl)
@[simp] theorem v_oso {e : Ex} : wO cal G (.so e) env h QO X = wX cal G e env h (fun r h1 => gd (asInt r) fun i => QO (some i) h1) X := (rfl)
@[simp] theorem v_iseq {e : Ex} : wI cal G (.seq e) env h QI X = wX cal G e env h (fun r h1 => gd (srcOf r h1) fun s => QI s h1) X := (rfl)
@[simp] theorem v_ir1 {a : Ex} : wI cal G (.rng1 a) env h QI X = wX cal G a env h (fun r h1 => gd (asInt r) fun j => small62 j = true ∧ QI (.fix (rngL 0 j.toNat)) h1) X := (rfl)
@[simp] theorem v_ir2 {a b : Ex} : wI cal G (.rng2 a b) env h QI X = wX cal G a env h (fun r h1 => gd (asInt r) fun i => wX cal G b env h1 (fun r2 h2 => gd (asInt r2) fun j => (small62 i && small62 j) = true ∧ QI (.fix (rngL i (j - i).toNat)) h2) X) X := (rfl)
@[simp] theorem v_tnm {i : Nat} {d : D} {k : Env → AH → Prop} : wTg (.nm i) d env h k = k (env.set i (some d)) h := (rfl)
@[simp] theorem v_ttp {ts : Tgs} {d : D} {k : Env → AH → Prop} : wTg (.tp ts) d env h k = gd (sqV (.v d) h) fun xs => wTgs ts xs env h k := (rfl)
@[simp] theorem v_tsn {xs : List D} {k : Env → AH → Prop} : wTgs .nil xs env h k = (xs = [] ∧ k env h) := (rfl)
@[simp] theorem v_tsc {t : Tg} {ts : Tgs} {x : D} {r : List D} {k : Env → AH → Prop} : wTgs (.cons t ts) (x :: r) env h k = wTg t x env h fun env1 h1 => wTgs ts r env1 h1 k := (rfl)
@[simp] theorem v_tse {t : Tg} {ts : Tgs} {k : Env → AH → Prop} : wTgs (.cons t ts) [] env h k = False := (rfl)
end
@[simp] theorem v_lk0 {o : Option D} {r : Env} : lk (o :: r) 0 = o := by cases o <;> rfl
@[simp] theorem v_lkS {o : Option D} {r : Env} {n : Nat} : lk (o :: r) (n + 1) = lk r n := (rfl)
@[simp] theorem v_asInt {i : Int} : asInt (.v (.int i)) = some i := (rfl)
@[simp] theorem v_start {n : Nat} {ds : List D} : start n ds = ds.map some ++ List.replicate (n - ds.length) none := (rfl)
@[simp] theorem v_fixi {xs : List D} : (Src.fix xs).items = xs := (rfl)
@[simp] theorem v_fixc {xs : List D} {h : AH} : (Src.fix xs).chk h = True := (rfl)
@[simp] theorem v_lsti {a : Nat} {xs : List D} : (Src.lst a xs).items = xs := (rfl)
@[simp] theorem v_lstc {a : Nat} {xs : List D} {h : AH} : (Src.lst a xs).chk h = (h a = some (.lst xs)) := (rfl)
/-- a walk over a list, by a word -/
theorem wFor_by {chk : AH → Prop} {bd : D → Env → AH → (Env → AH → Prop) → Prop} {nx : Env → AH → Prop} (mono : ∀ x e h k k', (∀ e h, k e h → k' e h) → bd x e h k → bd x e h k') {xs : List D} (I : Nat → Env → AH → Prop) {env : Env} {h : AH} (h0 : I 0 env h)
    (hc : ∀ i env h, i ≤ xs.length → I i env h → chk h) (hs : ∀ (i : Nat) (x : D) (env : Env) (h : AH), xs[i]? = some x → I i env h → bd x env h (I (i + 1))) (hn : ∀ env h, I xs.length env h → nx env h) : wFor chk bd nx xs env h := by
  have key : ∀ (ys : List D) (i : Nat) (env : Env) (h : AH), ys = xs.drop i → i ≤ xs.length → I i env h → wFor chk bd nx ys env h := by
    intro ys
    induction ys with
    | nil =>
      intro i env h e hi q
      have : i = xs.length := by
        have := congrArg List.length e
        simp at this
        omega
      subst this
      exact ⟨hc _ _ _ hi q, hn _ _ q⟩
    | cons y ys ih =>
      intro i env h e hi q
      have hlt :
          i < xs.length := by
        have := congrArg List.length e
        simp at this
        omega
      have hx : xs[i]? = some y := by
        have := congrArg (fun l => l[0]?) e
        simpa using this.symm
      refine ⟨hc _ _ _ hi q, mono _ _ _ _ _ (fun env1 h1 q1 => ih (i + 1) env1 h1 ?_ hlt q1) (hs i y env h hx q)⟩
      rw [List.drop_eq_getElem_cons hlt] at e
      exact (List.cons.inj e).2
  exact key xs 0 env h rfl (Nat.zero_le _) h0
theorem bdF_mono {P : Prog} {n : Nat} {t : Tg} {b : Sts} {K : Ks} : ∀ x e h k k', (∀ e h, k e h → k' e h) → bdF (wTg t) (wB (wC P n) P.gl P.sub b) K x e h k → bdF (wTg t) (wB (wC P n) P.gl P.sub b) K x e h k' := fun x e h k k' m q =>
  mTg t _ _ _ _ _ (fun e3 h3 q => mB (wC_mono P n) b e3 h3 (K.turn k) (K.turn k') ⟨m, fun _ _ z => z, fun _ _ z => z, m, fun _ _ _ z => z⟩ q) q
/-- a walk, not opened yet -/
def ForG (cal : Cal) (G : Str → Option D) (Sb : Str → Str → Option Bool) (t : Tg) (b : Sts) (K : Ks) (env : Env) (s : Src) (h : AH) : Prop := wFor s.chk (bdF (wTg t) (wB cal G Sb b) K) K.nx s.items env h
@[simp] theorem v_for {cal : Cal} {G : Str → Option D} {Sb : Str → Str → Option Bool} {t : Tg} {it : It} {b : Sts} {env : Env} {h : AH} {K : Ks} : wS cal G Sb (.for_ t it b) env h K = wI cal G it env h (fun s h1 => ForG cal G Sb t b K env s h1) (K.ex env) := (rfl)
section
variable {P : Prog} {n : Nat} {t : Tg} {b : Sts} {env : Env} {h : AH} {K : Ks} {xs : List D} {a : Nat}
/-- over what stays -/
theorem for_f (I : Nat → Env → AH → Prop) (h0 : I 0 env h) (hs : ∀ (i : Nat) (x : D) (env : Env) (h : AH) (N : Env → AH → Prop), xs[i]? = some x → I i env h → (∀ env h, I (i + 1) env h → N env h) → wTg t x env h fun e3 h3 => wB (wC P n) P.gl P.sub b e3 h3 (K.turn N))
    (hn : ∀ env h, I xs.length env h → K.nx env h) : ForG (wC P n) P.gl P.sub t b K env (.fix xs) h := wFor_by bdF_mono I h0 (fun _ _ _ _ _ => trivial) (fun i x env h hx hi => hs i x env h _ hx hi fun _ _ z => z) hn
/-- over a list of the heap -/
theorem for_l (I : Nat → Env → AH → Prop) (h0 : I 0 env h) (hc : ∀ i env h, i ≤ xs.length → I i env h → h a = some (.lst xs)) (hs : ∀ (i : Nat) (x : D) (env : Env) (h : AH) (N : Env → AH → Prop), xs[i]? = some x → I i env h → (∀ env h, I (i + 1) env h → N env h) → wTg t x env h fun e3 h3 => wB (wC P n) P.gl P.sub b e3 h3 (K.turn N))
    (hn : ∀ env h, I xs.length env h → K.nx env h) : ForG (wC P n) P.gl P.sub t b K env (.lst a xs) h := wFor_by bdF_mono I h0 (fun i e h hi q => hc i e h hi q) (fun i x env h hx hi => hs i x env h _ hx hi fun _ _ z => z) hn
/-- a loop, by a word and a measure -/
theorem whl_i {c : Ex} {b : Sts} (I : Nat → Env → AH → Prop) (m0 : Nat) (h0 : I m0 env h) (hs : ∀ (m : Nat) (env : Env) (h : AH) (N : Env → AH → Prop), I m env h → (∀ m' env h, m' < m → I m' env h → N env h) → wX (wC P n) P.gl c env h (fun r h1 => gd (tru r h1) fun k => if k = true then wB (wC P n) P.gl P.sub b env h1 (K.turn N) else K.nx env h1) (K.ex env)) :
    wS (wC P n) P.gl P.sub (.whl c b) env h K := ⟨I, ⟨m0, h0⟩, fun m env h q => hs m env h _ q fun m' e h hm q => ⟨m', hm, q⟩⟩
end
theorem rngL_at {lo : Int} {n i : Nat} {x : D} (h : (rngL lo n)[i]? = some x) : i < n ∧ x = .int (lo + (i : Int)) := by
  simp only [rngL, List.getElem?_map, Option.map_eq_some_iff] at h
  obtain ⟨k, hk, rfl⟩ := h
  obtain ⟨hl, e⟩ := List.getElem?_eq_some_iff.mp hk
  rw [List.length_range] at hl
  rw [List.getElem_range] at e
  subst e
  exact ⟨hl, rfl⟩
@[simp] theorem rngL_length {lo : Int} {n : Nat} : (rngL lo n).length = n := by simp [rngL]
/-- turns that leave the heap as it is -/
theorem wComp_map {chk : AH → Prop} {step : D → AH → (Option D → AH → Prop) → Prop} {f : D → Option D} {h : AH} {Q : List D → AH → Prop} (hc : chk h) : ∀ {xs acc : List D}, (∀ x ∈ xs, ∀ k : Option D → AH → Prop, k (f x) h → step x h k) → acc.length + xs.length ≤ 16777216 → Q (acc ++ xs.filterMap f) h →
    wComp chk step xs acc h Q
  | [], acc, hs, hl, q => ⟨hc, by simpa using q⟩
  | x :: r, acc, hs, hl, q => by
    refine ⟨hc, hs x List.mem_cons_self _ ?_⟩
    have hl' : acc.length + (r.length + 1) ≤ 16777216 := by simpa using hl
    cases e : f x with
    | none => exact wComp_map hc (fun y hy => hs y (List.mem_cons_of_mem _ hy)) (by omega) (by simpa [List.filterMap_cons, e] using q)
    | some y => exact ⟨by omega, wComp_map hc (fun y hy => hs y (List.mem_cons_of_mem _ hy)) (by simp; omega) (by simpa [List.filterMap_cons, e] using q)⟩
theorem wComp_by {chk : AH → Prop} {step : D → AH → (Option D → AH → Prop) → Prop} (mono : ∀ x h k k', (∀ o h, k o h → k' o h) → step x h k → step x h k') {xs : List D} {Q : List D → AH → Prop} (I : Nat → List D → AH → Prop) {acc : List D} {h : AH} (h0 : I 0 acc h)
    (hc : ∀ i acc h, i ≤ xs.length → I i acc h → chk h) (hs : ∀ (i : Nat) (x : D) (acc : List D) (h : AH), xs[i]? = some x → I i acc h → step x h fun o h1 => match o with
      | none => I (i + 1) acc h1
      | some y => acc.length < 16777216 ∧ I (i + 1) (acc ++ [y]) h1) (hn : ∀ acc h, I xs.length acc h → Q acc h) : wComp chk step xs acc h Q := by
  have key : ∀ (ys : List D) (i : Nat) (acc : List D) (h : AH), ys = xs.drop i → i ≤ xs.length → I i acc h → wComp chk step ys acc h Q := by
    intro ys
    induction ys with
    | nil =>
      intro i acc h e hi q
      have : i = xs.length := by
        have := congrArg List.length e
        simp at this
        omega
      subst this
      exact ⟨hc _ _ _ hi q, hn _ _ q⟩
    | cons y ys ih =>
      intro i acc h e hi q
      have hlt :
          i < xs.length := by
        have := congrArg List.length e
        simp at this
        omega
      have hx : xs[i]? = some y := by
        have := congrArg (fun l => l[0]?) e
        simpa using this.symm
      rw [List.drop_eq_getElem_cons hlt] at e
      refine ⟨hc _ _ _ hi q, mono _ _ _ _ (fun o h1 q1 => ?_) (hs i y acc h hx q)⟩
      cases o with
      | none => exact ih (i + 1) acc h1 (List.cons.inj e).2 hlt q1
      | some z => exact ⟨q1.1, ih (i + 1) _ h1 (List.cons.inj e).2 hlt q1.2⟩
  exact key xs 0 acc h rfl (Nat.zero_le _) h0
/-- a comprehension's turns, not opened yet -/
def CompG (cal : Cal) (G : Str → Option D) (t : Tg) (own : List Nat) (e : Ex) (env : Env) (s : Src) (h : AH) (Q : List D → AH → Prop) : Prop := wComp s.chk (stepC (wTg t) env own (wX cal G e)) s.items [] h Q
def CompiG (cal : Cal) (G : Str → Option D) (t : Tg) (own : List Nat) (c e : Ex) (env : Env) (s : Src) (h : AH) (Q : List D → AH → Prop) : Prop := wComp s.chk (stepCi (wTg t) env own (wX cal G c) (wX cal G e)) s.items [] h Q
section
variable {cal : Cal} {G : Str → Option D} {t : Tg} {it : It} {own : List Nat} {c e : Ex} {env : Env} {h : AH} {Q : Rv → AH → Prop} {X : Xc}
@[simp] theorem v_comp : wX cal G (.comp t it own e) env h Q X = wI cal G it env h (fun s h1 => CompG cal G t own e env s h1 fun acc h2 => Q (.o (.lst acc)) h2) X := (rfl)
@[simp] theorem v_compi : wX cal G (.compi t it own c e) env h Q X = wI cal G it env h (fun s h1 => CompiG cal G t own c e env s h1 fun acc h2 => Q (.o (.lst acc)) h2) X := (rfl)
end
section
variable {P : Prog} {n : Nat} {t : Tg} {own : List Nat} {c e : Ex} {env : Env} {h : AH} {Q : List D → AH → Prop} {s : Src}
/-- [e for t in ..], the heap as it is -/
theorem comp_m (f : D → D) (hc : s.chk h) (hl : s.items.length ≤ 16777216) (hs : ∀ x ∈ s.items, ∀ k : D → AH → Prop, k (f x) h → wTg t x (wipe env own) h fun e2 h3 => wX (wC P n) P.gl e e2 h3 (fun r h4 => rv r h4 k) noX) (hq : Q (s.items.map f) h) :
    CompG (wC P n) P.gl t own e env s h Q := wComp_map (f := fun x => some (f x)) hc (fun x hx k hk => hs x hx _ hk) (by simpa using hl) (by simpa using hq)
theorem filterMap_if (p : D → Bool) (f : D → D) (xs : List D) : (xs.filterMap fun x => if p x = true then some (f x) else none) = (xs.filter p).map f := by
  induction xs with
  | nil => rfl
  | cons x r ih =>
    rw [List.filterMap_cons, List.filter_cons]
    cases p x <;> simp [ih]
/-- [e for t in .. if c] -/
theorem compi_m (p : D → Bool) (f : D → D) (hc : s.chk h) (hl : s.items.length ≤ 16777216) (hs : ∀ x ∈ s.items, ∀ k : Option D → AH → Prop, k (if p x = true then some (f x) else none) h → wTg t x (wipe env own) h fun e2 h3 =>
      wX (wC P n) P.gl c e2 h3 (fun b h4 => gd (tru b h4) fun b => if b = true then wX (wC P n) P.gl e e2 h4 (fun r h5 => rv r h5 fun d h6 => k (some d) h6) noX else k none h4) noX) (hq : Q ((s.items.filter p).map f) h) : CompiG (wC P n) P.gl t own c e env s h Q :=
  wComp_map (f := fun x => if p x = true then some (f x) else none) hc (fun x hx k hk => hs x hx _ hk) (by simpa using hl) (by rw [List.nil_append, filterMap_if]; exact hq)
/-- .., by a word -/
theorem comp_by (I : Nat → List D → AH → Prop) (h0 : I 0 [] h) (hc : ∀ i acc h, i ≤ s.items.length → I i acc h → s.chk h) (hs : ∀ (i : Nat) (x : D) (acc : List D) (h : AH) (N : List D → AH → Prop), s.items[i]? = some x → I i acc h → (∀ acc h, I (i + 1) acc h → N acc h) →
      wTg t x (wipe env own) h fun e2 h3 => wX (wC P n) P.gl e e2 h3 (fun r h4 => rv r h4 fun d h5 => acc.length < 16777216 ∧ N (acc ++ [d]) h5) noX) (hq : ∀ acc h, I s.items.length acc h → Q acc h) : CompG (wC P n) P.gl t own e env s h Q :=
  wComp_by (mStepC (mTg t) (mX (wC_mono P n) e)) I h0 hc (fun i x acc h hx hi => hs i x acc h _ hx hi fun _ _ z => z) hq
theorem compi_by (I : Nat → List D → AH → Prop) (h0 : I 0 [] h) (hc : ∀ i acc h, i ≤ s.items.length → I i acc h → s.chk h) (hs : ∀ (i : Nat) (x : D) (acc : List D) (h : AH) (N : List D → AH → Prop), s.items[i]? = some x → I i acc h → (∀ acc h, I (i + 1) acc h → N acc h) →
      wTg t x (wipe env own) h fun e2 h3 => wX (wC P n) P.gl c e2 h3 (fun b h4 => gd (tru b h4) fun b => if b = true then wX (wC P n) P.gl e e2 h4 (fun r h5 => rv r h5 fun d h6 => acc.length < 16777216 ∧ N (acc ++ [d]) h6) noX else N acc h4) noX)
    (hq : ∀ acc h, I s.items.length acc h → Q acc h) : CompiG (wC P n) P.gl t own c e env s h Q :=
  wComp_by (mStepCi (mTg t) (mX (wC_mono P n) c) (mX (wC_mono P n) e)) I h0 hc (fun i x acc h hx hi => hs i x acc h _ hx hi fun _ _ z => z) hq
end
/-- a body cut behind a statement -/
theorem cut_i {P : Prog} {n : Nat} {s : St} {r : Sts} {env : Env} {h : AH} {K : Ks} (R : Env → AH → Prop) (h1 : ∀ N : Env → AH → Prop, (∀ env h, R env h → N env h) → wS (wC P n) P.gl P.sub s env h (K.then N)) (h2 : ∀ env h, R env h → wB (wC P n) P.gl P.sub r env h K) : wB (wC P n) P.gl P.sub (.cons s r) env h K :=
  mS (wC_mono P n) s env h (K.then R) (K.then (rB (wC P n) P.gl P.sub r K)) ⟨h2, fun _ _ z => z, fun _ _ z => z, fun _ _ z => z, fun _ _ _ z => z⟩ (h1 R fun _ _ z => z)
/-- all(..), any(..) of what is just made -/
def allP {α : Type} (p : α → Bool) (xs : List α) : Bool := xs.all p
def anyP {α : Type} (p : α → Bool) (xs : List α) : Bool := xs.any p
theorem allP_iff {α : Type} {p : α → Bool} {xs : List α} : allP p xs = true ↔ ∀ x ∈ xs, p x = true := List.all_eq_true
theorem anyP_iff {α : Type} {p : α → Bool} {xs : List α} : anyP p xs = true ↔ ∃ x ∈ xs, p x = true := List.any_eq_true
theorem blsL_p {α : Type} (p : α → Bool) : ∀ xs : List α, blsL (xs.map fun x => D.bl (p x)) = some (xs.map p)
  | [] => rfl
  | x :: xs => by show (blsL (xs.map fun x => D.bl (p x))).map (p x :: ·) = _; rw [blsL_p p xs]; rfl
theorem all_p {α : Type} (p : α → Bool) (xs : List α) (h : AH) : b1D .all (.o (.lst (xs.map fun x => D.bl (p x)))) h = some (.v (.bl (allP p xs))) := by
  show (blsL (xs.map fun x => D.bl (p x))).map (fun bs => Rv.v (D.bl (bs.all id))) = _
  rw [blsL_p]
  simp [allP, Function.comp_def]
theorem any_p {α : Type} (p : α → Bool) (xs : List α) (h : AH) : b1D .any (.o (.lst (xs.map fun x => D.bl (p x)))) h = some (.v (.bl (anyP p xs))) := by
  show (blsL (xs.map fun x => D.bl (p x))).map (fun bs => Rv.v (D.bl (bs.any id))) = _
  rw [blsL_p]
  simp [anyP, Function.comp_def]
def dI : D → Int
  | .int i => i
  | _ => 0
@[simp] theorem dI_int {i : Int} : dI (.int i) = i := rfl
/-! ### what the steps come to -/
section
variable {h : AH} {i j : Int} {b b' : Bool} {s t : Str} {xs ys : List D} {a : Nat} {d : D}
@[simp] theorem t_non : tru (.v .non) h = some false := rfl
@[simp] theorem t_bl : tru (.v (.bl b)) h = some b := rfl
@[simp] theorem t_int : tru (.v (.int i)) h = some (i != 0) := rfl
@[simp] theorem t_tup : tru (.v (.tup xs)) h = some (!xs.isEmpty) := rfl
@[simp] theorem t_o : tru (.o (.lst xs)) h = some (!xs.isEmpty) := rfl
@[simp] theorem t_loc (e : h a = some (.lst xs)) : tru (.v (.loc a)) h = some (!xs.isEmpty) := by simp [tru, ob, e]
@[simp] theorem l_fl : lsV (.v (.fl xs)) h = some xs := rfl
@[simp] theorem l_o : lsV (.o (.lst xs)) h = some xs := rfl
@[simp] theorem l_loc (e : h a = some (.lst xs)) : lsV (.v (.loc a)) h = some xs := by simp [lsV, ob, e]
@[simp] theorem l_tup : lsV (.v (.tup xs)) h = none := rfl
@[simp] theorem lt_o : ltV (.o (.lst xs)) h = some xs := rfl
@[simp] theorem lt_loc (e : h a = some (.lst xs)) : ltV (.v (.loc a)) h = some xs := by simp [ltV, ob, e]
@[simp] theorem s_tupV : sqV (.v (.tup xs)) h = some xs := rfl
@[simp] theorem s_flV : sqV (.v (.fl xs)) h = some xs := rfl
@[simp] theorem s_oV : sqV (.o (.lst xs)) h = some xs := rfl
@[simp] theorem s_locV (e : h a = some (.lst xs)) : sqV (.v (.loc a)) h = some xs := by simp [sqV, lsV, ob, e]
@[simp] theorem n_len_t : b1D .len (.v (.tup xs)) h = some (.v (.int xs.length)) := rfl
@[simp] theorem n_len_f : b1D .len (.v (.fl xs)) h = some (.v (.int xs.length)) := rfl
@[simp] theorem n_len_o : b1D .len (.o (.lst xs)) h = some (.v (.int xs.length)) := rfl
@[simp] theorem n_len_l (e : h a = some (.lst xs)) : b1D .len (.v (.loc a)) h = some (.v (.int xs.length)) := by simp [b1D, e]
@[simp] theorem n_int_i : b1D .int (.v (.int i)) h = some (.v (.int i)) := rfl
@[simp] theorem n_int_b : b1D .int (.v (.bl b)) h = some (.v (.int (if b then 1 else 0))) := rfl
@[simp] theorem n_bool_i : b1D .bool (.v (.int i)) h = some (.v (.bl (i != 0))) := rfl
@[simp] theorem n_bool_b : b1D .bool (.v (.bl b)) h = some (.v (.bl b)) := rfl
@[simp] theorem n_abs : b1D .abs (.v (.int i)) h = some (.v (.int (if i < 0 then -i else i))) := rfl
@[simp] theorem n_tup_t : b1D .tup (.v (.tup xs)) h = some (.v (.tup xs)) := rfl
@[simp] theorem n_tup_f : b1D .tup (.v (.fl xs)) h = some (.v (.tup xs)) := rfl
@[simp] theorem n_tup_o : b1D .tup (.o (.lst xs)) h = some (.v (.tup xs)) := rfl
@[simp] theorem n_tup_l (e : h a = some (.lst xs)) : b1D .tup (.v (.loc a)) h = some (.v (.tup xs)) := by simp [b1D, e]
@[simp] theorem n_lst_t : b1D .lst (.v (.tup xs)) h = some (.o (.lst xs)) := rfl
@[simp] theorem n_lst_f : b1D .lst (.v (.fl xs)) h = some (.o (.lst xs)) := rfl
@[simp] theorem n_lst_o : b1D .lst (.o (.lst xs)) h = some (.o (.lst xs)) := rfl
@[simp] theorem n_lst_l (e : h a = some (.lst xs)) : b1D .lst (.v (.loc a)) h = some (.o (.lst xs)) := by simp [b1D, e]
@[simp] theorem i_non {t : Ty} : isTy (.v .non) t h = some false := rfl
@[simp] theorem i_bl {t : Ty} : isTy (.v (.bl b)) t h = some (match t with | .bool => true | .int => true | _ => false) := rfl
@[simp] theorem i_int {t : Ty} : isTy (.v (.int i)) t h = some (match t with | .int => true | _ => false) := rfl
@[simp] theorem i_str {t : Ty} : isTy (.v (.str s)) t h = some (match t with | .str => true | _ => false) := rfl
@[simp] theorem i_tup {t : Ty} : isTy (.v (.tup xs)) t h = some (match t with | .tup => true | _ => false) := rfl
@[simp] theorem n_isa {t : Ty} {x : Rv} : b1D (.isa t) x h = (isTy x t h).map fun b => .v (.bl b) := rfl
@[simp] theorem o_add : binD .add (.v (.int i)) (.v (.int j)) h = some (.v (.int (i + j))) := rfl
@[simp] theorem o_addt (e : xs.length + ys.length ≤ 16777216) : binD .add (.v (.tup xs)) (.v (.tup ys)) h = some (.v (.tup (xs ++ ys))) := by simp [binD, addD, e]
@[simp] theorem o_addo (e : xs.length + ys.length ≤ 16777216) : binD .add (.o (.lst xs)) (.o (.lst ys)) h = some (.o (.lst (xs ++ ys))) := by simp [binD, addD, ltV, ob, e]
@[simp] theorem o_addlo (e1 : h a = some (.lst xs)) (e : xs.length + ys.length ≤ 16777216) : binD .add (.v (.loc a)) (.o (.lst ys)) h = some (.o (.lst (xs ++ ys))) := by simp [binD, addD, ltV, ob, e, e1]
@[simp] theorem o_addol (e1 : h a = some (.lst ys)) (e : xs.length + ys.length ≤ 16777216) : binD .add (.o (.lst xs)) (.v (.loc a)) h = some (.o (.lst (xs ++ ys))) := by simp [binD, addD, ltV, ob, e, e1]
@[simp] theorem o_addll {a' : Nat} (e0 : h a = some (.lst xs)) (e1 : h a' = some (.lst ys)) (e : xs.length + ys.length ≤ 16777216) : binD .add (.v (.loc a)) (.v (.loc a')) h = some (.o (.lst (xs ++ ys))) := by simp [binD, addD, ltV, ob, e, e0, e1]
@[simp] theorem o_sub : binD .sub (.v (.int i)) (.v (.int j)) h = some (.v (.int (i - j))) := rfl
@[simp] theorem o_mod (e : 0 < j) : binD .mod (.v (.int i)) (.v (.int j)) h = some (.v (.int (i % j))) := by simp [binD, intOp, e]
@[simp] theorem o_fdiv (e : 0 < j) (e2 : j < 1073741824) : binD .fdiv (.v (.int i)) (.v (.int j)) h = some (.v (.int (i / j))) := by simp [binD, intOp, e, e2]
@[simp] theorem o_shr (e : 0 ≤ j) : binD .shr (.v (.int i)) (.v (.int j)) h = some (.v (.int (i / 2 ^ j.toNat))) := by simp [binD, intOp, e]
@[simp] theorem o_shl (e : 0 ≤ j) (e2 : j ≤ 1000000) (e3 : i.natAbs < 18446744073709551616) : binD .shl (.v (.int i)) (.v (.int j)) h = some (.v (.int (i * 2 ^ j.toNat))) := by simp [binD, intOp, e, e2, e3]
@[simp] theorem o_pow (e : 0 ≤ j) (e2 : j ≤ 1000000) (e3 : i.natAbs < 18446744073709551616) : binD .pow (.v (.int i)) (.v (.int j)) h = some (.v (.int (i ^ j.toNat))) := by simp [binD, intOp, e, e2, e3]
@[simp] theorem o_band : binD .band (.v (.int i)) (.v (.int j)) h = some (.v (.int (PySem.Builtin.bitAnd i j))) := rfl
@[simp] theorem o_bxor : binD .bxor (.v (.int i)) (.v (.int j)) h = some (.v (.int (PySem.Builtin.bitXor i j))) := rfl
@[simp] theorem o_bor : binD .bor (.v (.int i)) (.v (.int j)) h = some (.v (.int (PySem.Builtin.bitOr i j))) := rfl
/-- the left factor is small -/
def ml (i : Int) : Prop := -18446744073709551616 < i ∧ i < 18446744073709551616
@[simp] theorem o_mull (e : ml i) : binD .mul (.v (.int i)) (.v (.int j)) h = some (.v (.int (i * j))) := by simp [binD, mulD, mulOk, e.1, e.2]
@[simp] theorem o_mulr (e : ml j) : binD .mul (.v (.int i)) (.v (.int j)) h = some (.v (.int (i * j))) := by simp [binD, mulD, mulOk, e.1, e.2]
theorem ml_of (e1 : -18446744073709551616 < i) (e2 : i < 18446744073709551616) : ml i := ⟨e1, e2⟩
@[simp] theorem o_rep {k : Nat} (e : k < 9223372036854775808) (e2 : xs.length * k ≤ 16777216) : binD .mul (.o (.lst xs)) (.v (.int k)) h = some (.o (.lst (rept xs k))) := by
  have e3 : -9223372036854775808 ≤ (k : Int) := by omega
  have e4 : (k : Int) < 9223372036854775808 := by omega
  simp [binD, mulD, ltV, ob, e2, e3, e4]
@[simp] theorem k_eqi : cmpD .eq (.v (.int i)) (.v (.int j)) h = some (decide (i = j)) := rfl
@[simp] theorem k_nei : cmpD .ne (.v (.int i)) (.v (.int j)) h = some (!decide (i = j)) := rfl
@[simp] theorem k_lt : cmpD .lt (.v (.int i)) (.v (.int j)) h = some (decide (i < j)) := rfl
@[simp] theorem k_lt2 {a b c d : Int} {h : AH} : cmpD .lt (.v (.tup [.int a, .int b])) (.v (.tup [.int c, .int d])) h = some (decide (a < c ∨ (a = c ∧ b < d))) := (rfl)
@[simp] theorem k_le : cmpD .le (.v (.int i)) (.v (.int j)) h = some (decide (i ≤ j)) := rfl
@[simp] theorem k_gt : cmpD .gt (.v (.int i)) (.v (.int j)) h = some (decide (j < i)) := rfl
@[simp] theorem k_ge : cmpD .ge (.v (.int i)) (.v (.int j)) h = some (decide (j ≤ i)) := rfl
@[simp] theorem k_eqs : cmpD .eq (.v (.str s)) (.v (.str t)) h = some (decide (s = t)) := rfl
@[simp] theorem k_nes : cmpD .ne (.v (.str s)) (.v (.str t)) h = some (!decide (s = t)) := rfl
@[simp] theorem k_eqb : cmpD .eq (.v (.bl b)) (.v (.bl b')) h = some (b == b') := rfl
@[simp] theorem d_non : isD (.v .non) .non = some true := rfl
@[simp] theorem d_int : isD (.v (.int i)) .non = some false := rfl
@[simp] theorem d_bl : isD (.v (.bl b)) .non = some false := rfl
@[simp] theorem d_str : isD (.v (.str s)) .non = some false := rfl
@[simp] theorem d_tup : isD (.v (.tup xs)) .non = some false := rfl
@[simp] theorem d_fl : isD (.v (.fl xs)) .non = some false := rfl
@[simp] theorem d_loc : isD (.v (.loc a)) .non = some false := rfl
@[simp] theorem d_o {o : AO} : isD (.o o) .non = some false := rfl
@[simp] theorem x_t : ixD (.v (.tup xs)) (.v (.int i)) h = atI xs i := rfl
@[simp] theorem x_f : ixD (.v (.fl xs)) (.v (.int i)) h = atI xs i := rfl
@[simp] theorem x_o : ixD (.o (.lst xs)) (.v (.int i)) h = atI xs i := rfl
@[simp] theorem x_l (e : h a = some (.lst xs)) : ixD (.v (.loc a)) (.v (.int i)) h = atI xs i := by simp [ixD, e]
@[simp] theorem x_0 {x : D} : atI (x :: xs) 0 = some x := by simp [atI, ixN]
theorem atN {k : Nat} {v : D} (e : xs[k]? = some v) : atI xs (k : Int) = some v := by
  have hl := (List.getElem?_eq_some_iff.mp e).1
  simp [atI, ixN, hl]
  exact (List.getElem?_eq_some_iff.mp e).2
@[simp] theorem x_1 {x y : D} : atI (x :: y :: xs) 1 = some y := atN (k := 1) rfl
@[simp] theorem x_2 {x y z : D} : atI (x :: y :: z :: xs) 2 = some z := atN (k := 2) rfl
@[simp] theorem x_3 {x y z w : D} : atI (x :: y :: z :: w :: xs) 3 = some w := atN (k := 3) rfl
@[simp] theorem x_4 {x y z w u : D} : atI (x :: y :: z :: w :: u :: xs) 4 = some u := atN (k := 4) rfl
@[simp] theorem x_5 {x y z w u v : D} : atI (x :: y :: z :: w :: u :: v :: xs) 5 = some v := atN (k := 5) rfl
@[simp] theorem sl_t {lo hi : Option Int} : slD (.v (.tup xs)) lo hi h = some (.v (.tup (cut xs lo hi))) := rfl
@[simp] theorem sl_o {lo hi : Option Int} : slD (.o (.lst xs)) lo hi h = some (.o (.lst (cut xs lo hi))) := rfl
@[simp] theorem sl_f {lo hi : Option Int} : slD (.v (.fl xs)) lo hi h = some (.o (.lst (cut xs lo hi))) := rfl
@[simp] theorem sl_l {lo hi : Option Int} (e : h a = some (.lst xs)) : slD (.v (.loc a)) lo hi h = some (.o (.lst (cut xs lo hi))) := by simp [slD, e]
@[simp] theorem c_t : srcOf (.v (.tup xs)) h = some (.fix xs) := rfl
@[simp] theorem c_f : srcOf (.v (.fl xs)) h = some (.fix xs) := rfl
@[simp] theorem c_o : srcOf (.o (.lst xs)) h = some (.fix xs) := rfl
@[simp] theorem c_l (e : h a = some (.lst xs)) : srcOf (.v (.loc a)) h = some (.lst a xs) := by simp [srcOf, e]
@[simp] theorem m_app (e : h a = some (.lst xs)) (hl : xs.length < 16777216) : mtD .append (.v (.loc a)) [d] h = some (.v .non, put h a (.lst (xs ++ [d]))) := by simp [mtD, mLs, e, hl]
@[simp] theorem m_rev (e : h a = some (.lst xs)) : mtD .reverse (.v (.loc a)) [] h = some (.v .non, put h a (.lst xs.reverse)) := by simp [mtD, mLs, e]
@[simp] theorem q_app (e : h a = some (.lst xs)) : mtChk .append (.v (.loc a)) h = true := by simp [mtChk, e]
@[simp] theorem q_pop (e : h a = some (.lst xs)) : mtChk .pop (.v (.loc a)) h = true := by simp [mtChk, e]
@[simp] theorem q_rev (e : h a = some (.lst xs)) : mtChk .reverse (.v (.loc a)) h = true := by simp [mtChk, e]
@[simp] theorem q_ext (e : h a = some (.lst xs)) : mtChk .extend (.v (.loc a)) h = true := by simp [mtChk, e]
@[simp] theorem u_add : augD .add (.int i) (.v (.int j)) h = some (.v (.int (i + j)), h) := rfl
@[simp] theorem u_sub : augD .sub (.int i) (.v (.int j)) h = some (.v (.int (i - j)), h) := rfl
@[simp] theorem u_ext (e : h a = some (.lst xs)) (hl : xs.length + ys.length ≤ 16777216) : augD .add (.loc a) (.o (.lst ys)) h = some (.v (.loc a), put h a (.lst (xs ++ ys))) := by simp [augD, e, hl]
@[simp] theorem b_max : b2D .max (.int i) (.int j) = some (.int (if i < j then j else i)) := rfl
@[simp] theorem b_min : b2D .min (.int i) (.int j) = some (.int (if j < i then j else i)) := rfl
end
end Py
namespace Py
open PySem (Str)
/-! ### what all laws share -/
def c__law_draws : Fn := ⟨2, 10, (.cons (.asg (.nm 2) (.comp (.nm 9) (.seq (.var 0)) [8, 9] (.b1 .int (.var 9)))) (.cons (.ifs (.cmp .eq (.b1 .len (.var 2)) (.lit (.int 0))) (.cons (.expr (.mt .append (.var 2) (.cons (.lit (.int 0)) .nil))) .nil) .nil) (.cons (.asg (.nm 3) (.b1 .lst (.var 2))) (.cons (.asg (.nm 4) (.lst .nil)) (.cons (.for_ (.nm 5) (.rng1 (.var 1)) (.cons (.asg (.nm 6) (.bin .mod (.var 5) (.b1 .len (.var 2)))) (.cons (.ifs (.and (.cmp .ge (.ix (.var 2) (.var 6)) (.bin .pow (.lit (.int 10)) (.lit (.int 18)))) (.cmp .gt (.ix (.var 3) (.var 6)) (.lit (.int 0)))) (.cons (.expr (.mt .append (.var 4) (.cons (.bin .mod (.b1 .int (.ix (.var 3) (.var 6))) (.lit (.int 1000))) .nil))) (.cons (.set (.var 3) (.var 6) (.bin .fdiv (.ix (.var 3) (.var 6)) (.lit (.int 1000)))) .nil)) (.cons (.asg (.nm 7) (.bin .mod (.b1 .int (.bin .add (.bin .add (.bin .mul (.ix (.var 2) (.var 6)) (.lit (.int 48271))) (.bin .mul (.var 5) (.lit (.int 69621)))) (.lit (.int 11)))) (.lit (.int 2147483647)))) (.cons (.expr (.mt .append (.var 4) (.cons (.bin .mod (.b1 .int (.bin .add (.bin .add (.bin .mul (.var 7) (.var 7)) (.bin .mul (.lit (.int 3)) (.var 7))) (.var 5))) (.lit (.int 1000003))) .nil))) .nil))) .nil))) (.cons (.expr (.mt .reverse (.var 4) .nil)) (.cons (.ret (.var 4)) .nil)))))))⟩
def c__law_take : Fn := ⟨2, 2, (.cons (.ifs (.cmp .eq (.b1 .len (.var 0)) (.lit (.int 0))) (.cons (.ret (.lit (.int 0))) .nil) .nil) (.cons (.ret (.bin .mod (.b1 .int (.mt .pop (.var 0) .nil)) (.var 1))) .nil))⟩
def c__law_cell : Fn := ⟨1, 2, (.cons (.ifs (.cmp .eq (.b1 .len (.var 0)) (.lit (.int 0))) (.cons (.ret (.lit (.int 0))) .nil) .nil) (.cons (.asg (.nm 1) (.b1 .int (.ix (.var 0) (.bin .mod (.bin .mod (.b1 .int (.bin .sub (.b1 .len (.var 0)) (.lit (.int 1)))) (.lit (.int 7))) (.b1 .len (.var 0)))))) (.cons (.ifs (.cmp .lt (.var 1) (.lit (.int 0))) (.cons (.ret (.neg (.bin .mod (.b1 .int (.neg (.var 1))) (.bin .pow (.lit (.int 10)) (.lit (.int 60)))))) .nil) .nil) (.cons (.ret (.bin .mod (.b1 .int (.var 1)) (.bin .pow (.lit (.int 10)) (.lit (.int 60))))) .nil))))⟩
def c__law_same : Fn := ⟨2, 3, (.cons (.ifs (.b1 (.isa .bool) (.var 1)) (.cons (.ret (.and (.b1 (.isa .bool) (.var 0)) (.cmp .eq (.var 0) (.var 1)))) .nil) .nil) (.cons (.ifs (.b1 (.isa .int) (.var 1)) (.cons (.ret (.and (.b1 (.isa .int) (.var 0)) (.and (.not (.b1 (.isa .bool) (.var 0))) (.cmp .eq (.var 0) (.var 1))))) .nil) .nil) (.cons (.ifs (.b1 (.isa .str) (.var 1)) (.cons (.ret (.and (.b1 (.isa .str) (.var 0)) (.cmp .eq (.var 0) (.var 1)))) .nil) .nil) (.cons (.ifs (.isc false (.var 1) .non) (.cons (.ret (.isc false (.var 0) .non)) .nil) .nil) (.cons (.ifs (.or (.not (.b1 (.isa .tup) (.var 0))) (.cmp .ne (.b1 .len (.var 0)) (.b1 .len (.var 1)))) (.cons (.ret (.lit (.bl false))) .nil) .nil) (.cons (.for_ (.nm 2) (.rng1 (.b1 .len (.var 1))) (.cons (.ifs (.not (.call "_law_same" (.cons (.ix (.var 0) (.var 2)) (.cons (.ix (.var 1) (.var 2)) .nil)))) (.cons (.ret (.lit (.bl false))) .nil) .nil) .nil)) (.cons (.ret (.lit (.bl true))) .nil)))))))⟩
def c__law_power : Fn := ⟨1, 3, (.cons (.asg (.nm 1) (.lit (.int 1))) (.cons (.for_ (.nm 2) (.rng1 (.var 0)) (.cons (.asg (.nm 1) (.bin .mul (.lit (.int 2)) (.var 1))) .nil)) (.cons (.ret (.var 1)) .nil)))⟩
/-- plain data, not deep -/
def sm : Nat → D → Bool
  | _, .non => true
  | _, .bl _ => true
  | _, .int _ => true
  | _, .str _ => true
  | n + 1, .tup xs => decide (xs.length ≤ 16777216) && xs.all (sm n)
  | _, _ => false
/-- ints -/
def iL (xs : List Int) : List D := xs.map D.int
theorem take_i {P : Prog} (hf : P.fn "_law_take" = some c__law_take) {n : Nat} {a : Nat} {ds : List Int} {m : Int} {h : AH} {Q : D → AH → Prop} {X : Xc} (hm : 0 < m) (e : h a = some (.lst (iL ds)))
    (q : ∀ (v : Int) (ds' : List Int), 0 ≤ v → v < m → Q (.int v) (put h a (.lst (iL ds')))) : wC P (n + 1) "_law_take" [.loc a, .int m] h Q X := by
  refine wC_i hf rfl ?_
  rcases List.eq_nil_or_concat ds with rfl | ⟨l, x, rfl⟩
  · simp [c__law_take, b1D, sqV, lsV, ob, e, iL, cmpD, eqD, tru]
    refine someQ_i ?_
    have := q 0 [] (Int.le_refl 0) hm
    have e2 : put h a (.lst (iL [])) = h := by
      funext b
      by_cases hb : b = a
      · subst hb; rw [put_self, e]
      · exact put_ne hb
    rw [e2] at this
    exact this
  · have e' : h a = some (.lst (iL l ++ [.int x])) := by rw [e]; simp [iL]
    simp [c__law_take, b1D, sqV, lsV, ob, e', cmpD, eqD, tru]
    have hne : ¬ ((l.length : Int) + 1 = 0) := by omega
    simp [hne, iL, mtChk, ltV, ob, e', mtD, mLs, binD, intOp, hm]
    exact someQ_i (q _ l (Int.emod_nonneg _ (by omega)) (Int.emod_lt_of_pos _ hm))
theorem two_pow (i : Nat) : (2 : Int) * 2 ^ i = 2 ^ (i + 1) := by rw [Int.pow_succ, Int.mul_comm]
theorem power_i {P : Prog} (hf : P.fn "_law_power" = some c__law_power) {n : Nat} {w : Int} {h : AH} {Q : D → AH → Prop} {X : Xc} (hw : small62 w = true) (q : Q (.int (2 ^ w.toNat)) h) : wC P (n + 1) "_law_power" [.int w] h Q X := by
  refine wC_i hf rfl ?_
  simp [c__law_power, List.replicate, hw]
  refine for_f (fun i env h' => h' = h ∧ ∃ o, env = [some (.int w), some (.int (2 ^ i)), o]) ⟨rfl, none, by simp⟩ ?_ ?_
  · rintro i x env h' N hx ⟨rfl, o, rfl⟩ hN
    simp [binD, mulD, mulOk, two_pow]
    exact hN _ _ ⟨rfl, _, rfl⟩
  · rintro env h' ⟨rfl, o, rfl⟩
    simp
    exact someQ_i q
theorem cell_i {P : Prog} (hf : P.fn "_law_cell" = some c__law_cell) {n : Nat} {ns : List Int} {h : AH} {Q : D → AH → Prop} {X : Xc} (q : ∀ v : Int, Q (.int v) h) : wC P (n + 1) "_law_cell" [.fl (iL ns)] h Q X := by
  refine wC_i hf rfl ?_
  cases ns with
  | nil =>
    simp [c__law_cell, b1D, sqV, lsV, iL, cmpD, eqD, tru]
    exact someQ_i (q 0)
  | cons x ns =>
    have hne : ¬ ((ns.length : Int) + 1 = 0) := by omega
    have h0 : (0 : Int) < (ns.length : Int) + 1 := by omega
    have h1 : 0 ≤ (ns.length : Int) % 7 % ((ns.length : Int) + 1) := Int.emod_nonneg _ (by omega)
    have h2 : (ns.length : Int) % 7 % ((ns.length : Int) + 1) < (ns.length : Int) + 1 := Int.emod_lt_of_pos _ h0
    obtain ⟨j, hj⟩ := Int.eq_ofNat_of_zero_le h1
    have hj2 : j < (x :: ns).length := by rw [hj] at h2; simp; omega
    simp [c__law_cell, b1D, sqV, lsV, iL, cmpD, eqD, tru, hne, binD, intOp, h0, ixD, hj, atI, ixN]
    have hj3 : ((if j < ns.length + 1 then some j else none).bind fun j => (D.int x :: List.map D.int ns)[j]?) = some (.int (x :: ns)[j]) := by
      rw [if_pos (by simpa using hj2)]
      show (List.map D.int (x :: ns))[j]? = _
      rw [List.getElem?_map, List.getElem?_eq_getElem hj2]
      rfl
    rw [hj3]
    simp only [gd_some, rv_v]
    split
    · simp only [v_asInt, gd_some]
      exact someQ_i (q _)
    · exact someQ_i (q _)
theorem same_i {P : Prog} (hf : P.fn "_law_same" = some c__law_same) : ∀ {k n : Nat} {d : D} {h : AH} {Q : D → AH → Prop} {X : Xc}, sm k d = true → Q (.bl true) h → wC P (n + k + 1) "_law_same" [d, d] h Q X := by
  intro k
  induction k with
  | zero =>
    intro n d h Q X hs q
    refine wC_i hf rfl ?_
    cases d with
    | non => simp [c__law_same, b1D, isTy, tru, isD]; exact someQ_i q
    | bl b => simp [c__law_same, b1D, isTy, tru, isD, cmpD, eqD, lsV, ob, pu, eqv]; exact someQ_i q
    | int b => simp [c__law_same, b1D, isTy, tru, isD, cmpD, eqD]; exact someQ_i q
    | str b => simp [c__law_same, b1D, isTy, tru, isD, cmpD, eqD]; exact someQ_i q
    | _ => simp [sm] at hs
  | succ k ih =>
    intro n d h Q X hs q
    refine wC_i hf rfl ?_
    cases d with
    | non => simp [c__law_same, b1D, isTy, tru, isD]; exact someQ_i q
    | bl b => simp [c__law_same, b1D, isTy, tru, isD, cmpD, eqD, lsV, ob, pu, eqv]; exact someQ_i q
    | int b => simp [c__law_same, b1D, isTy, tru, isD, cmpD, eqD]; exact someQ_i q
    | str b => simp [c__law_same, b1D, isTy, tru, isD, cmpD, eqD]; exact someQ_i q
    | tup xs =>
      simp [sm] at hs
      have hz : small62 (xs.length : Int) = true := by simp [small62]; omega
      simp [c__law_same, b1D, isTy, tru, isD, cmpD, eqD, sqV, hz]
      refine for_f (fun i env h' => h' = h ∧ ∃ o, env = [some (.tup xs), some (.tup xs), o]) ⟨rfl, none, rfl⟩ ?_ ?_
      · rintro i x env h' N hx ⟨rfl, o, rfl⟩ hN
        obtain ⟨hi, rfl⟩ := rngL_at hx
        have hi' : i < xs.length := by simpa using hi
        have e1 : atI xs (i : Int) = some xs[i] := by simp [atI, ixN, hi', List.getElem?_eq_getElem hi']
        simp [ixD, sqV, e1]
        refine ih (hs.2 _ (List.getElem_mem hi')) ?_
        simp [tru]
        exact hN _ _ ⟨rfl, _, rfl⟩
      · rintro env h' ⟨rfl, o, rfl⟩
        simp
        exact someQ_i q
    | _ => simp [sm] at hs
theorem iL_len {xs : List Int} : (iL xs).length = xs.length := by simp [iL]
theorem iL_app {xs ys : List Int} : iL xs ++ iL ys = iL (xs ++ ys) := by simp [iL]
theorem iL_one {xs : List Int} {y : Int} : iL xs ++ [D.int y] = iL (xs ++ [y]) := by simp [iL]
theorem iL_at {xs : List Int} {k : Int} (h0 : 0 ≤ k) (h1 : k < xs.length) : ∃ v, atI (iL xs) k = some (.int v) := by
  obtain ⟨j, rfl⟩ :=
      Int.eq_ofNat_of_zero_le h0
  have hj : j < xs.length := by omega
  refine ⟨xs[j], ?_⟩
  simp [atI, ixN, iL, hj, h1]
theorem iL_set {xs : List Int} {v : Int} {j : Nat} : (iL xs).set j (.int v) = iL (xs.set j v) := by simp [iL, List.map_set]
theorem draws_i {P : Prog} (hf : P.fn "_law_draws" = some c__law_draws) {n : Nat} {ns : List Int} {m : Int} {h : AH} {Q : D → AH → Prop} {X : Xc} (hn : ns.length ≤ 63) (hm : small62 m = true) (hm2 : m ≤ 10000)
    (q : ∀ (a : Nat) (ds : List Int), h a = none → Q (.loc a) (put h a (.lst (iL ds)))) : wC P (n + 1) "_law_draws" [.fl (iL ns), .int m] h Q X := by
  refine wC_i hf rfl ?_
  simp only [c__law_draws, v_start, List.replicate, List.length_cons, List.length_nil, List.map_cons, List.map_nil, List.cons_append, List.nil_append]
  -- the cells
  refine cut_i (fun env1 h1 => ∃ a1, env1 = [some (.fl (iL ns)), some (.int m), some (.loc a1), none, none, none, none, none, none, none] ∧ h a1 = none ∧ h1 = put h a1 (.lst (iL ns))) (fun N hN => ?_) ?_
  · simp [srcOf]
    refine comp_m id trivial (by rw [v_fixi, iL_len]; omega) (fun x hx k hk => ?_) ?_
    · simp only [iL, List.mem_map, v_fixi] at hx
      obtain ⟨i, _, rfl⟩ := hx
      simpa [wipe, b1D] using hk
    · simp
      exact fun a1 n1 => hN _ _ ⟨a1, rfl, n1, rfl⟩
  rintro _ _ ⟨a1, rfl, n1, rfl⟩
  refine cut_i (fun env1 h1 => ∃ cs : List Int, 0 < cs.length ∧ cs.length ≤ 63 ∧ env1 = [some (.fl (iL ns)), some (.int m), some (.loc a1), none, none, none, none, none, none, none] ∧ h1 = put h a1 (.lst (iL cs))) (fun N hN => ?_) ?_
  · cases ns with
    | nil =>
      simp [b1D, sqV, lsV, ob, cmpD, eqD, tru, mtChk, ltV, mtD, mLs, iL]
      exact hN _ _ ⟨[0], by simp, by simp, rfl, rfl⟩
    | cons x ns =>
      have hne : ¬ ((ns.length : Int) + 1 = 0) := by omega
      simp [b1D, sqV, lsV, ob, cmpD, eqD, tru, iL, hne]
      exact hN _ _ ⟨x :: ns, by simp, by simpa using hn, rfl, rfl⟩
  rintro _ _ ⟨cs, c0, c1, rfl, rfl⟩
  refine cut_i (fun env1 h1 => ∃ a2, a2 ≠ a1 ∧ h a2 = none ∧ env1 = [some (.fl (iL ns)), some (.int m), some (.loc a1), some (.loc a2), none, none, none, none, none, none] ∧ h1 = put (put h a1 (.lst (iL cs))) a2 (.lst (iL cs))) (fun N hN => ?_) ?_
  · simp [b1D, sqV, lsV, ob]
    intro a2 n2
    have e1 : a2 ≠ a1 := fun e => by subst e; rw [put_self] at n2; cases n2
    rw [put_ne e1] at n2
    exact hN _ _ ⟨a2, e1, n2, rfl, rfl⟩
  rintro _ _ ⟨a2, n2, n20, rfl, rfl⟩
  refine cut_i (fun env1 h1 => ∃ a3, a3 ≠ a1 ∧ a3 ≠ a2 ∧ h a3 = none ∧ env1 = [some (.fl (iL ns)), some (.int m), some (.loc a1), some (.loc a2), some (.loc a3), none, none, none, none, none] ∧ h1 = put (put (put h a1 (.lst (iL cs))) a2 (.lst (iL cs))) a3 (.lst (iL []))) (fun N hN => ?_) ?_
  · simp
    intro a3 n3
    have e2 : a3 ≠ a2 := fun e => by subst e; rw [put_self] at n3; cases n3
    rw [put_ne e2] at n3
    have e1 : a3 ≠ a1 := fun e => by subst e; rw [put_self] at n3; cases n3
    rw [put_ne e1] at n3
    exact hN _ _ ⟨a3, e1, e2, n3, rfl, rfl⟩
  rintro _ _ ⟨a3, n31, n32, n3, rfl, rfl⟩
  -- the turns
  refine cut_i (fun env1 h1 => ∃ ds o5 o6 o7 rs, env1 = [some (.fl (iL ns)), some (.int m), some (.loc a1), some (.loc a2), some (.loc a3), o5, o6, o7, none, none] ∧ rs.length = cs.length ∧ ds.length ≤ m.toNat ∧ h1 = put (put (put h a1 (.lst (iL cs))) a2 (.lst (iL rs))) a3 (.lst (iL ds))) (fun N hN => ?_) ?_
  · simp [hm]
    refine for_f (fun i env1 h1 => ∃ ds o5 o6 o7 rs, env1 = [some (.fl (iL ns)), some (.int m), some (.loc a1), some (.loc a2), some (.loc a3), o5, o6, o7, none, none] ∧ rs.length = cs.length ∧ ds.length ≤ i ∧ h1 = put (put (put h a1 (.lst (iL cs))) a2 (.lst (iL rs))) a3 (.lst (iL ds))) ?_ ?_ ?_
    · exact ⟨[], none, none, none, cs, rfl, rfl, by simp, rfl⟩
    · rintro i x _ _ N2 hx ⟨ds, o5, o6, o7, rs, rfl, hr, hd, rfl⟩ hN2
      obtain ⟨hi, rfl⟩ := rngL_at hx
      have hc0 : (0 : Int) < (cs.length : Int) := by omega
      have g0 : 0 ≤ (i : Int) % (cs.length : Int) := Int.emod_nonneg _ (by omega)
      have g1 : (i : Int) % (cs.length : Int) < (cs.length : Int) := Int.emod_lt_of_pos _ hc0
      obtain ⟨v, hv⟩ := iL_at (xs := cs) g0 g1
      obtain ⟨w, hw⟩ := iL_at (xs := rs) g0 (by rw [hr]; exact g1)
      obtain ⟨j, hj⟩ := Int.eq_ofNat_of_zero_le g0
      have hj2 : j < rs.length := by omega
      have p1 : put (put (put h a1 (.lst (iL cs))) a2 (.lst (iL rs))) a3 (.lst (iL ds)) a1 = some (.lst (iL cs)) := by rw [put_ne n31.symm, put_ne n2.symm, put_self]
      have p2 : put (put (put h a1 (.lst (iL cs))) a2 (.lst (iL rs))) a3 (.lst (iL ds)) a2 = some (.lst (iL rs)) := by rw [put_ne n32.symm, put_self]
      have dl : ds.length < 16777216 := by omega
      have dl' : (iL ds).length < 16777216 := by rw [iL_len]; exact dl
      have fin : ∀ (y : Int) (rs2 : List Int) (o5 o6 o7 : Option D), rs2.length = cs.length → N2 [some (.fl (iL ns)), some (.int m), some (.loc a1), some (.loc a2), some (.loc a3), o5, o6, o7, none, none] (put (put (put h a1 (.lst (iL cs))) a2 (.lst (iL rs2))) a3 (.lst (iL ds ++ [.int y]))) := fun y rs2 o5 o6 o7 hl => by
        rw [iL_one]
        exact hN2 _ _ ⟨ds ++ [y], o5, o6, o7, rs2, rfl, hl, by simp; omega, rfl⟩
      have sw : ∀ o2 o3 : AO, put (put (put (put h a1 (.lst (iL cs))) a2 (.lst (iL rs))) a3 o3) a2 o2 = put (put (put h a1 (.lst (iL cs))) a2 o2) a3 o3 := fun o2 o3 => by
        funext b
        by_cases b2 : b = a2
        · subst b2
          rw [put_self, put_ne n32.symm, put_self]
        · rw [put_ne b2]
          by_cases b3 : b = a3
          · subst b3; rw [put_self, put_self]
          · rw [put_ne b3, put_ne b3, put_ne b2, put_ne b2]
      have u1 : -18446744073709551616 < (v * 48271 + (i : Int) * 69621 + 11) % 2147483647 := Int.lt_of_lt_of_le (by decide) (Int.emod_nonneg _ (by decide))
      have u2 : (v * 48271 + (i : Int) * 69621 + 11) % 2147483647 < 18446744073709551616 := Int.lt_trans (Int.emod_lt_of_pos _ (by decide)) (by decide)
      have ij : ixN cs.length ((i : Int) % (cs.length : Int)) = some j := by rw [hj]; simp [ixN]; omega
      have ij' : ixN rs.length ((i : Int) % (cs.length : Int)) = some j := by rw [hr]; exact ij
      simp [b1D, sqV, lsV, ob, p1, p2, iL_len, dl, u1, u2, ij, ij', iL_set, sw, binD, intOp, c0, ixD, hv, hw, cmpD, tru, mtChk, ltV, mtD, mLs, dl', put_ne n32.symm, put_ne n32, setD, addD, mulD, mulOk, iL_len]
      split
      · split
        · exact fin _ _ _ _ _ (by simpa using hr)
        · exact fin _ _ _ _ _ hr
      · exact fin _ _ _ _ _ hr
    · rintro _ _ ⟨ds, o5, o6, o7, rs, rfl, hr, hd, rfl⟩
      exact hN _ _ ⟨ds, o5, o6, o7, rs, rfl, hr, by simpa using hd, rfl⟩
  rintro _ _ ⟨ds, o5, o6, o7, rs, rfl, hr, hd, rfl⟩
  simp [mtChk, ltV, ob, mtD, mLs]
  have hs : Sub (put h a3 (.lst (iL ds.reverse))) (put (put (put h a1 (.lst (iL cs))) a2 (.lst (iL rs))) a3 (.lst (iL ds.reverse))) := fun b o e => by
    by_cases b3 : b = a3
    · subst b3
      rw [put_self] at e ⊢
      exact e
    · rw [put_ne b3] at e ⊢
      have b1 : b ≠ a1 := fun z => by subst z; rw [n1] at e; cases e
      by_cases b2 : b = a2
      · subst b2; rw [n20] at e; cases e
      · rw [put_ne b2, put_ne b1]; exact e
  have e : (iL ds).reverse = iL ds.reverse := by simp [iL]
  rw [e]
  exact someQ_s hs (q a3 _ n3)
theorem take_snoc {α : Type} {l : List α} {i : Nat} {x : α} (h : l[i]? = some x) : l.take (i + 1) = l.take i ++ [x] := by
  rw [List.take_add_one, h]; rfl
end Py
namespace Py
open PySem (Str)
theorem iL_pu (xs : List Int) : (iL xs).all (pu 40) = true := by
  rw [List.all_eq_true]
  intro d hd
  simp only [iL, List.mem_map] at hd
  obtain ⟨i, _, rfl⟩ := hd
  rfl
theorem iL_eqvs : ∀ xs ys : List Int, eqvs (iL xs) (iL ys) = decide (xs = ys)
  | [], [] => rfl
  | [], _ :: _ => rfl
  | _ :: _, [] => rfl
  | x :: xs, y :: ys => by
    show (x == y && eqvs (iL xs) (iL ys)) = _
    rw [iL_eqvs xs ys]
    by_cases h : x = y <;> by_cases h2 : xs = ys <;> simp [h, h2]
theorem eqD_iL (xs ys : List Int) (h : AH) : eqD (.v (.tup (iL xs))) (.v (.tup (iL ys))) h = some (decide (xs = ys)) := by
  unfold eqD
  simp only [iL_pu, iL_eqvs, Bool.and_self, if_true]
theorem iL_mem {xs : List Int} {x : D} (h : x ∈ iL xs) : ∃ i ∈ xs, x = .int i := by
  simp only [iL, List.mem_map] at h
  obtain ⟨i, h1, h2⟩ := h
  exact ⟨i, h1, h2.symm⟩
theorem blsL_map (bs : List Bool) : blsL (bs.map D.bl) = some bs := by
  induction bs with
  | nil => rfl
  | cons b r ih => show (blsL (r.map D.bl)).map (b :: ·) = _; rw [ih]; rfl
theorem sm_iL {k : Nat} {xs : List Int} (h : xs.length ≤ 16777216) : sm (k + 1) (.tup (iL xs)) = true := by
  simp only [sm, iL_len, h, decide_true, Bool.true_and, List.all_eq_true]
  intro d hd
  obtain ⟨i, _, rfl⟩ := iL_mem hd
  cases k <;> rfl
theorem intsL_iL : ∀ xs : List Int, intsL (iL xs) = some xs
  | [] => rfl
  | x :: xs => by show (intsL (iL xs)).map (x :: ·) = _; rw [intsL_iL xs]; rfl
theorem n_max {a : Nat} {xs : List Int} {m : Int} {h : AH} (e : h a = some (.lst (iL xs))) (hm : maxI xs = some m) : b1D .max (.v (.loc a)) h = some (.v (.int m)) := by
  simp [b1D, e, intsL_iL, hm]
theorem at_last (xs : List D) (x : D) : atI (xs ++ [x]) (-1) = some x := by
  unfold atI ixN
  have h1 : -(((xs ++ [x]).length : Nat) : Int) ≤ -1 := by simp; omega
  have h2 : (-1 + (((xs ++ [x]).length : Nat) : Int)).toNat = xs.length := by simp; omega
  rw [if_neg (by decide), if_pos h1]
  simp only [Option.bind_some, h2]
  simp
theorem rept_one (d : D) (k : Nat) : rept [d] (k : Int) = List.replicate k d := by
  unfold rept
  rw [Int.toNat_natCast]
  induction k with
  | zero => rfl
  | succ k ih => rw [List.replicate_succ, List.flatten_cons, ih]; rfl
def zeros (n : Nat) : List Int := List.replicate n 0
theorem iL_zeros (n : Nat) : List.replicate n (D.int 0) = iL (zeros n) := by simp [iL, zeros]
theorem cut_take {xs : List D} {k : Nat} (hk : k ≤ xs.length) : cut xs none (some (k : Int)) = xs.take k := by
  show (xs.drop 0).take ((if (k : Int) < 0 then ((k : Int) + (xs.length : Int)).toNat else min (k : Int).toNat xs.length) - 0) = _
  rw [if_neg (by omega), Int.toNat_natCast, Nat.min_eq_left hk, List.drop_zero, Nat.sub_zero]
theorem cut_iL (xs : List Int) (lo hi : Option Int) : cut (iL xs) lo hi = iL (cut xs lo hi) := by
  unfold cut
  rw [iL_len]
  simp [iL, List.map_drop, List.map_take]
theorem cut_len {α : Type} (xs : List α) (lo hi : Option Int) : (cut xs lo hi).length ≤ xs.length := by
  unfold cut
  simp
  omega
theorem cut_drop {α : Type} {xs : List α} {k : Nat} (hk : k ≤ xs.length) : cut xs (some (k : Int)) none = xs.drop k := by
  show (xs.drop (if (k : Int) < 0 then ((k : Int) + (xs.length : Int)).toNat else min (k : Int).toNat xs.length)).take (xs.length - (if (k : Int) < 0 then ((k : Int) + (xs.length : Int)).toNat else min (k : Int).toNat xs.length)) = _
  rw [if_neg (by omega), Int.toNat_natCast, Nat.min_eq_left hk]
  exact List.take_of_length_le
      (by simp)
/-- the draws stand at g, all else that was known is kept -/
structure Kd (h0 : AH) (g : Nat) (h : AH) : Prop where
  dr : ∃ ds : List Int, h g = some (.lst (iL ds))
  kp : ∀ b o, b ≠ g → h0 b = some o → h b = some o
section
variable {h0 h : AH} {g f : Nat}
theorem Kd.refl {ds : List Int} (e : h g = some (.lst (iL ds))) : Kd h g h := ⟨⟨ds, e⟩, fun _ _ _ e => e⟩
theorem Kd.take (k : Kd h0 g h) (ds : List Int) : Kd h0 g (put h g (.lst (iL ds))) := ⟨⟨ds, put_self⟩, fun b o n e => by rw [put_ne n]; exact k.kp b o n e⟩
theorem Kd.own (k : Kd h0 g h) (n : h0 f = none) (ne : f ≠ g) (o : AO) : Kd h0 g (put h f o) := by
  obtain ⟨ds, e⟩ := k.dr
  refine ⟨⟨ds, by rw [put_ne ne.symm]; exact e⟩, fun b u nb eb => ?_⟩
  rw [put_ne (fun z => by rw [z, n] at eb; cases eb)]
  exact k.kp b u nb eb
theorem Kd.free (k : Kd h0 g h) (hg : h0 g ≠ none) (n : h f = none) : h0 f = none ∧ f ≠ g := by
  obtain ⟨ds, e⟩ := k.dr
  have ne : f ≠ g := fun z => by rw [z, e] at n; cases n
  refine ⟨?_, ne⟩
  cases q : h0 f with
  | none => rfl
  | some o => have := k.kp f o ne q; rw [n] at this; cases this
theorem Kd.exit (k : Kd h0 g h) : ∃ ds : List Int, Sub (put h0 g (.lst (iL ds))) h := by
  obtain ⟨ds, e⟩ := k.dr
  refine ⟨ds, fun b o eb => ?_⟩
  by_cases hb : b = g
  · subst hb; rw [put_self] at eb; rw [e]; exact eb
  · rw [put_ne hb] at eb; exact k.kp b o hb eb
end
/-- lists of our own -/
def Rw (h0 : AH) (g : Nat) (h : AH) (rs : List Nat) : Prop := ∀ x ∈ rs, h0 x = none ∧ x ≠ g ∧ ∃ row : List Int, row.length ≤ 100000 ∧ h x = some (.lst (iL row))
section
variable {h0 h : AH} {g y : Nat} {rs : List Nat}
theorem Rw.new (r : Rw h0 g h rs) (n : h y = none) (o : AO) : Rw h0 g (put h y o) rs := fun x hx => by
  obtain ⟨a, b, row, l, e⟩ := r x hx
  exact ⟨a, b, row, l, by rw [put_ne (fun z => by rw [z, n] at e; cases e)]; exact e⟩
theorem Rw.add (r : Rw h0 g h rs) (n : h y = none) (n0 : h0 y = none) (ne : y ≠ g) {row : List Int} (l : row.length ≤ 100000) : Rw h0 g (put h y (.lst (iL row))) (rs ++ [y]) := fun x hx => by
  rcases List.mem_append.mp hx
      with hx | hx
  · exact r.new n _ x hx
  · rw [List.mem_singleton.mp hx]; exact ⟨n0, ne, row, l, put_self⟩
theorem Rw.take (r : Rw h0 g h rs) (o : AO) : Rw h0 g (put h g o) rs := fun x hx => by
  obtain ⟨a, b, row, l, e⟩ := r x hx
  exact ⟨a, b, row, l, by rw [put_ne b]; exact e⟩
end
/-! ### numbers that count -/
def nL (xs : List Nat) : List D := xs.map fun (x : Nat) => .int (x : Int)
def gn (xs : List Nat) (i : Nat) : Nat := xs[i]?.getD 0
@[simp] theorem nL_len {xs : List Nat} : (nL xs).length = xs.length := by simp [nL]
theorem nL_at {xs : List Nat} {i : Nat} (h : i < xs.length) : atI (nL xs) (i : Int) = some (.int (gn xs i)) := atN (by simp [nL, gn, h])
theorem nL_mem {xs : List Nat} {d : D} (h : d ∈ nL xs) : ∃ x ∈ xs, d = .int x := by
  simp only [nL, List.mem_map] at h
  obtain ⟨x, h1, h2⟩ := h
  exact ⟨x, h1, h2.symm⟩
theorem nL_iL (os : List Nat) : iL (os.map fun (w : Nat) => (w : Int)) = nL os := by simp [iL, nL]
theorem gn_left {W V : List Nat} {i : Nat} (h : i < W.length) : gn (W ++ V) i = gn W i := by simp [gn, List.getElem?_append_left h]
theorem gn_last {W : List Nat} {x : Nat} : gn (W ++ [x]) W.length = x := by simp [gn]
theorem put2 {h : AH} {w a : Nat} {x y x' y' : AO} (ne : w ≠ a) : put (put (put (put h w x) a y) w x') a y' = put (put h w x') a y' := by
  funext b
  by_cases h1 : b = a
  · subst h1; simp
  · by_cases h2 : b = w
    · subst h2; simp [put_ne ne]
    · simp [put_ne h1, put_ne h2]
theorem put3 {h : AH} {w a : Nat} {x y x' : AO} (ne : w ≠ a) : put (put (put h w x) a y) w x' = put (put h w x') a y := by
  funext b
  by_cases h1 : b = a
  · subst h1; simp [put_ne ne.symm]
  · by_cases h2 : b = w
    · subst h2; simp [put_ne ne]
    · simp [put_ne h1, put_ne h2]
theorem nL_snoc {xs : List Nat} {y : Nat} : nL xs ++ [.int (y : Int)] = nL (xs ++ [y]) := by simp [nL]
theorem rngL_mem {lo : Int} {n : Nat} {x : D} (h : x ∈ rngL lo n) : ∃ i : Nat, i < n ∧ x = .int (lo + (i : Int)) := by
  obtain ⟨i, hi⟩ := List.getElem?_of_mem h
  obtain ⟨h1, h2⟩ := rngL_at hi
  exact ⟨i, h1, h2⟩
theorem gn_cons2 {bs : List Nat} {x : Nat} {a b : Nat} : gn (a :: b :: bs) (x + 2) = gn bs x := by simp [gn]
def rgn (a n : Nat) : List Nat := (List.range n).map fun i => a + i
theorem rgn_len {a n : Nat} : (rgn a n).length = n := by simp [rgn]
theorem gn_rgn {a n i : Nat} (h : i < n) : gn (rgn a n) i = a + i := by simp [gn, rgn, h]
theorem rngL_nL {a n : Nat} : rngL (a : Int) n = nL (rgn a n) := by simp [rngL, nL, rgn, Function.comp_def]
theorem Sub.free {h h' : AH} {a : Nat} (s : Sub h h') (n : h' a = none) : h a = none := by
  cases e : h a with
  | none => rfl
  | some o => rw [s a o e] at n; cases n
theorem Sub.new {h h' : AH} {a : Nat} {o : AO} (s : Sub h h') (n : h' a = none) : Sub h (Py.put h' a o) := s.put (s.free n)
theorem gn_get {xs : List Nat} {k : Nat} (h : k < xs.length) : gn xs k = xs[k] := by simp [gn, h]
def InR (f : Int) (w : Int) : Prop := 0 ≤ w ∧ w < f
instance {f w : Int} : Decidable (InR f w) := inferInstanceAs (Decidable (_ ∧ _))
theorem Sub.trans {h1 h2 h3 : AH} (s : Sub h1 h2) (t : Sub h2 h3) : Sub h1 h3 := fun a o e => t a o (s a o e)
end Py
namespace Py
open PySem (Str)
/-! ### two clauses -/
def Comp2G (cal : Cal) (G : Str → Option D) (t : Tg) (own : List Nat) (t1 : Tg) (it1 : It) (own1 : List Nat) (e : Ex) (env : Env) (s : Src) (h : AH) (Q : List D → AH → Prop) : Prop := wComp2 s.chk (stepC2 (wTg t) env own (wTg t1) (wI cal G it1) own1 (wX cal G e)) s.items [] h Q
@[simp] theorem v_comp2 {cal : Cal} {G : Str → Option D} {t : Tg} {it : It} {own : List Nat} {t1 : Tg} {it1 : It} {own1 : List Nat} {e : Ex} {env : Env} {h : AH} {Q : Rv → AH → Prop} {X : Xc} : wX cal G (.comp2 t it own t1 it1 own1 e) env h Q X =
  wI cal G it env h (fun s h1 => Comp2G cal G t own t1 it1 own1 e env s h1 fun acc h2 => Q (.o (.lst acc)) h2) X := (rfl)
/-- what is wanted of the inner clause at x: it is walked over ys, and each of them gives g -/
structure In2 (P : Prog) (n : Nat) (t1 : Tg) (own1 : List Nat) (e : Ex) (h0 : AH) (env2 : Env) (r : List D) (s1 : Src) (h4 : AH) : Prop where
  sb : Sub h0 h4
  ck : s1.chk h4
  ex : ∃ g : D → D, s1.items.map g = r ∧ ∀ y ∈ s1.items, ∀ k : D → AH → Prop, k (g y) h4 → wTg t1 y (wipe env2 own1) h4 fun e2 h5 => wX (wC P n) P.gl e e2 h5 (fun r h6 => rv r h6 k) noX
theorem comp2_s {P : Prog} {n : Nat} {t : Tg} {own : List Nat} {t1 : Tg} {it1 : It} {own1 : List Nat} {e : Ex} {env : Env} {s : Src} {h0 h : AH} {Q : List D → AH → Prop} (f : D → List D) (sb : Sub h0 h) (hc : ∀ h', Sub h0 h' → s.chk h') (hl : ((s.items.map f).flatten).length ≤ 16777216)
    (hs : ∀ x ∈ s.items, ∀ h', Sub h0 h' → wTg t x (wipe env own) h' fun env2 h3 => wI (wC P n) P.gl it1 env2 h3 (fun s1 h4 => In2 P n t1 own1 e h0 env2 (f x) s1 h4) noX) (hq : ∀ h', Sub h0 h' → Q (s.items.map f).flatten h') : Comp2G (wC P n) P.gl t own t1 it1 own1 e env s h Q := by
  have key : ∀ (xs : List D) (acc : List D) (h : AH), Sub h0 h → (∀ x ∈ xs, x ∈ s.items) → acc.length + ((xs.map f).flatten).length ≤ 16777216 → (∀ h', Sub h0 h' → Q (acc ++ (xs.map f).flatten) h') → wComp2 s.chk (stepC2 (wTg t) env own (wTg t1) (wI (wC P n) P.gl it1) own1 (wX (wC P n) P.gl e)) xs acc h Q := by
    intro xs
    induction xs with
    | nil => exact fun acc h sb _ _ q => ⟨hc h sb, by simpa using q h sb⟩
    | cons x r ih =>
      intro acc h sb hm hl q
      refine ⟨hc h sb, ?_⟩
      refine mTg t _ _ _ _ _ (fun env2 h3 q2 => mI (wC_mono P n) it1 _ _ _ _ _ _ (fun s1 h4 ⟨sb4, ck, g, e1, hg⟩ => ?_) (fun _ _ z => z) q2) (hs x (hm x (by simp)) h sb)
      simp only [List.map_cons, List.flatten_cons, List.length_append] at hl
      refine wComp_map (f := fun y => some (g y)) ck (fun y hy k hk => hg y hy _ hk) ?_ ?_
      · have := congrArg List.length e1
        rw [List.length_map] at this
        omega
      · rw [List.filterMap_eq_map', e1]
        refine ih _ _ sb4 (fun y hy => hm y (List.mem_cons_of_mem _ hy)) (by rw [List.length_append]; omega) fun h' s' => ?_
        have := q h' s'
        simpa using this
  exact key s.items [] h sb (fun _ z => z) (by simpa using hl) (by simpa using hq)
/-! ### is it among numbers -/
theorem inD_iL (i : Int) (xs : List Int) (h : AH) : inD (.v (.int i)) (.v (.tup (iL xs))) h = some (decide (i ∈ xs)) := by
  have e : (iL xs).any (fun z => eqv z (.int i)) = decide (i ∈ xs) := by
    induction xs with
    | nil => rfl
    | cons x r ih =>
      show (eqv (.int x) (.int i) || (iL r).any fun z => eqv z (.int i)) = _
      rw [ih]
      show (x == i || _) = _
      by_cases z : x = i
      · subst z; simp
      · have z2 : ¬ i = x := fun w => z w.symm
        simp [z, z2]
  unfold inD
  simp only [s_tupV]
  rw [iL_pu, e]
  rfl
theorem inD_iLl {a : Nat} {i : Int} {xs : List Int} {h : AH} (ha : h a = some (.lst (iL xs))) : inD (.v (.int i)) (.v (.loc a)) h = some (decide (i ∈ xs)) := by
  have := inD_iL i xs h
  unfold inD at this ⊢
  simp only [s_locV ha]
  exact this
theorem k_in (i : Int) (xs : List Int) (h : AH) : cmpD .inn (.v (.int i)) (.v (.tup (iL xs))) h = some (decide (i ∈ xs)) := inD_iL i xs h
theorem k_inl {a : Nat} {i : Int} {xs : List Int} {h : AH} (ha : h a = some (.lst (iL xs))) : cmpD .inn (.v (.int i)) (.v (.loc a)) h = some (decide (i ∈ xs)) := inD_iLl ha
theorem k_nin (i : Int) (xs : List Int) (h : AH) : cmpD .nin (.v (.int i)) (.v (.tup (iL xs))) h = some (!decide (i ∈ xs)) := by
  show (inD _ _ h).map _ = _
  rw [inD_iL]; rfl
theorem k_ninl {a : Nat} {i : Int} {xs : List Int} {h : AH} (ha : h a = some (.lst (iL xs))) : cmpD .nin (.v (.int i)) (.v (.loc a)) h = some (!decide (i ∈ xs)) := by
  show (inD _ _ h).map _ = _
  rw [inD_iLl ha]; rfl
theorem nL_in (i : Nat) (xs : List Nat) : ((i : Int) ∈ xs.map fun (x : Nat) => (x : Int)) ↔ i ∈ xs := by
  rw [List.mem_map]
  constructor
  · rintro ⟨a, ha, e⟩
    have : a = i := by omega
    exact this ▸ ha
  · exact fun h => ⟨i, h, rfl⟩
theorem k_inN (i : Nat) (xs : List Nat) (h : AH) : cmpD .inn (.v (.int i)) (.v (.tup (nL xs))) h = some (decide (i ∈ xs)) := by
  rw [← nL_iL, k_in]
  simp only [nL_in]
theorem k_inNl {a : Nat} {i : Nat} {xs : List Nat} {h : AH} (ha : h a = some (.lst (nL xs))) : cmpD .inn (.v (.int i)) (.v (.loc a)) h = some (decide (i ∈ xs)) := by
  rw [← nL_iL] at ha
  rw [k_inl ha]
  simp only [nL_in]
theorem k_ninN (i : Nat) (xs : List Nat) (h : AH) : cmpD .nin (.v (.int i)) (.v (.tup (nL xs))) h = some (!decide (i ∈ xs)) := by
  rw [← nL_iL, k_nin]
  simp only [nL_in]
theorem k_ninNl {a : Nat} {i : Nat} {xs : List Nat} {h : AH} (ha : h a = some (.lst (nL xs))) : cmpD .nin (.v (.int i)) (.v (.loc a)) h = some (!decide (i ∈ xs)) := by
  rw [← nL_iL] at ha
  rw [k_ninl ha]
  simp only [nL_in]
theorem n_sortl {a : Nat} {xs : List Int} {h : AH} (ha : h a = some (.lst (iL xs))) : b1D .sorted (.v (.loc a)) h = some (.o (.lst (iL (sortI xs)))) := by
  simp only [b1D, l_loc ha, intsL_iL]
  rfl
theorem sm_nL {k : Nat} {xs : List Nat} (h : xs.length ≤ 16777216) : sm (k + 1) (.tup (nL xs)) = true := by
  rw [← nL_iL]
  exact sm_iL (by simpa using h)
theorem insI_mem {x y : Int} : ∀ {xs : List Int}, y ∈ insI x xs ↔ y = x ∨ y ∈ xs
  | [] => by simp [insI]
  | z :: r => by
    unfold insI
    split
    · simp
    · simp [insI_mem (xs := r)]
      exact ⟨fun h => by rcases h with h | h | h <;> simp [h], fun h => by rcases h with h | h | h <;> simp [h]⟩
theorem sortI_mem {y : Int} : ∀ {xs : List Int}, y ∈ sortI xs ↔ y ∈ xs
  | [] => by simp [sortI]
  | x :: r => by simp [sortI, insI_mem, sortI_mem (xs := r)]
theorem insI_len {x : Int} : ∀ {xs : List Int}, (insI x xs).length = xs.length + 1
  | [] => rfl
  | z :: r => by
    unfold insI
    split
    · rfl
    · simp [insI_len (xs := r)]
theorem sortI_len : ∀ {xs : List Int}, (sortI xs).length = xs.length
  | [] => rfl
  | x :: r => by simp [sortI, insI_len, sortI_len (xs := r)]
end Py
namespace Py
open PySem (Str)
/-! ### slices from behind -/
theorem fm_congr {α β : Type} {f g : α → Option β} : ∀ {xs : List α}, (∀ x ∈ xs, f x = g x) → xs.filterMap f = xs.filterMap g
  | [], _ => rfl
  | x :: xs, h => by
    rw [List.filterMap_cons, List.filterMap_cons, h x (by simp), fm_congr (xs := xs) fun y hy => h y (List.mem_cons_of_mem _ hy)]
theorem pickN {α : Type} (xs : List α) : (List.range xs.length).filterMap (fun k => xs[xs.length - 1 - k]?) = xs.reverse := by
  have e : (List.range xs.length).filterMap (fun k => xs[xs.length - 1 - k]?) = (List.range xs.length).filterMap (fun k => xs.reverse[k]?) := by
    apply fm_congr
    intro k hk
    rw [List.getElem?_reverse (by simpa using hk)]
  rw [e]
  have g : ∀ ys : List α, (List.range ys.length).filterMap (fun k => ys[k]?) = ys := by
    intro ys
    induction ys with
    | nil => rfl
    | cons y ys ih =>
      rw [List.length_cons, List.range_succ_eq_map, List.filterMap_cons]
      simp only [List.getElem?_cons_zero, List.filterMap_map, Function.comp_def, List.getElem?_cons_succ]
      rw [ih]
  have := g xs.reverse
  rw [List.length_reverse] at this
  exact this
theorem pkT_rev {α : Type} (xs : List α) : pkT (-1) none none xs = xs.reverse := by
  rw [← pickN xs]
  unfold pkT
  rw [List.filterMap_map]
  have e : PySem.Builtin.Slice.slicePlaces (PySem.Builtin.Slice.sliceAdjust none none (-1) xs.length).1 (PySem.Builtin.Slice.sliceAdjust none none (-1) xs.length).2 (-1) = xs.length := by
    show (if (-1 : Int) > 0 then _ else if ((xs.length : Int) - 1 > -1) then ((xs.length : Int) - 1 - -1 - 1) / (- -1) + 1 else 0).toNat = _
    rw [if_neg (by decide)]
    split <;> simp <;> omega
  rw [e]
  apply fm_congr
  intro k hk
  rw [List.mem_range] at hk
  show xs[((xs.length : Int) - 1 + k * (-1)).toNat]? = xs[xs.length - 1 - k]?
  congr 1
  omega
theorem pkL_rev {α : Type} (xs : List α) : pkL (-1) none none xs = xs.reverse := by
  rw [← pickN xs]
  unfold pkL
  show (PySem.sliceRange ((xs.length : Int) - 1) (-1) (-1)).filterMap _ = _
  have e : PySem.sliceRange ((xs.length : Int) - 1) (-1) (-1) = (List.range xs.length).map fun (k : Nat) => xs.length - 1 - k := by
    unfold PySem.sliceRange
    simp only
    have e1 : ((if (-1 : Int) > 0 then (if (xs.length : Int) - 1 < -1 then (-1 - ((xs.length : Int) - 1) + -1 - 1) / -1 else 0) else if (xs.length : Int) - 1 > -1 then ((xs.length : Int) - 1 - -1 - -1 - 1) / - -1 else 0)).toNat = xs.length := by
      rw [if_neg (by decide)]
      split <;> simp <;> omega
    rw [e1]
    apply List.map_congr_left
    intro k hk
    rw [List.mem_range] at hk
    omega
  rw [e, List.filterMap_map]
  rfl
section
variable {cal : Cal} {G : Str → Option D} {env : Env} {h : AH} {X : Xc} {Q : Rv → AH → Prop} {xs : List D} {a : Nat}
@[simp] theorem v_sls {a : Ex} {lo hi : Oe} {st : Int} : wX cal G (.sls a lo hi st) env h Q X = wX cal G a env h (fun x h1 => wO cal G lo env h1 (fun l h2 => wO cal G hi env h2 (fun u h3 => gd (slsD x l u st h3) fun r => Q r h3) X) X) X := rfl
@[simp] theorem sls_t (hl : xs.length ≤ 16777216) : slsD (.v (.tup xs)) none none (-1) h = some (.v (.tup xs.reverse)) := by simp [slsD, pkT_rev, hl]
@[simp] theorem sls_o (hl : xs.length ≤ 16777216) : slsD (.o (.lst xs)) none none (-1) h = some (.o (.lst xs.reverse)) := by simp [slsD, pkL_rev, hl]
@[simp] theorem sls_l (e : h a = some (.lst xs)) (hl : xs.length ≤ 16777216) : slsD (.v (.loc a)) none none (-1) h = some (.o (.lst xs.reverse)) := by simp [slsD, pkL_rev, hl, e]
end
end Py
namespace Py
open PySem (Str)
/-! ### draws of the laws about programs -/
namespace D3
def c__law_draws : Fn := ⟨2, 10, (.cons (.asg (.nm 2) (.lst (.cons (.lit (.int 0)) .nil))) (.cons (.for_ (.nm 3) (.seq (.var 0)) (.cons (.asg (.nm 4) (.b1 .abs (.var 3))) (.cons (.ifs (.cmp .lt (.var 4) (.bin .pow (.lit (.int 10)) (.lit (.int 18)))) (.cons (.expr (.mt .append (.var 2) (.cons (.var 4) .nil))) .nil) (.cons (.for_ (.nm 5) (.rng1 (.lit (.int 40))) (.cons (.ifs (.cmp .gt (.var 4) (.lit (.int 0))) (.cons (.expr (.mt .append (.var 2) (.cons (.bin .add (.b1 .int (.bin .mod (.var 4) (.bin .pow (.lit (.int 10)) (.lit (.int 9))))) (.bin .mul (.lit (.int 17)) (.var 5))) .nil))) (.cons (.asg (.nm 4) (.bin .fdiv (.var 4) (.bin .pow (.lit (.int 10)) (.lit (.int 9))))) .nil)) .nil) .nil)) .nil)) .nil))) (.cons (.asg (.nm 6) (.lst .nil)) (.cons (.for_ (.nm 5) (.rng1 (.var 1)) (.cons (.asg (.nm 7) (.b1 .int (.bin .mod (.bin .mul (.var 5) (.lit (.int 7))) (.b1 .len (.var 2))))) (.cons (.asg (.nm 8) (.bin .mod (.bin .add (.bin .add (.bin .add (.bin .mul (.ix (.var 2) (.var 7)) (.lit (.int 48271))) (.bin .mul (.var 5) (.lit (.int 69621)))) (.lit (.int 11))) (.b1 .len (.var 2))) (.lit (.int 2147483647)))) (.cons (.asg (.nm 9) (.bin .mod (.bin .add (.bin .add (.bin .add (.bin .mul (.var 8) (.var 8)) (.bin .mul (.ix (.var 2) (.b1 .int (.bin .mod (.bin .add (.var 5) (.lit (.int 1))) (.b1 .len (.var 2))))) (.lit (.int 613)))) (.bin .mul (.lit (.int 3)) (.var 8))) (.var 5)) (.lit (.int 1000003)))) (.cons (.expr (.mt .append (.var 6) (.cons (.var 9) .nil))) .nil))))) (.cons (.expr (.mt .reverse (.var 6) .nil)) (.cons (.ret (.var 6)) .nil))))))⟩
def c__law_take : Fn := ⟨2, 2, (.cons (.ifs (.cmp .eq (.b1 .len (.var 0)) (.lit (.int 0))) (.cons (.ret (.lit (.int 0))) .nil) .nil) (.cons (.ret (.b1 .int (.bin .mod (.mt .pop (.var 0) .nil) (.var 1)))) .nil))⟩
def c__law_half : Fn := ⟨1, 3, (.cons (.asg (.nm 1) (.lit (.int 1))) (.cons (.for_ (.nm 2) (.rng1 (.bin .sub (.var 0) (.lit (.int 1)))) (.cons (.asg (.nm 1) (.bin .mul (.var 1) (.lit (.int 2)))) .nil)) (.cons (.ret (.var 1)) .nil)))⟩
section
variable {P : Prog} {n : Nat} {h : AH} {Q : D → AH → Prop} {X : Xc}
theorem take_i (hf : P.fn "_law_take" = some c__law_take) {a : Nat} {ds : List Int} {m : Int} (hm : 0 < m) (e : h a = some (.lst (iL ds)))
    (q : ∀ (v : Nat) (ds' : List Int), (v : Int) < m → Q (.int v) (put h a (.lst (iL ds')))) : wC P (n + 1) "_law_take" [.loc a, .int m] h Q X := by
  refine wC_i hf rfl ?_
  rcases List.eq_nil_or_concat ds with rfl | ⟨l, x, rfl⟩
  · simp [c__law_take, b1D, sqV, lsV, ob, e, iL, cmpD, eqD, tru]
    refine someQ_i ?_
    have := q 0 [] hm
    have e2 : put h a (.lst (iL [])) = h := by
      funext b
      by_cases hb : b = a
      · subst hb; rw [put_self, e]
      · exact put_ne hb
    rw [e2] at this
    exact this
  · have e' : h a = some (.lst (iL l ++ [.int x])) := by rw [e]; simp [iL]
    simp [c__law_take, b1D, sqV, lsV, ob, e', cmpD, eqD, tru]
    have hne : ¬ ((l.length : Int) + 1 = 0) := by omega
    simp [hne, iL, mtChk, ltV, ob, e', mtD, mLs, binD, intOp, hm]
    have h0 := Int.emod_nonneg x (show m ≠ 0 by omega)
    obtain ⟨v, hv⟩ := Int.eq_ofNat_of_zero_le h0
    rw [hv]
    exact someQ_i (q v l (by rw [← hv]; exact Int.emod_lt_of_pos _ hm))
theorem half_i (hf : P.fn "_law_half" = some c__law_half) {w : Nat} (h1 : 1 ≤ w) (hw : w ≤ 1000000) (q : Q (.int ((2 ^ (w - 1) : Nat) : Int)) h) : wC P (n + 1) "_law_half" [.int w] h Q X := by
  have e : (w : Int) - 1 = ((w - 1 : Nat) : Int) := by omega
  have s1 : small62 ((w - 1 : Nat) : Int) = true := by simp [small62]; omega
  have m2 : ml 2 := ml_of (by decide) (by decide)
  refine wC_i hf rfl ?_
  simp [c__law_half, List.replicate, e, s1]
  refine for_f (fun i env h' => h = h' ∧ ∃ o, env = [some (.int w), some (.int (2 ^ i)), o]) ⟨rfl, none, by simp⟩ ?_ ?_
  · rintro i x env h' N hx ⟨rfl, o, rfl⟩ hN
    simp [m2]
    exact hN _ _ ⟨rfl, _, by rw [Int.pow_succ]⟩
  · rintro env h' ⟨rfl, o, rfl⟩
    simp
    exact someQ_i (by simpa using q)
theorem draws_i (hf : P.fn "_law_draws" = some c__law_draws) {ns : List Int} {m : Nat} (hn : ns.length ≤ 63) (hm2 : m ≤ 10000)
    (q : ∀ (a : Nat) (ds : List Int), h a = none → Q (.loc a) (put h a (.lst (iL ds)))) : wC P (n + 1) "_law_draws" [.fl (iL ns), .int m] h Q X := by
  have s0 : small62 40 = true := by decide
  have s1 : small62 (m : Int) = true := by simp [small62]; omega
  have m17 : ml 17 := ml_of (by decide) (by decide)
  have m7 : ml 7 := ml_of (by decide) (by decide)
  have m4 : ml 48271 := ml_of (by decide) (by decide)
  have m6 : ml 69621 := ml_of (by decide) (by decide)
  have m61 : ml 613 := ml_of (by decide) (by decide)
  have m3 : ml 3 := ml_of (by decide) (by decide)
  refine wC_i hf rfl ?_
  simp only [c__law_draws, v_start, List.replicate, List.length_cons, List.length_nil, List.map_cons, List.map_nil, List.cons_append, List.nil_append]
  simp [-v_rB]
  intro a na
  rw [v_rB]
  simp [-v_rB]
  refine for_f (fun i env h' => ∃ (cs : List Int) (o3 o4 o5 : Option D), 0 < cs.length ∧ cs.length ≤ 1 + i * 40 ∧ h' = put h a (.lst (iL cs)) ∧ env = [some (.fl (iL ns)), some (.int m), some (.loc a), o3, o4, o5, none, none, none, none]) ⟨[0], none, none, none, by simp, by simp, rfl, rfl⟩ ?_ ?_
  · rintro i x env h' N hx ⟨cs, o3, o4, o5, c0, c1, rfl, rfl⟩ hN
    have hi : i < 63 := by
      have := (List.getElem?_eq_some_iff.mp hx).1
      rw [iL_len] at this; omega
    obtain ⟨y, _, rfl⟩ := iL_mem (List.mem_of_getElem? hx)
    have cap : (iL cs).length < 16777216 := by rw [iL_len]; omega
    simp [-v_rB]
    rw [v_rB]
    simp [-v_rB]
    generalize (if y < 0 then -y else y) = r
    by_cases z : r < 1000000000000000000
    · simp [z, cap]
      exact hN _ _ ⟨cs ++ [r], _, _, _, by simp, by simp; omega, by rw [iL_one], rfl⟩
    · simp [z, s0]
      refine for_f (fun j env h' => ∃ (cs2 : List Int) (o5 : Option D) (r : Int), 0 < cs2.length ∧ cs2.length ≤ cs.length + j ∧ h' = put h a (.lst (iL cs2)) ∧ env = [some (.fl (iL ns)), some (.int m), some (.loc a), some (.int y), some (.int r), o5, none, none, none, none]) ⟨cs, _, r, c0, Nat.le_refl _, rfl, rfl⟩ ?_ ?_
      · rintro j x env h' N2 hx ⟨cs2, o5, r, c3, c4, rfl, rfl⟩ hN2
        obtain ⟨hj, rfl⟩ := rngL_at hx
        have hj' : j < 40 := by simpa using hj
        have cap2 : (iL cs2).length < 16777216 := by rw [iL_len]; omega
        by_cases z : 0 < r
        · simp [z, cap2, m17]
          exact hN2 _ _ ⟨cs2 ++ [_], _, _, by simp, by simp; omega, by rw [iL_one], rfl⟩
        · simp [z]
          exact hN2 _ _ ⟨cs2, _, _, c3, by omega, rfl, rfl⟩
      · rintro env h' ⟨cs2, o5, r, c3, c4, rfl, rfl⟩
        have c5 : (rngL 0 (40 : Int).toNat).length = 40 := by rw [rngL_length]; rfl
        simp only [rngL_length] at c4
        refine hN _ _ ⟨cs2, _, _, _, c3, ?_, rfl, rfl⟩
        have : (40 : Int).toNat = 40 := rfl
        omega
  · rintro env h' ⟨cs, o3, o4, o5, c0, c1, rfl, rfl⟩
    rw [iL_len] at c1
    rw [v_nx, v_rB]
    simp [-v_rB]
    intro b nb
    have ba : b ≠ a := fun e => by rw [e, put_self] at nb; cases nb
    rw [put_ne ba] at nb
    rw [v_rB]
    simp [-v_rB, s1]
    refine for_f (fun i env h' => ∃ (ds : List Int) (o5 o7 o8 o9 : Option D), ds.length = i ∧ h' = put (put h a (.lst (iL cs))) b (.lst (iL ds)) ∧ env = [some (.fl (iL ns)), some (.int m), some (.loc a), o3, o4, o5, some (.loc b), o7, o8, o9]) ⟨[], _, none, none, none, rfl, rfl, rfl⟩ ?_ ?_
    · rintro i x env h' N hx ⟨ds, o5, o7, o8, o9, dl, rfl, rfl⟩ hN
      obtain ⟨hi, rfl⟩ := rngL_at hx
      have hc : (0 : Int) < (cs.length : Int) := by omega
      obtain ⟨v, hv⟩ := iL_at (xs := cs) (Int.emod_nonneg ((i : Int) * 7) (by omega)) (Int.emod_lt_of_pos _ hc)
      obtain ⟨u, hu⟩ := iL_at (xs := cs) (Int.emod_nonneg ((i : Int) + 1) (by omega)) (Int.emod_lt_of_pos _ hc)
      have cap : (iL ds).length < 16777216 := by rw [iL_len]; omega
      have hc2 : 0 < cs.length := c0
      simp [-v_rB, put_ne ba.symm, m7, iL_len, hc2]
      rw [v_rB]
      simp [-v_rB, put_ne ba.symm, m4, m6, hv, iL_len]
      generalize hw : (v * 48271 + (i : Int) * 69621 + 11 + (cs.length : Int)) % 2147483647 = w
      have w0 : ml w := by
        rw [← hw]
        exact ml_of (Int.lt_of_lt_of_le (by decide) (Int.emod_nonneg _ (by decide))) (Int.lt_trans (Int.emod_lt_of_pos _ (by decide)) (by decide))
      rw [v_rB]
      simp [-v_rB, put_ne ba.symm, m3, m61, w0, hu, iL_len, hc2]
      rw [v_rB]
      simp [-v_rB, cap]
      exact hN _ _ ⟨ds ++ [_], _, _, _, _, by simp [dl], by rw [iL_one], rfl⟩
    · rintro env h' ⟨ds, o5, o7, o8, o9, dl, rfl, rfl⟩
      simp
      have e : (iL ds).reverse = iL ds.reverse := by simp [iL]
      rw [e]
      have sb : Sub (put h b (.lst (iL ds.reverse))) (put (put h a (.lst (iL cs))) b (.lst (iL ds.reverse))) := by
        intro c o ec
        by_cases hb : c = b
        · subst hb; rw [put_self] at ec ⊢; exact ec
        · rw [put_ne hb] at ec ⊢
          exact (sub_put na) c o ec
      exact someQ_s sb (q b ds.reverse nb)
end
end D3
end Py
namespace Py
open PySem (Str)
namespace Cor
/-! ### names -/
inductive Nm | number | of | paired | first | second | plus | minus | less | same | hear | show | pair | set | goto | halt | test | push | load | keep | jump | unless | call | drop | back | nno | noc | cons | couple | ife | whl | cases | parts | got | list
  deriving DecidableEq
def nm : Nm → Str
  | .number => "number" | .of => "of" | .paired => "paired" | .first => "first" | .second => "second" | .plus => "plus" | .minus => "minus" | .less => "less" | .same => "same"
  | .hear => "hear" | .show => "show" | .pair => "pair" | .set => "set" | .goto => "goto" | .halt => "halt" | .test => "test" | .push => "push" | .load => "load" | .keep => "keep" | .jump => "jump"
  | .unless => "unless" | .call => "call" | .drop => "drop" | .back => "back"
  | .nno => "none" | .noc => "nocouple" | .cons => "cons" | .couple => "couple" | .ife => "if" | .whl => "while" | .cases => "cases" | .parts => "parts" | .got => "got" | .list => "list"
/-- a number of its own for each name's text -/
def nmK (s : Str) : Nat := s.cps.toList.foldl (fun a c => a * 1000 + c) 0
def nmI : Nm → Nat := fun a => nmK (nm a)
def allNm : List Nm := [.number, .of, .paired, .first, .second, .plus, .minus, .less, .same, .hear, .show, .pair, .set, .goto, .halt, .test, .push, .load, .keep, .jump, .unless, .call, .drop, .back, .nno, .noc, .cons, .couple, .ife, .whl, .cases, .parts, .got, .list]
theorem nm_find : ∀ a : Nm, (allNm.find? fun n => nmI n == nmI a) = some a := by
  intro a
  cases a <;> decide +kernel
theorem nm_inj : ∀ a b : Nm, nm a = nm b → a = b := by
  intro a b h
  have e : nmI a = nmI b := by unfold nmI; rw [h]
  have h1 := nm_find a
  rw [e, nm_find b] at h1
  exact (Option.some.inj
      h1).symm
@[simp] theorem nm_eq {a b : Nm} : nm a = nm b ↔ a = b := ⟨nm_inj a b, fun h => h ▸ rfl⟩
theorem nm_pu (a : Nm) : (nm a).cps.all (· < 0x110000) = true := by cases a <;> decide +kernel
@[simp] theorem pu_nm {n : Nat} {a : Nm} : pu n (.str (nm a)) = true := by
  unfold pu
  cases n <;> exact nm_pu a
@[simp] theorem eqv_nm {a b : Nm} : eqv (.str (nm a)) (.str (nm b)) = decide (a = b) := by
  show (nm a == nm b) = _
  by_cases h : a = b
  · subst h; simp
  · have : ¬ nm a = nm b := fun z => h (nm_inj a b z)
    simp [h, this]
@[simp] theorem k_nm {a b : Nm} {h : AH} : cmpD .eq (.v (.str (nm a))) (.v (.str (nm b))) h = some (decide (a = b)) := by
  rw [k_eqs]
  congr 1
  exact decide_eq_decide.mpr nm_eq
theorem k_inn (x y : Rv) (h : AH) : cmpD .inn x y h = inD x y h := rfl
@[simp] theorem in_nm {a : Nm} {ys : List D} {h : AH} (hy : ys.all (pu 40) = true) : cmpD .inn (.v (.str (nm a))) (.v (.tup ys)) h = some (ys.any fun z => eqv z (.str (nm a))) := by
  rw [k_inn]
  unfold inD
  simp [hy]
theorem n1 : Str.ofString "number" = nm .number := rfl
theorem n2 : Str.ofString "of" = nm .of := rfl
theorem n3 : Str.ofString "paired" = nm .paired := rfl
theorem n4 : Str.ofString "first" = nm .first := rfl
theorem n5 : Str.ofString "second" = nm .second := rfl
theorem n6 : Str.ofString "plus" = nm .plus := rfl
theorem n7 : Str.ofString "minus" = nm .minus := rfl
theorem n8 : Str.ofString "less" = nm .less := rfl
theorem n9 : Str.ofString "same" = nm .same := rfl
theorem n10 : Str.ofString "hear" = nm .hear := rfl
theorem n11 : Str.ofString "show" = nm .show := rfl
theorem n12 : Str.ofString "pair" = nm .pair := rfl
theorem n13 : Str.ofString "set" = nm .set := rfl
theorem n14 : Str.ofString "goto" = nm .goto := rfl
theorem n15 : Str.ofString "halt" = nm .halt := rfl
theorem n16 : Str.ofString "test" = nm .test := rfl
theorem n17 : Str.ofString "push" = nm .push := rfl
theorem n18 : Str.ofString "load" = nm .load := rfl
theorem n19 : Str.ofString "keep" = nm .keep := rfl
theorem n20 : Str.ofString "jump" = nm .jump := rfl
theorem n21 : Str.ofString "unless" = nm .unless := rfl
theorem n22 : Str.ofString "call" = nm .call := rfl
theorem n23 : Str.ofString "drop" = nm .drop := rfl
theorem n24 : Str.ofString "back" = nm .back := rfl
theorem n25 : Str.ofString "none" = nm .nno := rfl
theorem n26 : Str.ofString "nocouple" = nm .noc := rfl
theorem n27 : Str.ofString "cons" = nm .cons := rfl
theorem n28 : Str.ofString "couple" = nm .couple := rfl
theorem n29 : Str.ofString "if" = nm .ife := rfl
theorem n30 : Str.ofString "while" = nm .whl := rfl
theorem n31 : Str.ofString "cases" = nm .cases := rfl
theorem n32 : Str.ofString "parts" = nm .parts := rfl
theorem n33 : Str.ofString "got" = nm .got := rfl
theorem n34 : Str.ofString "list" = nm .list := rfl
/-! ### a walk over few -/
section
variable {P : Prog} {n : Nat} {t : Tg} {b : Sts} {env : Env} {h : AH} {K : Ks} {x : D} {r : List D}
theorem for_nil (q : K.nx env h) : ForG (wC P n) P.gl P.sub t b K env (.fix []) h := ⟨trivial, q⟩
theorem for_cons (q : wTg t x env h fun e3 h3 => wB (wC P n) P.gl P.sub b e3 h3 (K.turn fun e h => ForG (wC P n) P.gl P.sub t b K e (.fix r) h)) : ForG (wC P n) P.gl P.sub t b K env (.fix (x :: r)) h := ⟨trivial, q⟩
end
/-! ### core expressions -/
inductive CE | num (n : Nat) | of (v : Nat) | un (s : Nm) (a : CE) | bi (s : Nm) (a b : CE)
def CE.d : CE → D
  | .num n => .tup [.str (nm .number), .int n]
  | .of v => .tup [.str (nm .of), .int v]
  | .un s a => .tup [.str (nm s), a.d]
  | .bi s a b => .tup [.str (nm s), a.d, b.d]
def CE.dep : CE → Nat
  | .num _ => 1
  | .of _ => 1
  | .un _ a => a.dep + 1
  | .bi _ a b => max a.dep b.dep + 1
structure Un (s : Nm) : Prop where
  h : s = .paired ∨ s = .first ∨ s = .second
structure Bn (s : Nm) : Prop where
  h : s = .plus ∨ s = .minus ∨ s = .less ∨ s = .same
def CE.Ok (half many : Nat) : CE → Prop
  | .num n => n < half
  | .of v => v < many
  | .un s a => Un s ∧ a.Ok half many
  | .bi s a b => Bn s ∧ a.Ok half many ∧ b.Ok half many
abbrev Row := Nm × Option Nat
def rw1 : Row → D
  | (s, none) => .tup [.str (nm s)]
  | (s, some n) => .tup [.str (nm s), .int n]
def rwL (l : List Row) : List D := l.map rw1
@[simp] theorem rwL_len {l : List Row} : (rwL l).length = l.length := by simp [rwL]
theorem rwL_app {l m : List Row} : rwL l ++ rwL m = rwL (l ++ m) := by simp [rwL]
def CE.rows : CE → List Row
  | .num n => [(.push, some n)]
  | .of v => [(.load, some v)]
  | .un s a => a.rows ++ [(s, none)]
  | .bi s a b => a.rows ++ b.rows ++ [(s, none)]
def CE.pl : CE → Nat
  | .num _ => 1
  | .of _ => 1
  | .un _ a => a.pl
  | .bi _ a b => max a.pl (1 + b.pl)
theorem pl_pos : ∀ e : CE, 1 ≤ e.pl
  | .num _ => Nat.le_refl _
  | .of _ => Nat.le_refl _
  | .un _ a => pl_pos a
  | .bi _ a b => Nat.le_trans (pl_pos a) (Nat.le_max_left _ _)
theorem dep_pos : ∀ e : CE, 1 ≤ e.dep
  | .num _ => Nat.le_refl _
  | .of _ => Nat.le_refl _
  | .un _ a => by unfold CE.dep; omega
  | .bi _ a b => by unfold CE.dep; omega
theorem rows_pos : ∀ e : CE, 1 ≤ e.rows.length
  | .num _ => Nat.le_refl _
  | .of _ => Nat.le_refl _
  | .un _ a => by simp [CE.rows]
  | .bi _ a b => by simp [CE.rows]; omega
theorem rows_len : ∀ e : CE, e.rows.length < 2 ^ e.dep
  | .num _ => by simp [CE.rows, CE.dep]
  | .of _ => by simp [CE.rows, CE.dep]
  | .un _ a => by
    have := rows_len a
    simp only [CE.rows, CE.dep, List.length_append, List.length_cons, List.length_nil, Nat.pow_succ]
    omega
  | .bi _ a b => by
    have h1 := rows_len a
    have h2 := rows_len b
    have h3 : 2 ^ a.dep ≤ 2 ^ max a.dep b.dep := Nat.pow_le_pow_right (by decide) (Nat.le_max_left _ _)
    have h4 : 2 ^ b.dep ≤ 2 ^ max a.dep b.dep := Nat.pow_le_pow_right (by decide) (Nat.le_max_right _ _)
    simp only [CE.rows, CE.dep, List.length_append, List.length_cons, List.length_nil, Nat.pow_succ]
    omega
theorem un_ne {s : Nm} (h : Un s) : ¬ s = .number ∧ ¬ s = .of := by
  rcases h.h with rfl | rfl | rfl <;> decide
theorem bn_ne {s : Nm} (h : Bn s) : ¬ s = .number ∧ ¬ s = .of := by
  rcases h.h with rfl | rfl | rfl | rfl <;> decide
theorem cut1 {x : D} {xs : List D} : cut (x :: xs) (some 1) none = xs := by
  have := cut_drop (xs := x :: xs) (k := 1) (by simp)
  exact this
def c_core_expression_rows : Fn := ⟨1, 3, (.cons (.ifs (.cmp .eq (.ix (.var 0) (.lit (.int 0))) (.lit (.str "number"))) (.cons (.ret (.tup (.cons (.tup (.cons (.lit (.str "push")) (.cons (.ix (.var 0) (.lit (.int 1))) .nil))) .nil))) .nil) .nil) (.cons (.ifs (.cmp .eq (.ix (.var 0) (.lit (.int 0))) (.lit (.str "of"))) (.cons (.ret (.tup (.cons (.tup (.cons (.lit (.str "load")) (.cons (.ix (.var 0) (.lit (.int 1))) .nil))) .nil))) .nil) .nil) (.cons (.asg (.nm 1) (.tup .nil)) (.cons (.for_ (.nm 2) (.seq (.sl (.var 0) (.so (.lit (.int 1))) .no)) (.cons (.asg (.nm 1) (.bin .add (.var 1) (.call "core_expression_rows" (.cons (.var 2) .nil)))) .nil)) (.cons (.ret (.bin .add (.var 1) (.tup (.cons (.tup (.cons (.ix (.var 0) (.lit (.int 0))) .nil)) .nil)))) .nil)))))⟩
def c_places_for_expression : Fn := ⟨1, 3, (.cons (.ifs (.cmp .inn (.ix (.var 0) (.lit (.int 0))) (.tup (.cons (.lit (.str "number")) (.cons (.lit (.str "of")) .nil)))) (.cons (.ret (.lit (.int 1))) .nil) .nil) (.cons (.asg (.nm 1) (.lit (.int 0))) (.cons (.for_ (.nm 2) (.rng2 (.lit (.int 1)) (.b1 .len (.var 0))) (.cons (.asg (.nm 1) (.b2 .max (.var 1) (.bin .add (.bin .sub (.var 2) (.lit (.int 1))) (.call "places_for_expression" (.cons (.ix (.var 0) (.var 2)) .nil))))) .nil)) (.cons (.ret (.var 1)) .nil))))⟩
def c_core_command_rows : Fn := ⟨1, 1, (.cons (.ifs (.cmp .eq (.ix (.var 0) (.lit (.int 0))) (.lit (.str "hear"))) (.cons (.ret (.tup (.cons (.tup (.cons (.lit (.str "hear")) .nil)) (.cons (.tup (.cons (.lit (.str "keep")) (.cons (.ix (.var 0) (.lit (.int 1))) .nil))) .nil)))) .nil) .nil) (.cons (.ifs (.cmp .eq (.ix (.var 0) (.lit (.int 0))) (.lit (.str "show"))) (.cons (.ret (.bin .add (.call "core_expression_rows" (.cons (.ix (.var 0) (.lit (.int 1))) .nil)) (.tup (.cons (.tup (.cons (.lit (.str "show")) .nil)) .nil)))) .nil) .nil) (.cons (.ifs (.cmp .eq (.ix (.var 0) (.lit (.int 0))) (.lit (.str "set"))) (.cons (.ret (.bin .add (.call "core_expression_rows" (.cons (.ix (.var 0) (.lit (.int 2))) .nil)) (.tup (.cons (.tup (.cons (.lit (.str "keep")) (.cons (.ix (.var 0) (.lit (.int 1))) .nil))) .nil)))) .nil) .nil) (.cons (.ret (.bin .add (.bin .add (.call "core_expression_rows" (.cons (.ix (.var 0) (.lit (.int 2))) .nil)) (.call "core_expression_rows" (.cons (.ix (.var 0) (.lit (.int 3))) .nil))) (.tup (.cons (.tup (.cons (.lit (.str "pair")) .nil)) (.cons (.tup (.cons (.lit (.str "keep")) (.cons (.ix (.var 0) (.lit (.int 1))) .nil))) .nil))))) .nil))))⟩
def c_places_for_command : Fn := ⟨1, 1, (.cons (.ifs (.cmp .eq (.ix (.var 0) (.lit (.int 0))) (.lit (.str "hear"))) (.cons (.ret (.lit (.int 1))) .nil) .nil) (.cons (.ifs (.cmp .eq (.ix (.var 0) (.lit (.int 0))) (.lit (.str "pair"))) (.cons (.ret (.b2 .max (.call "places_for_expression" (.cons (.ix (.var 0) (.lit (.int 2))) .nil)) (.bin .add (.lit (.int 1)) (.call "places_for_expression" (.cons (.ix (.var 0) (.lit (.int 3))) .nil))))) .nil) .nil) (.cons (.ret (.call "places_for_expression" (.cons (.ix (.var 0) (.neg (.lit (.int 1)))) .nil))) .nil)))⟩
def c_length_of_jump : Fn := ⟨1, 1, (.cons (.ret (.ite (.cmp .eq (.ix (.var 0) (.lit (.int 0))) (.lit (.str "test"))) (.bin .add (.b1 .len (.call "core_expression_rows" (.cons (.ix (.var 0) (.lit (.int 1))) .nil))) (.lit (.int 2))) (.lit (.int 1)))) .nil)⟩
def c__law_rows : Fn := ⟨1, 3, (.cons (.ifs (.cmp .eq (.ix (.var 0) (.lit (.int 0))) (.lit (.str "number"))) (.cons (.ret (.lst (.cons (.tup (.cons (.lit (.str "push")) (.cons (.ix (.var 0) (.lit (.int 1))) .nil))) .nil))) .nil) .nil) (.cons (.ifs (.cmp .eq (.ix (.var 0) (.lit (.int 0))) (.lit (.str "of"))) (.cons (.ret (.lst (.cons (.tup (.cons (.lit (.str "load")) (.cons (.ix (.var 0) (.lit (.int 1))) .nil))) .nil))) .nil) .nil) (.cons (.asg (.nm 1) (.lst .nil)) (.cons (.for_ (.nm 2) (.seq (.sl (.var 0) (.so (.lit (.int 1))) .no)) (.cons (.asg (.nm 1) (.bin .add (.var 1) (.call "_law_rows" (.cons (.var 2) .nil)))) .nil)) (.cons (.ret (.bin .add (.var 1) (.lst (.cons (.tup (.cons (.ix (.var 0) (.lit (.int 0))) .nil)) .nil)))) .nil)))))⟩
def c__law_command_rows : Fn := ⟨1, 2, (.cons (.ifs (.cmp .eq (.ix (.var 0) (.lit (.int 0))) (.lit (.str "hear"))) (.cons (.ret (.lst (.cons (.tup (.cons (.lit (.str "hear")) .nil)) (.cons (.tup (.cons (.lit (.str "keep")) (.cons (.ix (.var 0) (.lit (.int 1))) .nil))) .nil)))) .nil) .nil) (.cons (.ifs (.cmp .eq (.ix (.var 0) (.lit (.int 0))) (.lit (.str "show"))) (.cons (.ret (.bin .add (.call "_law_rows" (.cons (.ix (.var 0) (.lit (.int 1))) .nil)) (.lst (.cons (.tup (.cons (.lit (.str "show")) .nil)) .nil)))) .nil) .nil) (.cons (.asg (.nm 1) (.call "_law_rows" (.cons (.ix (.var 0) (.lit (.int 2))) .nil))) (.cons (.ifs (.cmp .eq (.ix (.var 0) (.lit (.int 0))) (.lit (.str "pair"))) (.cons (.asg (.nm 1) (.bin .add (.bin .add (.var 1) (.call "_law_rows" (.cons (.ix (.var 0) (.lit (.int 3))) .nil))) (.lst (.cons (.tup (.cons (.lit (.str "pair")) .nil)) .nil)))) .nil) .nil) (.cons (.ret (.bin .add (.var 1) (.lst (.cons (.tup (.cons (.lit (.str "keep")) (.cons (.ix (.var 0) (.lit (.int 1))) .nil))) .nil)))) .nil)))))⟩
section
variable {P : Prog} {n : Nat} {h : AH} {Q : D → AH → Prop} {X : Xc} {half many : Nat}
theorem expr_rows_i (hf : P.fn "core_expression_rows" = some c_core_expression_rows) : ∀ (e : CE) {k : Nat} {h : AH} {Q : D → AH → Prop} {X : Xc}, e.Ok half many → e.dep ≤ k → e.rows.length ≤ 100000 → Q (.tup (rwL e.rows)) h → wC P (n + k) "core_expression_rows" [e.d] h Q X
  | .num m, 0, _, _, _, _, hk, _, _ => absurd hk (by simp [CE.dep])
  | .of m, 0, _, _, _, _, hk, _, _ => absurd hk (by simp [CE.dep])
  | .un s a, 0, _, _, _, _, hk, _, _ => absurd hk (by simp [CE.dep])
  | .bi s a b, 0, _, _, _, _, hk, _, _ => absurd hk (by simp [CE.dep])
  | .num m, k + 1, h, Q, X, ok, hk, hl, q => by
    refine wC_i hf rfl ?_
    simp [c_core_expression_rows, List.replicate, CE.d, n1, n17]
    exact someQ_i q
  | .of m, k + 1, h, Q, X, ok, hk, hl, q => by
    refine wC_i hf rfl ?_
    simp [c_core_expression_rows, List.replicate, CE.d, n1, n2, n18]
    exact someQ_i q
  | .un s a, k + 1, h, Q, X, ok, hk, hl, q => by
    obtain ⟨ok1, ok2⟩ := ok
    obtain ⟨e1, e2⟩ := un_ne ok1
    have hk' : a.dep ≤ k := by simp [CE.dep] at hk; omega
    have hl' : a.rows.length ≤ 100000 := by simp [CE.rows] at hl; omega
    refine wC_i hf rfl ?_
    simp [c_core_expression_rows, List.replicate, CE.d, n1, n2, e1, e2, cut1]
    refine for_cons ?_
    simp
    refine expr_rows_i hf a ok2 hk' hl' ?_
    have l1 : a.rows.length ≤ 16777216 := by omega
    have l2 : a.rows.length + 1 ≤ 16777216 := by omega
    simp [l1]
    refine for_nil ?_
    simp [l2]
    refine someQ_i ?_
    have e : rwL (CE.un s a).rows = rwL a.rows ++ [.tup [.str (nm s)]] := by simp [CE.rows, rwL, rw1]
    rw [e] at q
    exact q
  | .bi s a b, k + 1, h, Q, X, ok, hk, hl, q => by
    obtain ⟨ok1, ok2, ok3⟩ := ok
    obtain ⟨e1, e2⟩ := bn_ne ok1
    have hk' : a.dep ≤ k ∧ b.dep ≤ k := by simp [CE.dep] at hk; omega
    have hl' : a.rows.length + b.rows.length + 1 ≤ 100000 := by simp [CE.rows] at hl; omega
    refine wC_i hf rfl ?_
    simp [c_core_expression_rows, List.replicate, CE.d, n1, n2, e1, e2, cut1]
    refine for_cons ?_
    simp
    refine expr_rows_i hf a ok2 hk'.1 (by omega) ?_
    have l1 : a.rows.length ≤ 16777216 := by omega
    have l2 : a.rows.length + b.rows.length ≤ 16777216 := by omega
    have l3 : a.rows.length + b.rows.length + 1 ≤ 16777216 := by omega
    simp [l1]
    refine for_cons ?_
    simp
    refine expr_rows_i hf b ok3 hk'.2 (by omega) ?_
    simp [l2]
    refine for_nil ?_
    simp [l3]
    refine someQ_i ?_
    have e : rwL (CE.bi s a b).rows = rwL a.rows ++ (rwL b.rows ++ [.tup [.str (nm s)]]) := by simp [CE.rows, rwL, rw1]
    rw [e] at q
    exact q
theorem law_rows_i (hf : P.fn "_law_rows" = some c__law_rows) : ∀ (e : CE) {k : Nat} {h : AH} {Q : D → AH → Prop} {X : Xc}, e.Ok half many → e.dep ≤ k → e.rows.length ≤ 100000 → (∀ a h', Sub h h' → h a = none → h' a = some (.lst (rwL e.rows)) → Q (.loc a) h') → wC P (n + k) "_law_rows" [e.d] h Q X
  | .num m, 0, _, _, _, _, hk, _, _ => absurd hk (by simp [CE.dep])
  | .of m, 0, _, _, _, _, hk, _, _ => absurd hk (by simp [CE.dep])
  | .un s a, 0, _, _, _, _, hk, _, _ => absurd hk (by simp [CE.dep])
  | .bi s a b, 0, _, _, _, _, hk, _, _ => absurd hk (by simp [CE.dep])
  | .num m, k + 1, h, Q, X, ok, hk, hl, q => by
    refine wC_i hf rfl ?_
    simp [c__law_rows, List.replicate, CE.d, n1, n17]
    exact fun a na => someQ_i (q a _ (sub_put na) na put_self)
  | .of m, k + 1, h, Q, X, ok, hk, hl, q => by
    refine wC_i hf rfl ?_
    simp [c__law_rows, List.replicate, CE.d, n1, n2, n18]
    exact fun a na => someQ_i (q a _ (sub_put na) na put_self)
  | .un s a, k + 1, h, Q, X, ok, hk, hl, q => by
    obtain ⟨ok1, ok2⟩ := ok
    obtain ⟨e1, e2⟩ := un_ne ok1
    have hk' : a.dep ≤ k := by simp [CE.dep] at hk; omega
    have hl' : a.rows.length ≤ 100000 := by simp [CE.rows] at hl; omega
    refine wC_i hf rfl ?_
    simp [c__law_rows, List.replicate, CE.d, n1, n2, e1, e2, cut1]
    intro u nu
    refine for_cons ?_
    simp
    refine law_rows_i hf a ok2 hk' hl' fun v h1 s1 nv hv => ?_
    have l1 : ([] : List D).length + (rwL a.rows).length ≤ 16777216 := by simp; omega
    rw [o_addll (s1 u _ put_self) hv l1]
    simp
    intro w nw
    refine for_nil ?_
    have l2 : a.rows.length + 1 ≤ 16777216 := by omega
    simp [l2]
    intro y ny
    have sb : Sub h h1 := (sub_put nu).trans s1
    refine someQ_i (q y _ ((sb.new nw).new ny) ?_ ?_)
    · exact (sb.new nw).free ny
    · rw [put_self]
      simp [CE.rows, rwL, rw1]
  | .bi s a b, k + 1, h, Q, X, ok, hk, hl, q => by
    obtain ⟨ok1, ok2, ok3⟩ := ok
    obtain ⟨e1, e2⟩ := bn_ne ok1
    have hk' : a.dep ≤ k ∧ b.dep ≤ k := by simp [CE.dep] at hk; omega
    have hl' : a.rows.length + b.rows.length + 1 ≤ 100000 := by simp [CE.rows] at hl; omega
    refine wC_i hf rfl ?_
    simp [c__law_rows, List.replicate, CE.d, n1, n2, e1, e2, cut1]
    intro u nu
    refine for_cons ?_
    simp
    refine law_rows_i hf a ok2 hk'.1 (by omega) fun v h1 s1 nv hv => ?_
    have l1 : ([] : List D).length + (rwL a.rows).length ≤ 16777216 := by simp; omega
    rw [o_addll (s1 u _ put_self) hv l1]
    simp
    intro w nw
    refine for_cons ?_
    simp
    refine law_rows_i hf b ok3 hk'.2 (by omega) fun v2 h2 s2 nv2 hv2 => ?_
    have l2 : (rwL a.rows).length + (rwL b.rows).length ≤ 16777216 := by simp; omega
    rw [o_addll (s2 w _ put_self) hv2 l2]
    simp
    intro x nx
    refine for_nil ?_
    have l3 : a.rows.length + b.rows.length + 1 ≤ 16777216 := by omega
    simp [l3]
    intro y ny
    have sb : Sub h h2 := (((sub_put nu).trans s1).new nw).trans s2
    refine someQ_i (q y _ ((sb.new nx).new ny) ((sb.new nx).free ny) ?_)
    rw [put_self]
    simp [CE.rows, rwL, rw1]
theorem places_i (hf : P.fn "places_for_expression" = some c_places_for_expression) : ∀ (e : CE) {k : Nat} {h : AH} {Q : D → AH → Prop} {X : Xc}, e.Ok half many → e.dep ≤ k → Q (.int e.pl) h → wC P (n + k) "places_for_expression" [e.d] h Q X
  | .num m, 0, _, _, _, _, hk, _ => absurd hk (by simp [CE.dep])
  | .of m, 0, _, _, _, _, hk, _ => absurd hk (by simp [CE.dep])
  | .un s a, 0, _, _, _, _, hk, _ => absurd hk (by simp [CE.dep])
  | .bi s a b, 0, _, _, _, _, hk, _ => absurd hk (by simp [CE.dep])
  | .num m, k + 1, h, Q, X, ok, hk, q => by
    refine wC_i hf rfl ?_
    simp [c_places_for_expression, List.replicate, CE.d, n1, n2]
    exact someQ_i q
  | .of m, k + 1, h, Q, X, ok, hk, q => by
    refine wC_i hf rfl ?_
    simp [c_places_for_expression, List.replicate, CE.d, n1, n2]
    exact someQ_i q
  | .un s a, k + 1, h, Q, X, ok, hk, q => by
    obtain ⟨ok1, ok2⟩ := ok
    obtain ⟨e1, e2⟩ := un_ne ok1
    have e1' : ¬ Nm.number = s := fun z => e1 z.symm
    have e2' : ¬ Nm.of = s := fun z => e2 z.symm
    have hk' : a.dep ≤ k := by simp [CE.dep] at hk; omega
    have s2 : small62 2 = true := by decide
    have s1 : small62 1 = true := by decide
    refine wC_i hf rfl ?_
    simp [c_places_for_expression, List.replicate, CE.d, n1, n2, e1', e2', s1, s2]
    have er : rngL 1 1 = [.int 1] := rfl
    rw [er]
    refine for_cons ?_
    simp
    refine places_i hf a ok2 hk' ?_
    have := pl_pos a
    simp
    refine for_nil ?_
    have z : (0 : Int) < (a.pl : Int) := by omega
    simp [z]
    try rw [if_pos (by omega)]
    exact someQ_i q
  | .bi s a b, k + 1, h, Q, X, ok, hk, q => by
    obtain ⟨ok1, ok2, ok3⟩ := ok
    obtain ⟨e1, e2⟩ := bn_ne ok1
    have e1' : ¬ Nm.number = s := fun z => e1 z.symm
    have e2' : ¬ Nm.of = s := fun z => e2 z.symm
    have hk' : a.dep ≤ k ∧ b.dep ≤ k := by simp [CE.dep] at hk; omega
    have s3 : small62 3 = true := by decide
    have s1 : small62 1 = true := by decide
    refine wC_i hf rfl ?_
    simp [c_places_for_expression, List.replicate, CE.d, n1, n2, e1', e2', s1, s3]
    have er : rngL 1 2 = [.int 1, .int 2] := rfl
    rw [er]
    refine for_cons ?_
    simp
    refine places_i hf a ok2 hk'.1 ?_
    have h1 := pl_pos a
    have h2 := pl_pos b
    simp
    refine for_cons ?_
    simp
    refine places_i hf b ok3 hk'.2 ?_
    simp
    refine for_nil ?_
    simp
    refine someQ_i ?_
    have e : (if (if (0 : Int) < (a.pl : Int) then (a.pl : Int) else 0) < 1 + (b.pl : Int) then 1 + (b.pl : Int) else if (0 : Int) < (a.pl : Int) then (a.pl : Int) else 0) = ((CE.bi s a b).pl : Int) := by
      show _ = ((max a.pl (1 + b.pl) : Nat) : Int)
      rw [if_pos (show (0 : Int) < (a.pl : Int) by omega)]
      split <;> omega
    simp only [Int.natCast_pos] at e ⊢
    first | (rw [e]; exact q) | (simp only [show 0 < a.pl by omega, if_true] at e ⊢; rw [e]; exact q)
end
end Cor
end Py
namespace Py
open PySem (Str)
namespace Cor
/-! ### the greatest, the sum -/
def mxN (xs : List Nat) : Nat := xs.foldl max 0
theorem foldl_max (xs : List Nat) (i : Nat) : xs.foldl max i = max i (mxN xs) := by
  induction xs
      generalizing i with
  | nil => simp [mxN]
  | cons x r ih =>
    rw [List.foldl_cons, ih, show mxN (x :: r) = r.foldl max (max 0 x) from rfl, ih]
    omega
theorem mxN_cons (x : Nat) (r : List Nat) : mxN (x :: r) = max x (mxN r) := by
  show r.foldl max (max 0 x) = _
  rw [foldl_max]
  omega
theorem mxN_app (xs ys : List Nat) : mxN (xs ++ ys) = max (mxN xs) (mxN ys) := by
  induction xs with
  | nil => simp [mxN]
  | cons x r ih => rw [List.cons_append, mxN_cons, mxN_cons, ih]; omega
theorem maxI_nat (x : Nat) (r : List Nat) : maxI ((x :: r).map fun (y : Nat) => (y : Int)) = some ((mxN (x :: r) : Nat) : Int) := by
  have key : ∀ (r : List Nat) (x : Nat), (r.map fun (y : Nat) => (y : Int)).foldl (fun m y => if m < y then y else m) (x : Int) = ((max x (mxN r) : Nat) : Int) := by
    intro r
    induction r with
    | nil => intro x; simp [mxN]
    | cons y r ih =>
      intro x
      rw [List.map_cons, List.foldl_cons]
      have e : (if (x : Int) < (y : Int) then (y : Int) else (x : Int)) = ((max x y : Nat) : Int) := by split <;> omega
      rw [e, ih, mxN_cons]
      congr 1
      omega
  show some _ = _
  rw [key, mxN_cons]
theorem n_maxo {x : Nat} {r : List Nat} {h : AH} : b1D .max (.o (.lst (nL (x :: r)))) h = some (.v (.int (mxN (x :: r)))) := by
  show ((intsL (nL (x :: r))).bind maxI).map _ = _
  rw [← nL_iL, intsL_iL, Option.bind_some, maxI_nat]
  rfl
theorem sum_nat (xs : List Nat) : (xs.map fun (x : Nat) => (x : Int)).sum = ((xs.sum : Nat) : Int) := by
  induction xs with
  | nil => rfl
  | cons x r ih => rw [List.map_cons, List.sum_cons, ih, List.sum_cons]; omega
theorem n_suml {a : Nat} {xs : List Nat} {h : AH} (ha : h a = some (.lst (nL xs))) : b1D .sum (.v (.loc a)) h = some (.v (.int (xs.sum : Nat))) := by
  simp only [b1D, l_loc ha]
  rw [← nL_iL, intsL_iL, Option.map_some]
  simp only [sum_nat]
theorem n_sumo {xs : List Nat} {h : AH} : b1D .sum (.o (.lst (nL xs))) h = some (.v (.int (xs.sum : Nat))) := by
  show (intsL (nL xs)).map _ = _
  rw [← nL_iL, intsL_iL, Option.map_some]
  simp only [sum_nat]
/-! ### commands, jumps, blocks -/
inductive Cmd | hear (v : Nat) | shw (e : CE) | set (v : Nat) (e : CE) | pair (v : Nat) (a b : CE)
def Cmd.d : Cmd → D
  | .hear v => .tup [.str (nm .hear), .int v]
  | .shw e => .tup [.str (nm .show), e.d]
  | .set v e => .tup [.str (nm .set), .int v, e.d]
  | .pair v a b => .tup [.str (nm .pair), .int v, a.d, b.d]
def Cmd.rows : Cmd → List Row
  | .hear v => [(.hear, none), (.keep, some v)]
  | .shw e => e.rows ++ [(.show, none)]
  | .set v e => e.rows ++ [(.keep, some v)]
  | .pair v a b => a.rows ++ b.rows ++ [(.pair, none), (.keep, some v)]
def Cmd.pl : Cmd → Nat
  | .hear _ => 1
  | .shw e => e.pl
  | .set _ e => e.pl
  | .pair _ a b => max a.pl (1 + b.pl)
/-- right, and of at most so many levels -/
def EOk (half many k : Nat) (e : CE) : Prop := e.Ok half many ∧ e.dep ≤ k
def Cmd.Ok (half many k : Nat) : Cmd → Prop
  | .hear v => v < many
  | .shw e => EOk half many k e
  | .set v e => v < many ∧ EOk half many k e
  | .pair v a b => v < many ∧ EOk half many k a ∧ EOk half many k b
inductive Jmp | goto (b : Nat) | halt | test (e : CE) (b c : Nat)
def Jmp.d : Jmp → D
  | .goto b => .tup [.str (nm .goto), .int b]
  | .halt => .tup [.str (nm .halt)]
  | .test e b c => .tup [.str (nm .test), e.d, .int b, .int c]
def Jmp.rows (ad : Nat → Nat) : Jmp → List Row
  | .goto b => [(.jump, some (ad b))]
  | .halt => [(.halt, none)]
  | .test e b c => e.rows ++ [(.unless, some (ad c)), (.jump, some (ad b))]
def Jmp.len : Jmp → Nat
  | .goto _ => 1
  | .halt => 1
  | .test e _ _ => e.rows.length + 2
def Jmp.pl : Jmp → Nat
  | .test e _ _ => e.pl
  | _ => 1
def Jmp.Ok (half many k size : Nat) : Jmp → Prop
  | .goto b => b < size
  | .halt => True
  | .test e b c => EOk half many k e ∧ b < size ∧ c < size
theorem jrows_len (ad : Nat → Nat) : ∀ j : Jmp, (j.rows ad).length = j.len
  | .goto _ => rfl
  | .halt => rfl
  | .test e _ _ => by simp [Jmp.rows, Jmp.len]
abbrev Blk := List Cmd × Jmp
def bD (b : Blk) : D := .tup [.tup (b.1.map Cmd.d), b.2.d]
def lens (b : Blk) : List Nat := (b.1.map fun c => c.rows.length) ++ [b.2.len]
def bLen (b : Blk) : Nat := (lens b).sum
def bPl (b : Blk) : Nat := mxN ((b.1.map Cmd.pl) ++ [b.2.pl])
structure BOk (half many k size : Nat) (b : Blk) : Prop where
  c : ∀ c ∈ b.1, c.Ok half many k
  j : b.2.Ok half many k size
  n : b.1.length ≤ 100
structure Pgm where
  many : Nat
  bs : List Blk
def Pgm.d (p : Pgm) : D := .tup [.int p.many, .tup (p.bs.map bD)]
structure POk (half k : Nat) (p : Pgm) : Prop where
  b : ∀ b ∈ p.bs, BOk half p.many k p.bs.length b
  s : 0 < p.bs.length
  n : p.bs.length ≤ 100
  k : k ≤ 8
@[simp] theorem pgm0 {p : Pgm} {h : AH} : ixD (.v p.d) (.v (.int 0)) h = some (.int p.many) := by simp [Pgm.d]
@[simp] theorem pgm1 {p : Pgm} {h : AH} : ixD (.v p.d) (.v (.int 1)) h = some (.tup (p.bs.map bD)) := by simp [Pgm.d]
@[simp] theorem blk0 {b : Blk} {h : AH} : ixD (.v (bD b)) (.v (.int 0)) h = some (.tup (b.1.map Cmd.d)) := by simp [bD]
@[simp] theorem blk1 {b : Blk} {h : AH} : ixD (.v (bD b)) (.v (.int 1)) h = some b.2.d := by simp [bD]
@[simp] theorem blkS {b : Blk} {h : AH} : sqV (.v (bD b)) h = some [.tup (b.1.map Cmd.d), b.2.d] := rfl
def addr (bs : List Blk) (i : Nat) : Nat := ((bs.take i).map bLen).sum
def adrs (bs : List Blk) (i : Nat) : List Nat := (List.range (i + 1)).map (addr bs)
theorem adrs_len {bs : List Blk} {i : Nat} : (adrs bs i).length = i + 1 := by simp [adrs]
theorem addr_s {bs : List Blk} {i : Nat} {b : Blk} (h : bs[i]? = some b) : addr bs (i + 1) = addr bs i + bLen b := by
  unfold addr
  rw [take_snoc h, List.map_append, List.sum_append]
  simp
theorem adrs_s {bs : List Blk} {i : Nat} : adrs bs (i + 1) = adrs bs i ++ [addr bs (i + 1)] := by simp [adrs, List.range_succ]
theorem adrs_last {bs : List Blk} {i : Nat} : atI (nL (adrs bs i)) (-1) = some (.int (addr bs i)) := by
  have e : nL (adrs bs i) = nL ((List.range i).map (addr bs)) ++ [.int (addr bs i)] := by simp [adrs, List.range_succ, nL]
  rw [e, at_last]
theorem adrs_get {bs : List Blk} {n i : Nat} (h : i < n + 1) : gn (adrs bs n) i = addr bs i := by simp [gn, adrs, h]
theorem elen {half many k : Nat} {e : CE} (h : EOk half many k e) (hk : k ≤ 8) : e.rows.length ≤ 256 := by
  have h1 := rows_len e
  have h2 : 2 ^ e.dep ≤ 2 ^ 8 := Nat.pow_le_pow_right (by decide) (Nat.le_trans h.2 hk)
  omega
theorem clen {half many k : Nat} {c : Cmd} (h : c.Ok half many k) (hk : k ≤ 8) : c.rows.length ≤ 600 := by
  cases c with
  | hear v => simp [Cmd.rows]
  | shw e => have := elen h hk; simp [Cmd.rows]; omega
  | set v e => have := elen h.2 hk; simp [Cmd.rows]; omega
  | pair v a b => have := elen h.2.1 hk; have := elen h.2.2 hk; simp [Cmd.rows]; omega
def c_lengths_in_block : Fn := ⟨1, 3, (.cons (.ret (.bin .add (.comp (.nm 2) (.seq (.ix (.var 0) (.lit (.int 0)))) [1, 2] (.b1 .len (.call "core_command_rows" (.cons (.var 2) .nil)))) (.lst (.cons (.call "length_of_jump" (.cons (.ix (.var 0) (.lit (.int 1))) .nil)) .nil)))) .nil)⟩
def c_core_block_addresses : Fn := ⟨1, 3, (.cons (.asg (.nm 1) (.lst (.cons (.lit (.int 0)) .nil))) (.cons (.for_ (.nm 2) (.seq (.ix (.var 0) (.lit (.int 1)))) (.cons (.expr (.mt .append (.var 1) (.cons (.bin .add (.ix (.var 1) (.neg (.lit (.int 1)))) (.b1 .sum (.call "lengths_in_block" (.cons (.var 2) .nil)))) .nil))) .nil)) (.cons (.ret (.var 1)) .nil)))⟩
def c_core_address : Fn := ⟨3, 3, (.cons (.ret (.bin .add (.ix (.call "core_block_addresses" (.cons (.var 0) .nil)) (.var 1)) (.b1 .sum (.sl (.call "lengths_in_block" (.cons (.ix (.ix (.var 0) (.lit (.int 1))) (.var 1)) .nil)) .no (.so (.var 2)))))) .nil)⟩
def c_core_jump_rows : Fn := ⟨2, 2, (.cons (.ifs (.cmp .eq (.ix (.var 0) (.lit (.int 0))) (.lit (.str "goto"))) (.cons (.ret (.tup (.cons (.tup (.cons (.lit (.str "jump")) (.cons (.ix (.var 1) (.ix (.var 0) (.lit (.int 1)))) .nil))) .nil))) .nil) .nil) (.cons (.ifs (.cmp .eq (.ix (.var 0) (.lit (.int 0))) (.lit (.str "halt"))) (.cons (.ret (.tup (.cons (.tup (.cons (.lit (.str "halt")) .nil)) .nil))) .nil) .nil) (.cons (.ret (.bin .add (.call "core_expression_rows" (.cons (.ix (.var 0) (.lit (.int 1))) .nil)) (.tup (.cons (.tup (.cons (.lit (.str "unless")) (.cons (.ix (.var 1) (.ix (.var 0) (.lit (.int 3)))) .nil))) (.cons (.tup (.cons (.lit (.str "jump")) (.cons (.ix (.var 1) (.ix (.var 0) (.lit (.int 2)))) .nil))) .nil))))) .nil)))⟩
def c_places_for_block : Fn := ⟨1, 6, (.cons (.asg (.tp (.cons (.nm 1) (.cons (.nm 2) .nil))) (.var 0)) (.cons (.asg (.nm 3) (.comp (.nm 5) (.seq (.var 1)) [4, 5] (.call "places_for_command" (.cons (.var 5) .nil)))) (.cons (.ret (.b1 .max (.bin .add (.var 3) (.lst (.cons (.ite (.cmp .eq (.ix (.var 2) (.lit (.int 0))) (.lit (.str "test"))) (.call "places_for_expression" (.cons (.ix (.var 2) (.lit (.int 1))) .nil)) (.lit (.int 1))) .nil))))) .nil)))⟩
def c_core_rows : Fn := ⟨1, 6, (.cons (.asg (.nm 1) (.call "core_block_addresses" (.cons (.var 0) .nil))) (.cons (.asg (.nm 2) (.tup .nil)) (.cons (.for_ (.tp (.cons (.nm 3) (.cons (.nm 4) .nil))) (.seq (.ix (.var 0) (.lit (.int 1)))) (.cons (.for_ (.nm 5) (.seq (.var 3)) (.cons (.asg (.nm 2) (.bin .add (.var 2) (.call "core_command_rows" (.cons (.var 5) .nil)))) .nil)) (.cons (.asg (.nm 2) (.bin .add (.var 2) (.call "core_jump_rows" (.cons (.var 4) (.cons (.var 1) .nil))))) .nil))) (.cons (.ret (.var 2)) .nil))))⟩
def c_compiled_core : Fn := ⟨2, 8, (.cons (.asg (.tp (.cons (.nm 2) (.cons (.nm 3) (.cons (.nm 4) .nil)))) (.var 1)) (.cons (.asg (.nm 5) (.b1 .max (.comp (.nm 7) (.seq (.ix (.var 0) (.lit (.int 1)))) [6, 7] (.call "places_for_block" (.cons (.var 7) .nil))))) (.cons (.ret (.tup (.cons (.var 2) (.cons (.var 4) (.cons (.var 5) (.cons (.ix (.var 0) (.lit (.int 0))) (.cons (.var 3) (.cons (.call "core_rows" (.cons (.var 0) .nil)) .nil)))))))) .nil)))⟩
def c__law_jump_rows : Fn := ⟨2, 2, (.cons (.ifs (.cmp .eq (.ix (.var 0) (.lit (.int 0))) (.lit (.str "goto"))) (.cons (.ret (.lst (.cons (.tup (.cons (.lit (.str "jump")) (.cons (.ix (.var 1) (.ix (.var 0) (.lit (.int 1)))) .nil))) .nil))) .nil) .nil) (.cons (.ifs (.cmp .eq (.ix (.var 0) (.lit (.int 0))) (.lit (.str "halt"))) (.cons (.ret (.lst (.cons (.tup (.cons (.lit (.str "halt")) .nil)) .nil))) .nil) .nil) (.cons (.ret (.bin .add (.call "_law_rows" (.cons (.ix (.var 0) (.lit (.int 1))) .nil)) (.lst (.cons (.tup (.cons (.lit (.str "unless")) (.cons (.ix (.var 1) (.ix (.var 0) (.lit (.int 3)))) .nil))) (.cons (.tup (.cons (.lit (.str "jump")) (.cons (.ix (.var 1) (.ix (.var 0) (.lit (.int 2)))) .nil))) .nil))))) .nil)))⟩
def c__law_begins : Fn := ⟨1, 9, (.cons (.asg (.nm 1) (.b1 .len (.ix (.var 0) (.lit (.int 1))))) (.cons (.asg (.nm 2) (.lst .nil)) (.cons (.asg (.nm 3) (.lst .nil)) (.cons (.asg (.nm 4) (.lit (.int 0))) (.cons (.for_ (.tp (.cons (.nm 5) (.cons (.nm 6) .nil))) (.seq (.ix (.var 0) (.lit (.int 1)))) (.cons (.expr (.mt .append (.var 2) (.cons (.var 4) .nil))) (.cons (.asg (.nm 7) (.lst .nil)) (.cons (.for_ (.nm 8) (.seq (.var 5)) (.cons (.expr (.mt .append (.var 7) (.cons (.var 4) .nil))) (.cons (.asg (.nm 4) (.bin .add (.var 4) (.b1 .len (.call "_law_command_rows" (.cons (.var 8) .nil))))) .nil))) (.cons (.expr (.mt .append (.var 7) (.cons (.var 4) .nil))) (.cons (.expr (.mt .append (.var 3) (.cons (.b1 .tup (.var 7)) .nil))) (.cons (.asg (.nm 4) (.bin .add (.var 4) (.b1 .len (.call "_law_jump_rows" (.cons (.var 6) (.cons (.bin .mul (.lst (.cons (.lit (.int 0)) .nil)) (.var 1)) .nil)))))) .nil))))))) (.cons (.ret (.tup (.cons (.var 2) (.cons (.b1 .tup (.var 3)) .nil)))) .nil))))))⟩
def c__law_deepest : Fn := ⟨1, 4, (.cons (.asg (.nm 1) (.lit (.int 0))) (.cons (.asg (.nm 2) (.lit (.int 1))) (.cons (.for_ (.nm 3) (.seq (.var 0)) (.cons (.ifs (.cmp .inn (.ix (.var 3) (.lit (.int 0))) (.tup (.cons (.lit (.str "push")) (.cons (.lit (.str "load")) (.cons (.lit (.str "hear")) .nil))))) (.cons (.asg (.nm 1) (.bin .add (.var 1) (.lit (.int 1)))) .nil) .nil) (.cons (.ifs (.cmp .inn (.ix (.var 3) (.lit (.int 0))) (.tup (.cons (.lit (.str "plus")) (.cons (.lit (.str "minus")) (.cons (.lit (.str "less")) (.cons (.lit (.str "same")) (.cons (.lit (.str "pair")) (.cons (.lit (.str "keep")) (.cons (.lit (.str "show")) (.cons (.lit (.str "unless")) .nil)))))))))) (.cons (.asg (.nm 1) (.bin .sub (.var 1) (.lit (.int 1)))) .nil) .nil) (.cons (.asg (.nm 2) (.b2 .max (.var 2) (.var 1))) .nil)))) (.cons (.ret (.var 2)) .nil))))⟩
section
variable {P : Prog} {n : Nat} {h : AH} {Q : D → AH → Prop} {X : Xc} {half many k size : Nat}
theorem command_rows_i (hf : P.fn "core_command_rows" = some c_core_command_rows) (hf1 : P.fn "core_expression_rows" = some c_core_expression_rows) {c : Cmd} (ok : c.Ok half many k) (hk : k ≤ 8) (q : Q (.tup (rwL c.rows)) h) : wC P (n + k + 1) "core_command_rows" [c.d] h Q X := by
  refine wC_i hf rfl ?_
  cases c with
  | hear v =>
    simp [c_core_command_rows, List.replicate, Cmd.d, n10, n19]
    exact someQ_i (by simpa [Cmd.rows, rwL, rw1] using q)
  | shw e =>
    have l := elen ok hk
    simp [c_core_command_rows, List.replicate, Cmd.d, n10, n11, n19]
    refine expr_rows_i hf1 e ok.1 ok.2 (by omega) ?_
    have l2 : e.rows.length + 1 ≤ 16777216 := by omega
    simp [l2]
    exact someQ_i (by simpa [Cmd.rows, rwL, rw1] using q)
  | set v e =>
    have l := elen ok.2 hk
    simp [c_core_command_rows, List.replicate, Cmd.d, n10, n11, n13, n19]
    refine expr_rows_i hf1 e ok.2.1 ok.2.2 (by omega) ?_
    have l2 : e.rows.length + 1 ≤ 16777216 := by omega
    simp [l2]
    exact someQ_i (by simpa [Cmd.rows, rwL, rw1] using q)
  | pair v a b =>
    have l := elen ok.2.1 hk
    have l' := elen ok.2.2 hk
    simp [c_core_command_rows, List.replicate, Cmd.d, n10, n11, n12, n13, n19]
    refine expr_rows_i hf1 a ok.2.1.1 ok.2.1.2 (by omega) ?_
    try simp
    refine expr_rows_i hf1 b ok.2.2.1 ok.2.2.2 (by omega) ?_
    have l2 : a.rows.length + b.rows.length ≤ 16777216 := by omega
    have l3 : a.rows.length + b.rows.length + 1 + 1 ≤ 16777216 := by omega
    have l4 : a.rows.length + b.rows.length + 2 ≤ 16777216 := by omega
    simp [l2, l3, l4]
    exact someQ_i (by simpa [Cmd.rows, rwL, rw1] using q)
theorem law_command_rows_i (hf : P.fn "_law_command_rows" = some c__law_command_rows) (hf1 : P.fn "_law_rows" = some c__law_rows) {c : Cmd} (ok : c.Ok half many k) (hk : k ≤ 8) (q : ∀ a h', Sub h h' → h a = none → h' a = some (.lst (rwL c.rows)) → Q (.loc a) h') : wC P (n + k + 1) "_law_command_rows" [c.d] h Q X := by
  refine wC_i hf rfl ?_
  cases c with
  | hear v =>
    simp [c__law_command_rows, List.replicate, Cmd.d, n10, n19]
    exact fun a na => someQ_i (q a _ (sub_put na) na (by rw [put_self]; simp [Cmd.rows, rwL, rw1]))
  | shw e =>
    have l := elen ok hk
    simp [c__law_command_rows, List.replicate, Cmd.d, n10, n11, n19]
    refine law_rows_i hf1 e ok.1 ok.2 (by omega) fun a h1 s1 na ha => ?_
    have l2 : (rwL e.rows).length + [D.tup [D.str (nm .show)]].length ≤ 16777216 := by simp; omega
    rw [o_addlo ha l2]
    simp
    exact fun b nb => someQ_i (q b _ (s1.new nb) (s1.free nb) (by rw [put_self]; simp [Cmd.rows, rwL, rw1]))
  | set v e =>
    have l := elen ok.2 hk
    simp [c__law_command_rows, List.replicate, Cmd.d, n10, n11, n12, n13, n19]
    refine law_rows_i hf1 e ok.2.1 ok.2.2 (by omega) fun a h1 s1 na ha => ?_
    have l2 : (rwL e.rows).length + [D.tup [D.str (nm .keep), D.int v]].length ≤ 16777216 := by simp; omega
    try simp
    rw [o_addlo ha l2]
    simp
    exact fun b nb => someQ_i (q b _ (s1.new nb) (s1.free nb) (by rw [put_self]; simp [Cmd.rows, rwL, rw1]))
  | pair v a b =>
    have l := elen ok.2.1 hk
    have l' := elen ok.2.2 hk
    simp [c__law_command_rows, List.replicate, Cmd.d, n10, n11, n12, n13, n19]
    refine law_rows_i hf1 a ok.2.1.1 ok.2.1.2 (by omega) fun u h1 s1 nu hu => ?_
    try simp
    refine law_rows_i hf1 b ok.2.2.1 ok.2.2.2 (by omega) fun v' h2 s2 nv hv => ?_
    have l2 : (rwL a.rows).length + (rwL b.rows).length ≤ 16777216 := by simp; omega
    rw [o_addll (s2 u _ hu) hv l2]
    have l3 : a.rows.length + b.rows.length + 1 ≤ 16777216 := by omega
    simp [l3]
    intro w nw
    have l4 : (rwL a.rows ++ (rwL b.rows ++ [D.tup [D.str (nm .pair)]])).length + [D.tup [D.str (nm .keep), D.int v]].length ≤ 16777216 := by simp; omega
    rw [o_addlo put_self l4]
    simp
    have sb : Sub h (put h2 w (.lst (rwL a.rows ++ (rwL b.rows ++ [D.tup [D.str (nm .pair)]])))) := (s1.trans s2).new nw
    exact fun y ny => someQ_i (q y _ (sb.new ny) (sb.free ny) (by rw [put_self]; simp [Cmd.rows, rwL, rw1]))
theorem places_cmd_i (hf : P.fn "places_for_command" = some c_places_for_command) (hf1 : P.fn "places_for_expression" = some c_places_for_expression) {c : Cmd} (ok : c.Ok half many k) (q : Q (.int c.pl) h) : wC P (n + k + 1) "places_for_command" [c.d] h Q X := by
  refine wC_i hf rfl ?_
  cases c with
  | hear v =>
    simp [c_places_for_command, List.replicate, Cmd.d, n10]
    exact someQ_i q
  | shw e =>
    have e1 : atI [D.str (nm .show), e.d] (-1) = some e.d := at_last [D.str (nm .show)] e.d
    simp [c_places_for_command, List.replicate, Cmd.d, n10, n12, e1]
    exact places_i hf1 e ok.1 ok.2 (someQ_i q)
  | set v e =>
    have e1 : atI [D.str (nm .set), D.int v, e.d] (-1) = some e.d := at_last [D.str (nm .set), D.int v] e.d
    simp [c_places_for_command, List.replicate, Cmd.d, n10, n12, e1]
    exact places_i hf1 e ok.2.1 ok.2.2 (someQ_i q)
  | pair v a b =>
    simp [c_places_for_command, List.replicate, Cmd.d, n10, n12]
    refine places_i hf1 a ok.2.1.1 ok.2.1.2 ?_
    try simp
    refine places_i hf1 b ok.2.2.1 ok.2.2.2 ?_
    simp
    refine someQ_i ?_
    have e : (if (a.pl : Int) < 1 + (b.pl : Int) then 1 + (b.pl : Int) else (a.pl : Int)) = ((Cmd.pair v a b).pl : Int) := by
      show _ = ((max a.pl (1 + b.pl) : Nat) : Int)
      split <;> omega
    rw [e]
    exact q
theorem len_jump_i (hf : P.fn "length_of_jump" = some c_length_of_jump) (hf1 : P.fn "core_expression_rows" = some c_core_expression_rows) {j : Jmp} (ok : j.Ok half many k size) (hk : k ≤ 8) (q : Q (.int j.len) h) : wC P (n + k + 1) "length_of_jump" [j.d] h Q X := by
  refine wC_i hf rfl ?_
  cases j with
  | goto b =>
    simp [c_length_of_jump, List.replicate, Jmp.d, n16]
    exact someQ_i q
  | halt =>
    simp [c_length_of_jump, List.replicate, Jmp.d, n16]
    exact someQ_i q
  | test e b c =>
    have l := elen ok.1 hk
    simp [c_length_of_jump, List.replicate, Jmp.d, n16]
    refine expr_rows_i hf1 e ok.1.1 ok.1.2 (by omega) ?_
    simp
    exact someQ_i (by simpa [Jmp.len] using q)
theorem jump_rows_i (hf : P.fn "core_jump_rows" = some c_core_jump_rows) (hf1 : P.fn "core_expression_rows" = some c_core_expression_rows) {j : Jmp} (ok : j.Ok half many k size) (hk : k ≤ 8) {a : Nat} {ads : List Nat} (ha : h a = some (.lst (nL ads))) (hs : size ≤ ads.length) (q : Q (.tup (rwL (j.rows (gn ads)))) h) : wC P (n + k + 1) "core_jump_rows" [j.d, .loc a] h Q X := by
  refine wC_i hf rfl ?_
  cases j with
  | goto b =>
    simp only [Jmp.Ok] at ok
    simp [c_core_jump_rows, List.replicate, Jmp.d, n14, n20, ha, nL_at (xs := ads) (i := b) (by omega)]
    exact someQ_i (by simpa [Jmp.rows, rwL, rw1] using q)
  | halt =>
    simp [c_core_jump_rows, List.replicate, Jmp.d, n14, n15]
    exact someQ_i (by simpa [Jmp.rows, rwL, rw1] using q)
  | test e b c =>
    have l := elen ok.1 hk
    have ob := ok.2.1
    have oc := ok.2.2
    simp [c_core_jump_rows, List.replicate, Jmp.d, n14, n15, n20, n21]
    refine expr_rows_i hf1 e ok.1.1 ok.1.2 (by omega) ?_
    have l2 : e.rows.length + 2 ≤ 16777216 := by omega
    have l3 : e.rows.length + 1 + 1 ≤ 16777216 := by omega
    simp [ha, nL_at (xs := ads) (i := b) (by omega), nL_at (xs := ads) (i := c) (by omega), l2, l3]
    exact someQ_i (by simpa [Jmp.rows, rwL, rw1] using q)
theorem law_jump_rows_i (hf : P.fn "_law_jump_rows" = some c__law_jump_rows) (hf1 : P.fn "_law_rows" = some c__law_rows) {j : Jmp} (ok : j.Ok half many k size) (hk : k ≤ 8) {a : Nat} {ads : List Nat} (ha : h a = some (.lst (nL ads))) (hs : size ≤ ads.length)
    (q : ∀ b h', Sub h h' → h b = none → h' b = some (.lst (rwL (j.rows (gn ads)))) → Q (.loc b) h') : wC P (n + k + 1) "_law_jump_rows" [j.d, .loc a] h Q X := by
  refine wC_i hf rfl ?_
  cases j with
  | goto b =>
    simp only [Jmp.Ok] at ok
    simp [c__law_jump_rows, List.replicate, Jmp.d, n14, n20, ha, nL_at (xs := ads) (i := b) (by omega)]
    exact fun u nu => someQ_i (q u _ (sub_put nu) nu (by rw [put_self]; simp [Jmp.rows, rwL, rw1]))
  | halt =>
    simp [c__law_jump_rows, List.replicate, Jmp.d, n14, n15]
    exact fun u nu => someQ_i (q u _ (sub_put nu) nu (by rw [put_self]; simp [Jmp.rows, rwL, rw1]))
  | test e b c =>
    have l := elen ok.1 hk
    have ob := ok.2.1
    have oc := ok.2.2
    simp [c__law_jump_rows, List.replicate, Jmp.d, n14, n15, n20, n21]
    refine law_rows_i hf1 e ok.1.1 ok.1.2 (by omega) fun u h1 s1 nu hu => ?_
    have l2 : e.rows.length + 2 ≤ 16777216 := by omega
    have l3 : e.rows.length + 1 + 1 ≤ 16777216 := by omega
    simp [s1 a _ ha, nL_at (xs := ads) (i := b) (by omega), nL_at (xs := ads) (i := c) (by omega), hu, l2, l3]
    exact fun y ny => someQ_i (q y _ (s1.new ny) (s1.free ny) (by rw [put_self]; simp [Jmp.rows, rwL, rw1]))
end
end Cor
end Py
namespace Py
open PySem (Str)
/-- a comprehension over rows of our own -/
theorem comp_g {α : Type} {P : Prog} {n : Nat} {t : Tg} {own : List Nat} {e : Ex} {env : Env} {s : Src} {h : AH} {Q : List D → AH → Prop} (g r : α → D) (xs : List α) (hs0 : s.items = xs.map g) (hc : s.chk h) (hl : xs.length ≤ 16777216)
    (hs : ∀ a ∈ xs, ∀ k : D → AH → Prop, k (r a) h → wTg t (g a) (wipe env own) h fun e2 h3 => wX (wC P n) P.gl e e2 h3 (fun x h4 => rv x h4 k) noX) (hq : Q (xs.map r) h) : CompG (wC P n) P.gl t own e env s h Q := by
  refine comp_by (fun i acc h' => h = h' ∧ acc = (xs.take i).map r) ⟨rfl, by simp⟩ (fun i acc h' _ z => z.1 ▸ hc) ?_ ?_
  · rintro i x acc h' N hx ⟨rfl, rfl⟩ hN
    rw [hs0, List.getElem?_map, Option.map_eq_some_iff] at hx
    obtain ⟨a, ha, rfl⟩ := hx
    refine hs a (List.mem_of_getElem? ha) _ ⟨?_, hN _ _ ⟨rfl, ?_⟩⟩
    · have := (List.getElem?_eq_some_iff.mp ha).1
      rw [List.length_map, List.length_take]; omega
    · rw [take_snoc ha]; simp
  · rintro acc h' ⟨rfl, rfl⟩
    rw [hs0, List.length_map, List.take_length]
    exact hq
namespace Cor

/-! ### at any level that is enough -/
section
variable {P : Prog} {L : Nat} {h : AH} {Q : D → AH → Prop} {X : Xc} {half many k size : Nat}
theorem expr_rows_L (hL : k ≤ L) (hf : P.fn "core_expression_rows" = some c_core_expression_rows) {e : CE} (ok : EOk half many k e) (hk : k ≤ 8) (q : Q (.tup (rwL e.rows)) h) : wC P L "core_expression_rows" [e.d] h Q X := by
  have := expr_rows_i (P := P) (n := 0) (half := half) (many := many) hf e (k := L) (h := h) (Q := Q) (X := X) ok.1 (Nat.le_trans ok.2 hL) (by have := elen ok hk; omega) q
  rwa [Nat.zero_add] at this
theorem law_rows_L (hL : k ≤ L) (hf : P.fn "_law_rows" = some c__law_rows) {e : CE} (ok : EOk half many k e) (hk : k ≤ 8) (q : ∀ a h', Sub h h' → h a = none → h' a = some (.lst (rwL e.rows)) → Q (.loc a) h') : wC P L "_law_rows" [e.d] h Q X := by
  have := law_rows_i (P := P) (n := 0) (half := half) (many := many) hf e (k := L) (h := h) (Q := Q) (X := X) ok.1 (Nat.le_trans ok.2 hL) (by have := elen ok hk; omega) q
  rwa [Nat.zero_add] at this
theorem places_L (hL : k ≤ L) (hf : P.fn "places_for_expression" = some c_places_for_expression) {e : CE} (ok : EOk half many k e) (q : Q (.int e.pl) h) : wC P L "places_for_expression" [e.d] h Q X := by
  have := places_i (P := P) (n := 0) (half := half) (many := many) hf e (k := L) (h := h) (Q := Q) (X := X) ok.1 (Nat.le_trans ok.2 hL) q
  rwa [Nat.zero_add] at this
theorem command_rows_L (hL : k + 1 ≤ L) (hf : P.fn "core_command_rows" = some c_core_command_rows) (hf1 : P.fn "core_expression_rows" = some c_core_expression_rows) {c : Cmd} (ok : c.Ok half many k) (hk : k ≤ 8) (q : Q (.tup (rwL c.rows)) h) : wC P L "core_command_rows" [c.d] h Q X := by
  obtain ⟨n, rfl⟩ : ∃ n, L = n + k + 1 := ⟨L - k - 1, by omega⟩
  exact command_rows_i hf hf1 ok hk q
theorem law_command_rows_L (hL : k + 1 ≤ L) (hf : P.fn "_law_command_rows" = some c__law_command_rows) (hf1 : P.fn "_law_rows" = some c__law_rows) {c : Cmd} (ok : c.Ok half many k) (hk : k ≤ 8) (q : ∀ a h', Sub h h' → h a = none → h' a = some (.lst (rwL c.rows)) → Q (.loc a) h') : wC P L "_law_command_rows" [c.d] h Q X := by
  obtain ⟨n, rfl⟩ : ∃ n, L = n + k + 1 := ⟨L - k - 1, by omega⟩
  exact law_command_rows_i hf hf1 ok hk q
theorem places_cmd_L (hL : k + 1 ≤ L) (hf : P.fn "places_for_command" = some c_places_for_command) (hf1 : P.fn "places_for_expression" = some c_places_for_expression) {c : Cmd} (ok : c.Ok half many k) (q : Q (.int c.pl) h) : wC P L "places_for_command" [c.d] h Q X := by
  obtain ⟨n, rfl⟩ : ∃ n, L = n + k + 1 := ⟨L - k - 1, by omega⟩
  exact places_cmd_i hf hf1 ok q
theorem len_jump_L (hL : k + 1 ≤ L) (hf : P.fn "length_of_jump" = some c_length_of_jump) (hf1 : P.fn "core_expression_rows" = some c_core_expression_rows) {j : Jmp} (ok : j.Ok half many k size) (hk : k ≤ 8) (q : Q (.int j.len) h) : wC P L "length_of_jump" [j.d] h Q X := by
  obtain ⟨n, rfl⟩ : ∃ n, L = n + k + 1 := ⟨L - k - 1, by omega⟩
  exact len_jump_i hf hf1 ok hk q
theorem jump_rows_L (hL : k + 1 ≤ L) (hf : P.fn "core_jump_rows" = some c_core_jump_rows) (hf1 : P.fn "core_expression_rows" = some c_core_expression_rows) {j : Jmp} (ok : j.Ok half many k size) (hk : k ≤ 8) {a : Nat} {ads : List Nat} (ha : h a = some (.lst (nL ads))) (hs : size ≤ ads.length) (q : Q (.tup (rwL (j.rows (gn ads)))) h) : wC P L "core_jump_rows" [j.d, .loc a] h Q X := by
  obtain ⟨n, rfl⟩ : ∃ n, L = n + k + 1 := ⟨L - k - 1, by omega⟩
  exact jump_rows_i hf hf1 ok hk ha hs q
theorem law_jump_rows_L (hL : k + 1 ≤ L) (hf : P.fn "_law_jump_rows" = some c__law_jump_rows) (hf1 : P.fn "_law_rows" = some c__law_rows) {j : Jmp} (ok : j.Ok half many k size) (hk : k ≤ 8) {a : Nat} {ads : List Nat} (ha : h a = some (.lst (nL ads))) (hs : size ≤ ads.length)
    (q : ∀ b h', Sub h h' → h b = none → h' b = some (.lst (rwL (j.rows (gn ads)))) → Q (.loc b) h') : wC P L "_law_jump_rows" [j.d, .loc a] h Q X := by
  obtain ⟨n, rfl⟩ : ∃ n, L = n + k + 1 := ⟨L - k - 1, by omega⟩
  exact law_jump_rows_i hf hf1 ok hk ha hs q
end
/-- all rows -/
def bRows (ad : Nat → Nat) (b : Blk) : List Row := b.1.flatMap Cmd.rows ++ b.2.rows ad
def pRows (bs : List Blk) (ad : Nat → Nat) : List Row := bs.flatMap (bRows ad)
def Pgm.pl (p : Pgm) : Nat := mxN (p.bs.map bPl)
theorem blen_bound {half many k size : Nat} {b : Blk} (ok : BOk half many k size b) (hk : k ≤ 8) : bLen b ≤ 61000 ∧ (lens b).length = b.1.length + 1 := by
  constructor
  · unfold bLen lens
    rw [List.sum_append]
    have key : ∀ cs : List Cmd, (∀ c ∈ cs, c.Ok half many k) → (cs.map fun c => c.rows.length).sum ≤ cs.length * 600 := by
      intro cs
      induction cs with
      | nil => intro _; simp
      | cons c r ih =>
        intro h
        have h1 := clen (h c (by simp)) hk
        have h2 := ih fun x hx => h x (List.mem_cons_of_mem _ hx)
        simp only [List.map_cons,
            List.sum_cons, List.length_cons]
        omega
    have h1 := key b.1 ok.c
    have h2 := ok.n
    have h3 : b.2.len ≤ 300 := by
      have := ok.j
      cases e : b.2 with
      | goto _ => simp [Jmp.len]
      | halt => simp [Jmp.len]
      | test e' _ _ =>
        rw [e] at this
        have := elen this.1 hk
        simp [Jmp.len]
        omega
    simp
    omega
  · simp [lens]
theorem brows_len {ad : Nat → Nat} {b : Blk} : (bRows ad b).length = bLen b := by
  unfold bRows bLen lens
  rw [List.length_append, List.sum_append, jrows_len]
  simp [List.length_flatMap]
theorem prows_len {ad : Nat → Nat} : ∀ bs : List Blk, (pRows bs ad).length = (bs.map bLen).sum
  | [] => rfl
  | b :: r => by
    unfold pRows
    rw [List.flatMap_cons, List.length_append, brows_len, List.map_cons, List.sum_cons]
    congr 1
    exact prows_len r
theorem addr_all {bs : List Blk} : addr bs bs.length = (bs.map bLen).sum := by unfold addr; rw [List.take_length]
theorem addr_le {half k : Nat} {p : Pgm} (ok : POk half k p) (i : Nat) : addr p.bs i ≤ 6100000 := by
  have hk := ok.k
  have key : ∀ bs : List Blk, (∀ b ∈ bs, b ∈ p.bs) → (bs.map bLen).sum ≤ bs.length * 61000 := by
    intro bs
    induction bs with
    | nil => intro _; simp
    | cons b r ih =>
      intro h
      have h1 := (blen_bound (ok.b b (h b (by simp))) hk).1
      have h2 := ih fun x hx => h x (List.mem_cons_of_mem _ hx)
      simp only [List.map_cons,
          List.sum_cons, List.length_cons]
      omega
  have h1 := key (p.bs.take i) fun b hb => List.mem_of_mem_take hb
  have h2 := ok.n
  rw [List.length_take] at h1
  unfold addr
  omega
section
variable {P : Prog} {L : Nat} {h : AH} {Q : D → AH → Prop} {X : Xc} {half many k size : Nat}
structure CC (P : Prog) : Prop where
  er : P.fn "core_expression_rows" = some c_core_expression_rows
  pe : P.fn "places_for_expression" = some c_places_for_expression
  cr : P.fn "core_command_rows" = some c_core_command_rows
  pc : P.fn "places_for_command" = some c_places_for_command
  lj : P.fn "length_of_jump" = some c_length_of_jump
  lb : P.fn "lengths_in_block" = some c_lengths_in_block
  ba : P.fn "core_block_addresses" = some c_core_block_addresses
  jr : P.fn "core_jump_rows" = some c_core_jump_rows
  pb : P.fn "places_for_block" = some c_places_for_block
  rw : P.fn "core_rows" = some c_core_rows
  co : P.fn "compiled_core" = some c_compiled_core
structure CA (P : Prog) : Prop extends CC P where
  ca : P.fn "core_address" = some c_core_address
theorem lens_i (hL : k + 2 ≤ L) (C : CC P) {b : Blk} (ok : BOk half many k size b) (hk : k ≤ 8) (q : ∀ a, h a = none → Q (.loc a) (put h a (.lst (nL (lens b))))) : wC P L "lengths_in_block" [bD b] h Q X := by
  obtain ⟨m, rfl⟩ : ∃ m, L = m + 1 := ⟨L - 1, by omega⟩
  refine wC_i C.lb rfl ?_
  have hn := ok.n
  simp [c_lengths_in_block, List.replicate]
  refine comp_g Cmd.d (fun c => .int c.rows.length) b.1 (by simp) trivial (by omega) (fun c hc z hz => ?_) ?_
  · simp [wipe]
    refine command_rows_L (by omega) C.cr C.er (ok.c c hc) hk ?_
    simp
    exact hz
  · try simp
    refine len_jump_L (by omega) C.lj C.er ok.j hk ?_
    have l1 : b.1.length + 1 ≤ 16777216 := by omega
    simp [l1]
    intro a na
    refine someQ_i ?_
    have e : (b.1.map fun c => D.int c.rows.length) ++ [.int b.2.len] = nL (lens b) := by simp [lens, nL, Function.comp_def]
    rw [e]
    exact q a na
theorem addrs_i (hL : k + 3 ≤ L) (C : CC P) {p : Pgm} (ok : POk half k p) (q : ∀ a h', Sub h h' → h a = none → h' a = some (.lst (nL (adrs p.bs p.bs.length))) → Q (.loc a) h') : wC P L "core_block_addresses" [p.d] h Q X := by
  obtain ⟨m, rfl⟩ : ∃ m, L = m + 1 := ⟨L - 1, by omega⟩
  refine wC_i C.ba rfl ?_
  have hn := ok.n
  simp [c_core_block_addresses, List.replicate]
  intro a na
  refine for_f (fun i env h' => Sub h h' ∧ h' a = some (.lst (nL (adrs p.bs i))) ∧ ∃ o, env = [some p.d, some (.loc a), o]) ⟨sub_put na, by rw [put_self]; rfl, none, rfl⟩ ?_ ?_
  · rintro i x env h' N hx ⟨sb, ha, o, rfl⟩ hN
    rw [List.getElem?_map, Option.map_eq_some_iff] at hx
    obtain ⟨b, hb, rfl⟩ := hx
    have hi := (List.getElem?_eq_some_iff.mp hb).1
    have l1 : (nL (adrs p.bs i)).length < 16777216 := by rw [nL_len, adrs_len]; omega
    simp [ha, adrs_last]
    refine lens_i (by omega) C (ok.b b (List.mem_of_getElem? hb)) ok.k fun u nu => ?_
    have ua : u ≠ a := fun e => by rw [e, ha] at nu; cases nu
    simp [n_suml (put_self (h := h') (a := u))]
    rw [m_app (xs := nL (adrs p.bs i)) (by rw [put_ne ua.symm]; exact ha) l1]
    simp
    refine hN _ _ ⟨(sb.new nu).put na, ?_, _, rfl⟩
    rw [put_self, adrs_s, addr_s hb]
    have e : (lens b).sum = bLen b := rfl
    rw [e]
    simp [nL]
  · rintro env h' ⟨sb, ha, o, rfl⟩
    rw [List.length_map] at ha
    simp
    exact someQ_i (q a h' sb na ha)
theorem nL_cut {xs : List Nat} {j : Nat} (h : j ≤ xs.length) : cut (nL xs) none (some (j : Int)) = nL (xs.take j) := by
  rw [cut_take (by rw [nL_len]; exact h)]
  simp [nL]
theorem address_i (hL : k + 4 ≤ L) (C : CA P) {p : Pgm} (ok : POk half k p) {i j : Nat} {b : Blk} (hb : p.bs[i]? = some b) (hj : j ≤ b.1.length) (q : Q (.int ((addr p.bs i + ((lens b).take j).sum : Nat) : Int)) h) : wC P L "core_address" [p.d, .int i, .int j] h Q X := by
  obtain ⟨m, rfl⟩ : ∃ m, L = m + 1 := ⟨L - 1, by omega⟩
  refine wC_i C.ca rfl ?_
  have hi := (List.getElem?_eq_some_iff.mp hb).1
  have bo := ok.b b (List.mem_of_getElem? hb)
  simp [c_core_address, List.replicate]
  refine addrs_i (by omega) C.toCC ok fun a h1 s1 na ha => ?_
  have e1 : atI (p.bs.map bD) (i : Int) = some (bD b) := atN (by simp [hb])
  simp [ha, nL_at (xs := adrs p.bs p.bs.length) (i := i) (by rw [adrs_len]; omega), adrs_get (bs := p.bs) (n := p.bs.length) (i := i) (by omega), e1]
  refine lens_i (by omega) C.toCC bo ok.k fun u nu => ?_
  have ll := (blen_bound bo ok.k).2
  simp [nL_cut (xs := lens b) (j := j) (by omega), n_sumo]
  refine someQ_s (s1.new nu) ?_
  have e : (addr p.bs i : Int) + (((lens b).take j).sum : Int) = ((addr p.bs i + ((lens b).take j).sum : Nat) : Int) := by omega
  rw [e]
  exact q
theorem places_blk_i (hL : k + 2 ≤ L) (C : CC P) {b : Blk} (ok : BOk half many k size b) (q : Q (.int (bPl b)) h) : wC P L "places_for_block" [bD b] h Q X := by
  obtain ⟨m, rfl⟩ : ∃ m, L = m + 1 := ⟨L - 1, by omega⟩
  refine wC_i C.pb rfl ?_
  have hn := ok.n
  simp [-v_rB, c_places_for_block, List.replicate]
  rw [v_rB]
  simp [-v_rB]
  refine comp_g Cmd.d (fun c => .int c.pl) b.1 (by simp) trivial (by omega) (fun c hc z hz => ?_) ?_
  · simp [wipe]
    refine places_cmd_L (by omega) C.pc C.pe (ok.c c hc) ?_
    try simp
    exact hz
  try simp [-v_rB]
  intro a na
  rw [v_rB]
  have l1 : b.1.length + 1 ≤ 16777216 := by omega
  have key : ∀ pj : Nat, pj = b.2.pl → gd (b1D .max (.o (.lst ((b.1.map fun c => D.int c.pl) ++ [.int pj]))) (put h a (.lst (b.1.map fun c => D.int c.pl)))) (fun r => rv r (put h a (.lst (b.1.map fun c => D.int c.pl))) (someQ Q)) := fun pj e => by
    subst e
    have e2 : (b.1.map fun c => D.int c.pl) ++ [.int b.2.pl] = nL ((b.1.map Cmd.pl) ++ [b.2.pl]) := by simp [nL, Function.comp_def]
    rw [e2]
    cases e3 : (b.1.map Cmd.pl) ++ [b.2.pl] with
    | nil => simp at e3
    | cons x r =>
      rw [n_maxo, ← e3]
      simp
      exact someQ_s (sub_put na) q
  have hj := ok.j
  cases e : b.2 with
  | goto x =>
    simp [Jmp.d, n16, l1]
    exact key 1 (by rw [e]; rfl)
  | halt =>
    simp [Jmp.d, n16, l1]
    exact key 1 (by rw [e]; rfl)
  | test x y z =>
    rw [e] at hj
    simp [Jmp.d, n16]
    refine places_L (by omega) C.pe hj.1 ?_
    simp [l1]
    exact key x.pl (by rw [e]; rfl)
theorem rows_i (hL : k + 4 ≤ L) (C : CC P) {p : Pgm} (ok : POk half k p) (q : Q (.tup (rwL (pRows p.bs (addr p.bs)))) h) : wC P L "core_rows" [p.d] h Q X := by
  obtain ⟨m, rfl⟩ : ∃ m, L = m + 1 := ⟨L - 1, by omega⟩
  refine wC_i C.rw rfl ?_
  have hn := ok.n
  simp [-v_rB, c_core_rows, List.replicate]
  refine addrs_i (by omega) C ok fun a h1 s1 na ha => ?_
  rw [v_rB]
  simp [-v_rB]
  rw [v_rB]
  simp [-v_rB]
  have cap : ∀ i : Nat, (pRows (p.bs.take i) (gn (adrs p.bs p.bs.length))).length ≤ 6100000 := fun i => by
    rw [prows_len]
    exact addr_le ok i
  refine for_f (fun i env h' => h1 = h' ∧ ∃ o3 o4 o5, env = [some p.d, some (.loc a), some (.tup (rwL (pRows (p.bs.take i) (gn (adrs p.bs p.bs.length))))), o3, o4, o5]) ⟨rfl, none, none, none, rfl⟩ ?_ ?_
  · rintro i x env h' N hx ⟨rfl, o3, o4, o5, rfl⟩ hN
    rw [List.getElem?_map, Option.map_eq_some_iff] at hx
    obtain ⟨b, hb, rfl⟩ := hx
    have bo := ok.b b (List.mem_of_getElem? hb)
    have bl := (blen_bound bo ok.k).1
    have cp := cap i
    have eS : pRows (p.bs.take (i + 1)) (gn (adrs p.bs p.bs.length)) = pRows (p.bs.take i) (gn (adrs p.bs p.bs.length)) ++ (b.1.flatMap Cmd.rows ++ b.2.rows (gn (adrs p.bs p.bs.length))) := by
      rw [take_snoc hb]
      simp [pRows, bRows]
    generalize pRows (p.bs.take i) (gn (adrs p.bs p.bs.length)) = R at *
    have fl : (b.1.flatMap Cmd.rows).length + b.2.len = bLen b := by
      rw [← brows_len (ad := fun _ => 0)]
      simp [bRows, jrows_len]
    have fj : ∀ j, ((b.1.take j).flatMap Cmd.rows).length ≤ (b.1.flatMap Cmd.rows).length := fun j => by
      have : b.1.flatMap Cmd.rows = (b.1.take j).flatMap Cmd.rows ++ (b.1.drop j).flatMap Cmd.rows := by rw [← List.flatMap_append, List.take_append_drop]
      rw [this, List.length_append]
      omega
    simp [-v_rB]
    refine for_f (fun j env h' => h1 = h' ∧ ∃ o5, env = [some p.d, some (.loc a), some (.tup (rwL (R ++ (b.1.take j).flatMap Cmd.rows))), some (.tup (b.1.map Cmd.d)), some b.2.d, o5]) ⟨rfl, o5, by simp⟩ ?_ ?_
    · rintro j x env h' N2 hx ⟨rfl, o5, rfl⟩ hN2
      rw [List.getElem?_map, Option.map_eq_some_iff] at hx
      obtain ⟨c, hc, rfl⟩ := hx
      simp
      refine command_rows_L (by omega) C.cr C.er (bo.c c (List.mem_of_getElem? hc)) ok.k ?_
      have l0 := fj (j + 1)
      rw [take_snoc hc, List.flatMap_append, List.length_append] at l0
      have l1 : (rwL (R ++ (b.1.take j).flatMap Cmd.rows)).length + (rwL c.rows).length ≤ 16777216 := by
        have e1 : ([c].flatMap Cmd.rows).length = c.rows.length := by simp
        rw [e1] at l0
        rw [rwL_len, rwL_len, List.length_append]
        omega
      rw [o_addt l1]
      simp
      refine hN2 _ _ ⟨rfl, some c.d, ?_⟩
      rw [take_snoc hc, rwL_app]
      simp
    · rintro env h' ⟨rfl, o5, rfl⟩
      rw [List.length_map,
          List.take_length]
      simp
      refine jump_rows_L (ads := adrs p.bs p.bs.length) (by omega) C.jr C.er bo.j ok.k ha (by rw [adrs_len]; omega) ?_
      have l1 : (rwL (R ++ b.1.flatMap Cmd.rows)).length + (rwL (b.2.rows (gn (adrs p.bs p.bs.length)))).length ≤ 16777216 := by
        rw [rwL_len, rwL_len, List.length_append, jrows_len]
        omega
      rw [o_addt l1]
      simp
      refine hN _ _ ⟨rfl, some (.tup (b.1.map Cmd.d)), some b.2.d, o5, ?_⟩
      rw [eS, rwL_app]
      simp
  · rintro env h' ⟨rfl, o3, o4, o5, rfl⟩
    rw [List.length_map,
        List.take_length]
    simp
    refine someQ_s s1 ?_
    have e : pRows p.bs (gn (adrs p.bs p.bs.length)) = pRows p.bs (addr p.bs) := by
      have key : ∀ bs : List Blk, (∀ b ∈ bs, b ∈ p.bs) → pRows bs (gn (adrs p.bs p.bs.length)) = pRows bs (addr p.bs) := by
        intro bs
        induction bs with
        | nil => intro _; rfl
        | cons b r ih =>
          intro hm
          have bo := (ok.b b (hm b (by simp))).j
          unfold pRows at ih ⊢
          rw [List.flatMap_cons, List.flatMap_cons, ih fun x hx => hm x (List.mem_cons_of_mem _ hx)]
          congr 1
          unfold bRows
          congr 1
          cases ej : b.2 with
          | goto x =>
            rw [ej] at bo
            simp only [Jmp.Ok] at bo
            simp [Jmp.rows, adrs_get (bs := p.bs) (n := p.bs.length) (i := x) (by omega)]
          | halt => rfl
          | test x y z =>
            rw [ej] at bo
            have b1 := bo.2.1
            have b2 := bo.2.2
            simp [Jmp.rows, adrs_get (bs := p.bs) (n := p.bs.length) (i := y) (by omega), adrs_get (bs := p.bs) (n := p.bs.length) (i := z) (by omega)]
      exact key p.bs fun _ h => h
    rw [e]
    exact q
theorem compiled_i (hL : k + 5 ≤ L) (C : CC P) {p : Pgm} (ok : POk half k p) {w c l : Int} (q : Q (.tup [.int w, .int l, .int p.pl, .int p.many, .int c, .tup (rwL (pRows p.bs (addr p.bs)))]) h) : wC P L "compiled_core" [p.d, .tup [.int w, .int c, .int l]] h Q X := by
  obtain ⟨m, rfl⟩ : ∃ m, L = m + 1 := ⟨L - 1, by omega⟩
  refine wC_i C.co rfl ?_
  have hn := ok.n
  simp [-v_rB, c_compiled_core, List.replicate]
  rw [v_rB]
  simp [-v_rB]
  refine comp_g bD (fun b => .int (bPl b)) p.bs (by simp) trivial (by omega) (fun b hb z hz => ?_) ?_
  · simp [wipe]
    refine places_blk_i (by omega) C (ok.b b hb) ?_
    try simp
    exact hz
  have e2 : (p.bs.map fun b => D.int (bPl b)) = nL (p.bs.map bPl) := by simp [nL, Function.comp_def]
  rw [e2]
  cases e3 : p.bs.map bPl with
  | nil =>
    have h1 := ok.s
    have h2 := congrArg List.length e3
    rw [List.length_map, List.length_nil] at h2
    omega
  | cons x r =>
    rw [n_maxo, ← e3]
    try simp [-v_rB]
    rw [v_rB]
    try simp [-v_rB]
    refine rows_i (by omega) C ok ?_
    try simp
    exact someQ_i q
end
end Cor
end Py
namespace Py
namespace Las
/-! ### lassos, plainly -/
section
variable {α : Type} [Inhabited α] [DecidableEq α]
structure Lso (α : Type) where
  h : List α
  r : List α
  deriving DecidableEq
def gt (xs : List α) (i : Nat) : α := xs[i]?.getD default
theorem gt_get {xs : List α} {i : Nat} (h : i < xs.length) : gt xs i = xs[i] := by simp [gt, h]
/-- the row of a lasso -/
def row (l : Lso α) (i : Nat) : α := if i < l.h.length then gt l.h i else gt l.r ((i - l.h.length) % l.r.length)
def un (f : Nat → α) (n : Nat) : List α := (List.range n).map f
theorem un_len {f : Nat → α} {n : Nat} : (un f n).length = n := by simp [un]
theorem un_at {f : Nat → α} {n i : Nat} (h : i < n) : gt (un f n) i = f i := by simp [gt, un, h]
theorem un_eq {f g : Nat → α} {n : Nat} : un f n = un g n ↔ ∀ i, i < n → f i = g i := by
  constructor
  · intro h i hi
    have := congrArg (fun l => gt l i) h
    simpa [un_at hi] using this
  · intro h
    exact List.map_congr_left fun i hi => h i (List.mem_range.mp hi)
/-- such a period from a place on -/
def Per (f : Nat → α) (p a : Nat) : Prop := ∀ i, a ≤ i → f (i + p) = f i
theorem Per.mono {f : Nat → α} {p a b : Nat} (h : Per f p a) (hab : a ≤ b) : Per f p b := fun i hi => h i (by omega)
theorem Per.mul {f : Nat → α} {p a : Nat} (h : Per f p a) : ∀ k i, a ≤ i → f (i + p * k) = f i
  | 0, i, _ => rfl
  | k + 1, i, hi => by rw [Nat.mul_succ, ← Nat.add_assoc, h _ (by omega), h.mul k i hi]
theorem row_h {l : Lso α} {i : Nat} (h : i < l.h.length) : row l i = gt l.h i := by unfold row; rw [if_pos h]
theorem row_r {l : Lso α} (i : Nat) : row l (l.h.length + i) = gt l.r (i % l.r.length) := by
  unfold row
  rw [if_neg (by omega)]
  congr 2
  omega
theorem row_per {l : Lso α} : Per (row l) l.r.length l.h.length := fun i hi => by
  obtain ⟨k, rfl⟩ : ∃ k, i = l.h.length + k := ⟨i - l.h.length, by omega⟩
  rw [Nat.add_assoc, row_r, row_r, Nat.add_mod_right]
/-- a period anywhere is one from each place from which some period holds -/
theorem per_move {f : Nat → α} {p n a b : Nat} (hn : 0 < n) (h1 : Per f n a) (h2 : Per f p b) : Per f p a := fun i hi => by
  have e1 := h1.mul b i hi
  have e2 := h1.mul b (i + p) (by omega)
  have hb : b ≤ n * b := Nat.le_mul_of_pos_left b hn
  rw [← e2, show i + p + n * b = i + n * b + p by omega, h2 _ (by omega), e1]
/-- rows with periods are the same if they are so for long enough -/
theorem same_by {f g : Nat → α} {p q a n : Nat} (hp : Per f p a) (hq : Per g q a) (hn : a + p + q ≤ n) (p0 : 0 < p) (q0 : 0 < q) (h : ∀ i, i < n → f i = g i) : ∀ i, f i = g i := by
  intro i
  induction i using Nat.strongRecOn with
  | ind i ih =>
    by_cases hi : i < n
    · exact h i hi
    · have e1 : f i = f (i - p) := by rw [← hp (i - p) (by omega)]; congr 1; omega
      have e2 : g i = g (i - q) := by rw [← hq (i - q) (by omega)]; congr 1; omega
      have e3 : g (i - p) = g (i - p - q) := by rw [← hq (i - p - q) (by omega)]; congr 1; omega
      have e4 : f (i - q) = f (i - p - q) := by rw [← hp (i - p - q) (by omega)]; congr 1; omega
      rw [e1, ih (i - p) (by omega), e3, ← ih (i - p - q) (by omega), ← e4, ih (i - q) (by omega), ← e2]
/-- the least form -/
structure Lst (f : Nat → α) (l : Lso α) : Prop where
  r : 0 < l.r.length
  e : ∀ i, row l i = f i
  p : ∀ p, 0 < p → p < l.r.length → ¬ Per f p l.h.length
  a : l.h.length = 0 ∨ f (l.h.length - 1) ≠ f (l.h.length - 1 + l.r.length)
theorem Lst.per {f : Nat → α} {l : Lso α} (L : Lst f l) : Per f l.r.length l.h.length := fun i hi => by
  rw [← L.e, ← L.e, row_per i hi]
theorem lso_of {l : Lso α} : l = ⟨un (row l) l.h.length, (List.range l.r.length).map fun i => row l (l.h.length + i)⟩ := by
  obtain ⟨h, r⟩ := l
  congr 1
  · apply List.ext_getElem
    · simp [un]
    · intro i h1 h2
      simp only [un, List.getElem_map, List.getElem_range]
      rw [row_h (l := ⟨h, r⟩) h1, gt_get h1]
  · apply List.ext_getElem
    · simp
    · intro i h1 h2
      simp only [List.getElem_map, List.getElem_range]
      rw [row_r (l := ⟨h, r⟩), Nat.mod_eq_of_lt h1, gt_get h1]
theorem Lst.uniq {f : Nat → α} {l m : Lso α} (L : Lst f l) (M : Lst f m) : l = m := by
  have e1 : l.r.length = m.r.length := by
    have a1 := per_move L.r L.per M.per
    have a2 := per_move M.r M.per L.per
    rcases Nat.lt_trichotomy l.r.length m.r.length with h | h | h
    · exact absurd a2 (M.p _ L.r h)
    · exact h
    · exact absurd a1 (L.p _ M.r h)
  have e2 : l.h.length = m.h.length := by
    have key : ∀ {l m : Lso α}, Lst f l → Lst f m → l.r.length = m.r.length → ¬ l.h.length < m.h.length := fun {l m} L M e h => by
      rcases M.a with z | z
      · omega
      · refine z ?_
        rw [← e, L.per _ (by omega)]
    have := key L M e1
    have := key M L e1.symm
    omega
  have el := lso_of (l := l)
  have em := lso_of (l := m)
  rw [el, em, e1, e2]
  have : row l = row m := funext fun i => by rw [L.e, M.e]
  rw [this]
/-! ### the shortest ring -/
def rep (r : List α) : Nat → List α
  | 0 => []
  | k + 1 => rep r k ++ r
/-- such a part of a ring, gone round, is the ring -/
def isPer (r : List α) (m : Nat) : Bool := decide (r.length % m = 0) && decide (r = rep (r.take m) (r.length / m))
def shr (r : List α) : List α := match (List.range r.length).find? fun m => decide (0 < m) && isPer r m with
  | some m => r.take m
  | none => r
theorem rep_len (r : List α) : ∀ k, (rep r k).length = r.length * k
  | 0 => rfl
  | k + 1 => by rw [rep, List.length_append, rep_len r k, Nat.mul_succ]
theorem rep_at {r : List α} (r0 : 0 < r.length) : ∀ (k i : Nat), i < r.length * k → gt (rep r k) i = gt r (i % r.length)
  | 0, i, h => by simp at h
  | k + 1, i, h => by
    rw [rep]
    by_cases hi : i < r.length * k
    · have : gt (rep r k ++ r) i = gt (rep r k) i := by
        unfold gt
        rw [List.getElem?_append_left (by rw [rep_len]; exact hi)]
      rw [this, rep_at r0 k i hi]
    · have e : i - r.length * k < r.length := by rw [Nat.mul_succ] at h; omega
      have : gt (rep r k ++ r) i = gt r (i - r.length * k) := by
        unfold gt
        rw [List.getElem?_append_right (by rw [rep_len]; omega), rep_len]
      rw [this]
      congr 1
      have h1 : i = (i - r.length * k) + r.length * k := by omega
      conv => rhs; rw [h1]
      rw [Nat.add_mul_mod_self_left, Nat.mod_eq_of_lt e]
theorem gt_take {r : List α} {m i : Nat} (h : i < m) (h2 : i < r.length) : gt (r.take m) i = gt r i := by
  unfold gt
  rw [List.getElem?_take, if_pos h]
theorem gt_ext {xs ys : List α} (hl : xs.length = ys.length) (h : ∀ i, i < xs.length → gt xs i = gt ys i) : xs = ys := by
  apply List.ext_getElem hl
  intro i h1 h2
  have := h i h1
  rw [gt_get h1, gt_get h2] at this
  exact this
/-- what a dividing part says -/
theorem isPer_iff {r : List α} {m : Nat} (m0 : 0 < m) (hm : m ≤ r.length) : isPer r m = true ↔ r.length % m = 0 ∧ ∀ i, i < r.length → gt r i = gt r (i % m) := by
  have tl : (r.take m).length = m := by simp; omega
  unfold isPer
  rw [Bool.and_eq_true,
      decide_eq_true_eq, decide_eq_true_eq]
  constructor
  · rintro ⟨h1, h2⟩
    refine ⟨h1, fun i hi => ?_⟩
    have hd : m * (r.length / m) = r.length := Nat.mul_div_cancel' (Nat.dvd_of_mod_eq_zero h1)
    have h3 : gt r i = gt (rep (r.take m) (r.length / m)) i := congrArg (fun l => gt l i) h2
    rw [h3, rep_at (by omega) _ _ (by rw [tl, hd]; exact hi), tl, gt_take (Nat.mod_lt _ m0)]
    have := Nat.mod_le i m
    omega
  · rintro ⟨h1, h2⟩
    have hd : m * (r.length / m) = r.length := Nat.mul_div_cancel' (Nat.dvd_of_mod_eq_zero h1)
    refine ⟨h1, gt_ext (by rw [rep_len, tl, hd]) fun i hi => ?_⟩
    have h3 := Nat.mod_le i m
    rw [rep_at (by omega) _ _ (by rw [tl, hd]; exact hi), tl, gt_take (Nat.mod_lt _ m0) (by omega), h2 i hi]
/-- a ring's least part is its least period -/
theorem shr_ok {h r : List α} (r0 : 0 < r.length) : 0 < (shr r).length ∧ (∀ i, row ⟨h, shr r⟩ i = row ⟨h, r⟩ i) ∧ ∀ p, 0 < p → p < (shr r).length → ¬ Per (row ⟨h, r⟩) p h.length := by
  -- a period of the row, in the ring
  have per : ∀ {p}, 0 < p → Per (row ⟨h, r⟩) p h.length → ∀ k i, gt r ((i + p * k) % r.length) = gt r (i % r.length) := fun {p} p0 hp k i => by
    have := hp.mul k (h.length + i) (by omega)
    rw [Nat.add_assoc, row_r (l := ⟨h, r⟩), row_r (l := ⟨h, r⟩)] at this
    exact this
  -- the least one divides the ring's length
  have least : ∀ p, 0 < p → Per (row ⟨h, r⟩) p h.length → (∀ q, 0 < q → q < p → ¬ Per (row ⟨h, r⟩) q h.length) → r.length % p = 0 ∧ p ≤ r.length := fun p p0 hp hq => by
    have hn : Per (row ⟨h, r⟩) r.length h.length := row_per (l := ⟨h, r⟩)
    have pl : p ≤ r.length := by
      by_cases z : p ≤ r.length
      · exact z
      · exact absurd hn (hq _ r0 (by omega))
    refine ⟨?_, pl⟩
    by_cases z : r.length % p = 0
    · exact z
    · exfalso
      refine hq (r.length % p) (by omega) (Nat.mod_lt _ p0) fun i hi => ?_
      have h1 := hn i hi
      have h2 := hp.mul (r.length / p) (i + r.length % p) (by omega)
      rw [show i + r.length % p + p * (r.length / p) = i + r.length by have := Nat.mod_add_div r.length p; omega] at h2
      rw [← h2, h1]
  have toPer : ∀ {m}, 0 < m → m ≤ r.length → isPer r m = true → Per (row ⟨h, r⟩) m h.length := fun {m} m0 hm hi => by
    obtain ⟨h1, h2⟩ := (isPer_iff m0 hm).mp hi
    intro i hi
    obtain ⟨k, rfl⟩ : ∃ k, i = h.length + k := ⟨i - h.length, by omega⟩
    rw [Nat.add_assoc, row_r (l := ⟨h, r⟩), row_r (l := ⟨h, r⟩)]
    simp only
    rw [h2 _ (Nat.mod_lt _ r0), h2 (k % r.length) (Nat.mod_lt _ r0)]
    have hd : m ∣ r.length := Nat.dvd_of_mod_eq_zero h1
    rw [Nat.mod_mod_of_dvd _ hd, Nat.mod_mod_of_dvd _ hd, Nat.add_mod_right]
  have ofPer : ∀ {m}, 0 < m → m ≤ r.length → r.length % m = 0 → Per (row ⟨h, r⟩) m h.length → isPer r m = true := fun {m} m0 hm hd hp => by
    refine (isPer_iff m0 hm).mpr ⟨hd, fun i hi => ?_⟩
    have := per m0 hp (i / m) (i % m)
    rw [show i % m + m * (i / m) = i by have := Nat.mod_add_div i m; omega] at this
    have h3 := Nat.mod_le i m
    rw [Nat.mod_eq_of_lt hi, Nat.mod_eq_of_lt (by omega)] at this
    exact this
  unfold shr
  cases e : (List.range r.length).find? fun m => decide (0 < m) && isPer r m with
  | some m =>
    obtain ⟨h1, h2, h3⟩ := List.find?_range_eq_some.mp e
    rw [Bool.and_eq_true, decide_eq_true_eq] at h1
    rw [List.mem_range] at h2
    have tl : (r.take m).length = m := by simp; omega
    have hp := toPer h1.1 (by omega) h1.2
    simp only
    rw [tl]
    refine ⟨h1.1, fun i => ?_, fun p p0 pm hpp => ?_⟩
    · by_cases hi : i < h.length
      · rw [row_h (l := ⟨h, r.take m⟩) hi, row_h (l := ⟨h, r⟩) hi]
      · obtain ⟨k, rfl⟩ : ∃ k, i = h.length + k := ⟨i - h.length, by omega⟩
        have a := row_r (l := ⟨h, r.take m⟩) k
        have b := row_r (l := ⟨h, r⟩) k
        simp only at a b
        obtain ⟨c1, c2⟩ := (isPer_iff h1.1 (by omega)).mp h1.2
        have hm := Nat.mod_lt k h1.1
        rw [a, b, tl, gt_take hm (by omega), c2 _ (Nat.mod_lt _ r0), Nat.mod_mod_of_dvd _ (Nat.dvd_of_mod_eq_zero c1)]
    · -- the least period below p
      have key : ∀ q, 0 < q → q < m → ¬ Per (row ⟨h, r⟩) q h.length := by
        intro q
        induction q using Nat.strongRecOn with
        | ind q ih =>
          intro q0 qm hq
          obtain ⟨d1, d2⟩ := least q q0 hq fun q' a b c => ih q' b a (by omega) c
          have := h3 q qm
          rw [ofPer q0 d2 d1 hq] at this
          simp [q0] at this
      exact key p p0 pm hpp
  | none =>
    simp only
    refine ⟨r0, (by first | exact fun _ => trivial | trivial | exact fun i => rfl), ?_⟩
    intro q
    induction q using Nat.strongRecOn with
    | ind q ih =>
      intro q0 qm hq
      obtain ⟨d1, d2⟩ := least q q0 hq fun q' a b c => ih q' b a (by omega) c
      have := List.find?_eq_none.mp e q (List.mem_range.mpr qm)
      rw [ofPer q0 d2 d1 hq] at this
      simp [q0] at this
end
end Las
end Py
namespace Py
namespace Las
section
variable {α : Type} [Inhabited α] [DecidableEq α]
/-! ### the least form, by turns -/
/-- the head's end is taken into the ring as long as it is the ring's end -/
def turnB : Nat → Lso α → Lso α
  | 0, l => l
  | k + 1, l => if l.h ≠ [] ∧ gt l.h (l.h.length - 1) = gt l.r (l.r.length - 1) then turnB k ⟨l.h.take (l.h.length - 1), gt l.r (l.r.length - 1) :: l.r.take (l.r.length - 1)⟩ else l
def least (l : Lso α) : Lso α := turnB l.h.length ⟨l.h, shr l.r⟩
theorem turn_row {l : Lso α} (r0 : 0 < l.r.length) (h0 : l.h ≠ []) (e : gt l.h (l.h.length - 1) = gt l.r (l.r.length - 1)) (i : Nat) : row (⟨l.h.take (l.h.length - 1), gt l.r (l.r.length - 1) :: l.r.take (l.r.length - 1)⟩ : Lso α) i = row l i := by
  have hl : 0 < l.h.length := List.length_pos_iff.mpr h0
  have tl : (l.h.take (l.h.length - 1)).length = l.h.length - 1 := by simp
  have rl : (gt l.r (l.r.length - 1) :: l.r.take (l.r.length - 1)).length = l.r.length := by simp; omega
  have g0 : ∀ j, j < l.r.length → gt (gt l.r (l.r.length - 1) :: l.r.take (l.r.length - 1)) j = gt l.r ((j + (l.r.length - 1)) % l.r.length) := fun j hj => by
    cases j with
    | zero => rw [Nat.zero_add, Nat.mod_eq_of_lt (by omega)]; rfl
    | succ j =>
      have : gt (gt l.r (l.r.length - 1) :: l.r.take (l.r.length - 1)) (j + 1) = gt (l.r.take (l.r.length - 1)) j := rfl
      rw [this, gt_take (by omega) (by omega), show j + 1 + (l.r.length - 1) = j + l.r.length by omega, Nat.add_mod_right, Nat.mod_eq_of_lt (by omega)]
  by_cases h1 : i < l.h.length - 1
  · rw [row_h (by rw [tl]; exact h1), row_h (by omega)]
    exact gt_take h1 (by omega)
  · obtain ⟨k, rfl⟩ : ∃ k, i = (l.h.length - 1) + k := ⟨i - (l.h.length - 1), by omega⟩
    have a := row_r (l := (⟨l.h.take (l.h.length - 1), gt l.r (l.r.length - 1) :: l.r.take (l.r.length - 1)⟩ : Lso α)) k
    simp only [tl, rl] at a
    rw [a, g0 _ (Nat.mod_lt _ r0)]
    cases k with
    | zero =>
      rw [Nat.zero_mod, Nat.zero_add, Nat.mod_eq_of_lt (by omega), Nat.add_zero, row_h (by omega), e]
    | succ k =>
      rw [show l.h.length - 1 + (k + 1) = l.h.length + k by omega, row_r]
      congr 1
      rw [Nat.mod_add_mod, show k + 1 + (l.r.length - 1) = k + l.r.length by omega, Nat.add_mod_right]
theorem turnB_ok {f : Nat → α} : ∀ (k : Nat) (l : Lso α), l.h.length ≤ k → 0 < l.r.length → (∀ i, row l i = f i) → (∀ p, 0 < p → p < l.r.length → ¬ Per f p l.h.length) → Lst f (turnB k l)
  | 0, l, hk, r0, he, hp => ⟨r0, he, hp, .inl (by show l.h.length = 0; omega)⟩
  | k + 1, l, hk, r0, he, hp => by
    unfold turnB
    split
    · rename_i h
      have hl : 0 < l.h.length := List.length_pos_iff.mpr h.1
      have tl : (l.h.take (l.h.length - 1)).length = l.h.length - 1 := by simp
      have rl : (gt l.r (l.r.length - 1) :: l.r.take (l.r.length - 1)).length = l.r.length := by simp; omega
      refine turnB_ok k _ (by simp only [tl]; omega) (by simp only [rl]; exact r0) (fun i => by rw [turn_row r0 h.1 h.2, he]) fun p p0 pl hpp => ?_
      simp only [rl] at pl
      simp only [tl] at hpp
      exact hp p p0 pl (hpp.mono (by omega))
    · rename_i h
      refine ⟨r0, he, hp, ?_⟩
      by_cases z : l.h.length = 0
      · exact .inl z
      · right
        intro e
        refine h ⟨fun z2 => z (by rw [z2]; rfl), ?_⟩
        rw [← he, ← he, row_h (by omega), show l.h.length - 1 + l.r.length = l.h.length + (l.r.length - 1) by omega, row_r, Nat.mod_eq_of_lt (by omega)] at e
        exact e
theorem least_ok {l : Lso α} (r0 : 0 < l.r.length) : Lst (row l) (least l) := by
  obtain ⟨h1, h2, h3⟩ := shr_ok (h := l.h) r0
  exact turnB_ok l.h.length ⟨l.h, shr l.r⟩ (Nat.le_refl _) h1 h2 h3
theorem least_eq {l : Lso α} {m : Lso α} (r0 : 0 < l.r.length) (M : Lst (row l) m) : m = least l := M.uniq (least_ok r0)
theorem least_row {l : Lso α} (r0 : 0 < l.r.length) (i : Nat) : row (least l) i = row l i := (least_ok r0).e i
theorem least_same {l m : Lso α} (r0 : 0 < l.r.length) (m0 : 0 < m.r.length) : least l = least m ↔ ∀ i, row l i = row m i := by
  constructor
  · intro h i
    rw [← least_row r0, ← least_row m0, h]
  · intro h
    have e : row l = row m := funext h
    exact least_eq m0 (e ▸ least_ok r0)
theorem lst_len {f : Nat → α} {l : Lso α} {n a : Nat} (L : Lst f l) (n0 : 0 < n) (h : Per f n a) : l.r.length ≤ n ∧ l.h.length ≤ a := by
  have e1 : l.r.length ≤ n := by
    by_cases z : l.r.length ≤ n
    · exact z
    · exact absurd (per_move L.r L.per h) (L.p n n0 (by omega))
  refine ⟨e1, ?_⟩
  by_cases z : l.h.length ≤ a
  · exact z
  · exfalso
    rcases L.a with z2 | z2
    · omega
    · exact z2 (per_move n0 h L.per _ (by omega)).symm
theorem least_len {l : Lso α} (r0 : 0 < l.r.length) : (least l).r.length ≤ l.r.length ∧ (least l).h.length ≤ l.h.length := lst_len (least_ok r0) r0 row_per
/-! ### the law's least form -/
/-- a lasso cut out of a row -/
def cutL (f : Nat → α) (a p : Nat) : Lso α := ⟨un f a, (List.range p).map fun i => f (a + i)⟩
theorem cutL_row {f : Nat → α} {a p : Nat} (p0 : 0 < p) : (∀ i, row (cutL f a p) i = f i) ↔ Per f p a := by
  have hl : (cutL f a p).h.length = a := un_len
  have rl : (cutL f a p).r.length = p := by simp [cutL]
  constructor
  · intro h i hi
    have := row_per (l := cutL f a p) i (by rw [hl]; exact hi)
    rw [rl] at this
    rw [← h, ← h]
    exact this
  · intro hp i
    by_cases hi : i < a
    · rw [row_h (by rw [hl]; exact hi)]
      exact un_at hi
    · obtain ⟨k, rfl⟩ : ∃ k, i = a + k := ⟨i - a, by omega⟩
      have e := row_r (l := cutL f a p) k
      rw [hl, rl] at e
      have hk := Nat.mod_lt k p0
      rw [e]
      have : gt (cutL f a p).r (k % p) = f (a + k % p) := by simp [cutL, gt, hk]
      rw [this]
      have h2 := hp.mul (k / p) (a + k % p) (by omega)
      rw [← h2]
      congr 1
      have := Nat.mod_add_div k p
      omega
/-- such pairs in the order of the law: rings first, then heads -/
def tries (n m : Nat) : List (Nat × Nat) := (List.range n).flatMap fun p => (List.range (m + 1)).map fun a => (p + 1, a)
theorem cut_lst {f : Nat → α} {n m a p : Nat} (hf : Per f n m) (n0 : 0 < n) (p0 : 0 < p) (hp : Per f p a) (am : a ≤ m) (hr : ∀ q b, 0 < q → b ≤ m → Per f q b → p ≤ q) (ha : ∀ b, b < a → ¬ Per f p b) : Lst f (cutL f a p) := by
  have hl : (cutL f a p).h.length = a := un_len
  have rl : (cutL f a p).r.length = p := by simp [cutL]
  refine ⟨by rw [rl]; exact p0, (cutL_row p0).mpr hp, fun q q0 ql hq => ?_, ?_⟩
  · rw [rl] at ql
    rw [hl] at hq
    have := hr q a q0 am hq
    omega
  · rw [hl, rl]
    by_cases z : a = 0
    · exact .inl z
    · right
      intro e
      refine ha (a - 1) (by omega) fun i hi => ?_
      by_cases z2 : i = a - 1
      · rw [z2]; exact e.symm
      · exact hp i (by omega)
end
end Las
end Py
namespace Py
namespace Las
section
variable {α : Type} [Inhabited α] [DecidableEq α]
theorem test_iff {l : Lso α} {a p : Nat} (r0 : 0 < l.r.length) (p0 : 0 < p) (am : a ≤ l.h.length) (pn : p ≤ l.r.length) (b : l.h.length + 2 * l.r.length ≤ 60) : un (row (cutL (row l) a p)) 60 = un (row l) 60 ↔ Per (row l) p a := by
  rw [← cutL_row p0, un_eq]
  have hl : (cutL (row l) a p).h.length = a := un_len
  have rl : (cutL (row l) a p).r.length = p := by simp [cutL]
  constructor
  · intro h
    have h1 : Per (row (cutL (row l) a p)) p a := by
      have := row_per (l := cutL (row l) a p)
      rw [hl, rl] at this
      exact this
    exact same_by (h1.mono am) row_per (by omega) p0 r0 h
  · exact fun h i _ => h i
/-! ### rows without neighbours that are alike -/
def gain (x : α) : List α → List α
  | [] => []
  | y :: r => (if y = x then [] else [y]) ++ gain y r
def lastD (x : α) : List α → α
  | [] => x
  | y :: r => lastD y r
theorem lastD_app (x : α) (l m : List α) : lastD x (l ++ m) = lastD (lastD x l) m := by
  induction l generalizing x with
  | nil => rfl
  | cons y r ih => exact ih y
theorem gain_app (x : α) (l m : List α) : gain x (l ++ m) = gain x l ++ gain (lastD x l) m := by
  induction l generalizing x with
  | nil => rfl
  | cons y r ih => simp only [List.cons_append, gain, lastD]; rw [ih, List.append_assoc]
theorem lastD_gt (x : α) : ∀ {l : List α}, l ≠ [] → lastD x l = gt l (l.length - 1)
  | [], h => absurd rfl h
  | [y], _ => rfl
  | y :: z :: r, _ => by
    have := lastD_gt y (l := z :: r) (by simp)
    simp only [lastD] at this ⊢
    rw [this]
    rfl
theorem lastD_ne {x y : α} : ∀ {l : List α}, l ≠ [] → lastD x l = lastD y l
  | [], h => absurd rfl h
  | _ :: _, _ => rfl
def thin : List α → List α
  | [] => []
  | x :: r => x :: gain x r
theorem thin_app {l m : List α} (h : l ≠ []) (x : α) : thin (l ++ m) = thin l ++ gain (lastD x l) m := by
  cases l with
  | nil => exact absurd rfl h
  | cons y r =>
    simp only [List.cons_append, thin, lastD]
    rw [gain_app]
/-- by places -/
theorem gain_pl (x : α) (l : List α) : gain x l = ((List.range l.length).filter fun k => !decide (gt l k = if k = 0 then x else gt l (k - 1))).map (gt l) := by
  have key : ∀ n, ∀ l : List α, l.length = n → gain x l = ((List.range l.length).filter fun k => !decide (gt l k = if k = 0 then x else gt l (k - 1))).map (gt l) := by
    intro n
    induction n with
    | zero => intro l hl; rw [List.eq_nil_of_length_eq_zero hl]; rfl
    | succ n ih =>
      intro l hl
      rcases List.eq_nil_or_concat l with rfl | ⟨l', y, e⟩
      · simp at hl
      · rw [List.concat_eq_append] at e
        subst e
        have hl' : l'.length = n := by simpa using hl
        rw [gain_app, ih l' hl']
        have gl : ∀ k, k < l'.length → gt (l' ++ [y]) k = gt l' k := fun k hk => by simp [gt, List.getElem?_append_left hk]
        have gy : gt (l' ++ [y]) l'.length = y := by simp [gt]
        rw [show (l' ++ [y]).length = l'.length + 1 by simp, List.range_succ, List.filter_append, List.map_append]
        congr 1
        · have e1 : (List.range l'.length).filter (fun k => !decide (gt (l' ++ [y]) k = if k = 0 then x else gt (l' ++ [y]) (k - 1))) = (List.range l'.length).filter (fun k => !decide (gt l' k = if k = 0 then x else gt l' (k - 1))) := by
            apply List.filter_congr
            intro k hk
            rw [List.mem_range] at hk
            rw [gl k hk]
            by_cases z : k = 0
            · simp [z]
            · simp only [z, if_false]
              rw [gl (k - 1) (by omega)]
          rw [e1]
          apply List.map_congr_left
          intro k hk
          rw [List.mem_filter, List.mem_range] at hk
          exact (gl k hk.1).symm
        · have e2 : lastD x l' = if l'.length = 0 then x else gt (l' ++ [y]) (l'.length - 1) := by
            by_cases z : l'.length = 0
            · rw [if_pos z, List.eq_nil_of_length_eq_zero z]; rfl
            · rw [if_neg z, gl _ (by omega)]
              exact lastD_gt x fun z2 => z (by rw [z2]; rfl)
          simp only [gain, List.append_nil, List.filter_cons, List.filter_nil, gy]
          rw [e2]
          generalize (if l'.length = 0 then x else gt (l' ++ [y]) (l'.length - 1)) = w
          by_cases z : y = w
          · simp [z]
          · simp [z, gy]
  exact key l.length l rfl
theorem thin_pl (l : List α) : thin l = ((List.range l.length).filter fun k => decide (k = 0) || !decide (gt l k = gt l (k - 1))).map (gt l) := by
  cases l with
  | nil => rfl
  | cons x r =>
    simp only [thin]
    rw [gain_pl, List.length_cons, List.range_succ_eq_map, List.filter_cons]
    simp only [decide_true, Bool.true_or, if_true, List.map_cons]
    congr 1
    rw [List.filter_map, List.map_map]
    have e : (List.range r.length).filter (fun k => !decide (gt r k = if k = 0 then x else gt r (k - 1))) = (List.range r.length).filter ((fun k => decide (k = 0) || !decide (gt (x :: r) k = gt (x :: r) (k - 1))) ∘ Nat.succ) := by
      apply List.filter_congr
      intro k hk
      have h1 : gt (x :: r) (k + 1) = gt r k := by simp [gt]
      have h2 : gt (x :: r) k = if k = 0 then x else gt r (k - 1) := by
        cases k with
        | zero => rfl
        | succ k => simp [gt]
      simp only [Function.comp, Nat.succ_ne_zero, decide_false, Bool.false_or, Nat.succ_eq_add_one, Nat.add_sub_cancel, h1, h2]
    rw [e]
    apply List.map_congr_left
    intro k hk
    simp [gt]
/-- the thinned lasso, not least yet -/
def thinL (l : Lso α) : Lso α := ⟨thin (l.h ++ l.r), if gain (lastD default l.r) l.r = [] then l.r.take 1 else gain (lastD default l.r) l.r⟩
theorem un_rep {l : Lso α} (r0 : 0 < l.r.length) (k : Nat) : un (row l) (l.h.length + l.r.length * k) = l.h ++ rep l.r k := by
  apply gt_ext
  · rw [un_len, List.length_append, rep_len]
  · intro i hi
    rw [un_len] at hi
    rw [un_at hi]
    by_cases h : i < l.h.length
    · rw [row_h h]
      simp [gt, List.getElem?_append_left h]
    · obtain ⟨j, rfl⟩ : ∃ j, i = l.h.length + j := ⟨i - l.h.length, by omega⟩
      rw [row_r, ← rep_at r0 k j (by omega)]
      unfold gt
      rw [List.getElem?_append_right (by omega), Nat.add_sub_cancel_left]
theorem rep_succ' (r : List α) : ∀ k, rep r (k + 1) = r ++ rep r k
  | 0 => by simp [rep]
  | k + 1 => by
    show rep r (k + 1) ++ r = r ++ (rep r k ++ r)
    rw [rep_succ' r k, List.append_assoc]
theorem thin_rep {h r : List α} (r0 : r ≠ []) : ∀ k, thin (h ++ rep r (k + 1)) = thin (h ++ r) ++ rep (gain (lastD default r) r) k
  | 0 => by simp [rep]
  | k + 1 => by
    have hn : h ++ rep r (k + 1) ≠ [] := by
      rw [rep]
      intro e
      simp at e
      exact r0 e.2.2
    have e1 : h ++ rep r (k + 1 + 1) = (h ++ rep r (k + 1)) ++ r := by rw [rep]; simp
    have e2 : lastD default (h ++ rep r (k + 1)) = lastD default r := by
      rw [rep, ← List.append_assoc, lastD_app]
      exact lastD_ne r0
    rw [e1, thin_app hn default, thin_rep r0 k, e2, List.append_assoc, rep]
theorem take_un {f : Nat → α} {n m : Nat} (h : n ≤ m) : (un f m).take n = un f n := by
  unfold un
  rw [← List.map_take, List.take_range, Nat.min_eq_left h]
theorem thinL_un {l : Lso α} (r0 : 0 < l.r.length) (k : Nat) : thin (l.h ++ l.r) ++ rep (gain (lastD default l.r) l.r) k = un (row (thinL l)) ((thin (l.h ++ l.r)).length + (gain (lastD default l.r) l.r).length * k) := by
  by_cases z : gain (lastD default l.r) l.r = []
  · have e1 : rep ([] : List α) k = [] := by
      induction k with
      | zero => rfl
      | succ k ih => rw [rep, ih]; rfl
    rw [z, e1]
    have e2 : (thinL l).h = thin (l.h ++ l.r) := rfl
    apply gt_ext
    · rw [un_len]; simp
    · intro i hi
      simp only [List.append_nil] at hi ⊢
      rw [un_at (by simpa using hi), row_h (by rw [e2]; exact hi), e2]
  · have e2 : (thinL l).h = thin (l.h ++ l.r) := rfl
    have e3 : (thinL l).r = gain (lastD default l.r) l.r := by unfold thinL; rw [if_neg z]
    have := un_rep (l := thinL l) (by rw [e3]; exact List.length_pos_iff.mpr z) k
    rw [e2, e3] at this
    exact this.symm
/-- what is thinned of the row's begin begins the thinned lasso's row -/
theorem thin_un {l : Lso α} (r0 : 0 < l.r.length) (n : Nat) : thin (un (row l) n) = un (row (thinL l)) (thin (un (row l) n)).length := by
  cases n with
  | zero => rfl
  | succ n =>
    have rn : l.r ≠ [] := List.length_pos_iff.mp r0
    have e1 := un_rep r0 (l := l) (n + 1 + 1)
    have hle : n + 1 ≤ l.h.length + l.r.length * (n + 1 + 1) := by
      have : 1 * (n + 1 + 1) ≤ l.r.length * (n + 1 + 1) := Nat.mul_le_mul_right _ r0
      omega
    have e2 : un (row l) (n + 1) = (un (row l) (l.h.length + l.r.length * (n + 1 + 1))).take (n + 1) := (take_un hle).symm
    have e3 := thin_rep (h := l.h) rn (n + 1)
    rw [thinL_un r0, ← e1] at e3
    have ne : un (row l) (n + 1) ≠ [] := fun e => by
      have := congrArg List.length e
      rw [un_len] at this
      simp at this
    have e4 := List.take_append_drop (n + 1) (un (row l) (l.h.length + l.r.length * (n + 1 + 1)))
    rw [take_un hle] at e4
    rw [← e4, thin_app ne default] at e3
    have hl : (thin (un (row l) (n + 1))).length ≤ (thin (l.h ++ l.r)).length + (gain (lastD default l.r) l.r).length * (n + 1) := by
      have := congrArg List.length e3
      rw [List.length_append, un_len] at this
      omega
    have := congrArg (fun x => x.take (thin (un (row l) (n + 1))).length) e3
    simp only [List.take_left'] at this
    rw [take_un hl] at this
    exact this
end
end Las
end Py
namespace Py
namespace Las
section
variable {α : Type} [Inhabited α] [DecidableEq α]
/-- no neighbours that are alike -/
def Nd (l : List α) : Prop := ∀ k, k + 1 < l.length → gt l (k + 1) ≠ gt l k
theorem nd_gain : ∀ (r : List α) (x : α), Nd (x :: gain x r)
  | [], x => fun k hk => by simp [gain] at hk
  | y :: r, x => by
    have ih := nd_gain r y
    by_cases z : y = x
    · subst z
      simp only [gain, if_true, List.nil_append]
      exact ih
    · simp only [gain, z, if_false, List.singleton_append]
      intro k hk
      cases k with
      | zero => simpa [gt] using z
      | succ k =>
        have := ih k (by simpa using hk)
        simpa [gt] using this
theorem nd_thin (l : List α) : Nd (thin l) := by
  cases l with
  | nil => intro k hk; simp [thin] at hk
  | cons x r => exact nd_gain r x
theorem lastD_gain (x : α) : ∀ r : List α, lastD x (gain x r) = lastD x r
  | [] => rfl
  | y :: r => by
    by_cases z : y = x
    · subst z
      simp only [gain, if_true, List.nil_append, lastD]
      exact lastD_gain y r
    · simp only [gain, z, if_false, List.singleton_append, lastD]
      exact lastD_gain y r
theorem lastD_thin (x : α) {l : List α} (h : l ≠ []) : lastD x (thin l) = lastD x l := by
  cases l with
  | nil => exact absurd rfl h
  | cons y r => exact lastD_gain y r
theorem thin_ne {l : List α} (h : l ≠ []) : thin l ≠ [] := by
  cases l with
  | nil => exact absurd rfl h
  | cons y r => simp [thin]
theorem thin_pos {l : List α} (h : l ≠ []) : 0 < (thin l).length := List.length_pos_iff.mpr (thin_ne h)
theorem gain_none {x : α} : ∀ {r : List α}, gain x r = [] → ∀ y ∈ r, y = x
  | [], _, y, hy => by cases hy
  | z :: r, h, y, hy => by
    simp only [gain] at h
    obtain ⟨h1, h2⟩ := List.append_eq_nil_iff.mp h
    have zx : z = x := by
      by_cases e : z = x
      · exact e
      · rw [if_neg e] at h1; cases h1
    subst zx
    rcases List.mem_cons.mp hy
        with rfl | hy
    · rfl
    · exact gain_none h2 y hy
theorem un_ne {f : Nat → α} {n : Nat} : un f (n + 1) ≠ [] := fun e => by
  have := congrArg List.length e
  rw [un_len] at this
  simp at this
theorem un_succ {f : Nat → α} {n : Nat} : un f (n + 1) = un f n ++ [f n] := by simp [un, List.range_succ]
theorem lastD_un {f : Nat → α} {n : Nat} (x : α) : lastD x (un f (n + 1)) = f n := by
  rw [un_succ, lastD_app]
  rfl
/-- again: what the ring gains, gone round -/
def agn (l : Lso α) : List α := gain (lastD default l.r) l.r
def tnN (l : Lso α) : Nat := (thin (l.h ++ l.r)).length
section
variable {l : Lso α} (r0 : 0 < l.r.length)
include r0
theorem tn_pos : 0 < tnN l := thin_pos fun e => by
  have h := (List.append_eq_nil_iff.mp e).2
  rw [h] at r0
  exact absurd r0 (by simp)
theorem thin_len (k : Nat) : (thin (un (row l) (l.h.length + l.r.length * (k + 1)))).length = tnN l + (agn l).length * k := by
  rw [un_rep r0, thin_rep (List.length_pos_iff.mp r0), List.length_append, rep_len]
  rfl
theorem thin_mono {f : Nat → α} {n m : Nat} (h : n ≤ m) : (thin (un f n)).length ≤ (thin (un f m)).length := by
  cases n with
  | zero => exact Nat.zero_le _
  | succ n =>
    have e := List.take_append_drop (n + 1) (un f m)
    rw [take_un h] at e
    rw [← e, thin_app un_ne default, List.length_append]
    omega
theorem row_T {n j : Nat} (h : j < (thin (un (row l) n)).length) : row (thinL l) j = gt (thin (un (row l) n)) j := by
  have := congrArg (fun x => gt x j) (thin_un r0 n)
  simp only [un_at h] at this
  exact this.symm
theorem grow (h : agn l ≠ []) (m : Nat) : ∃ n, m < (thin (un (row l) n)).length := by
  refine ⟨l.h.length + l.r.length * (m + 1), ?_⟩
  rw [thin_len r0]
  have := tn_pos r0
  have h1 : 1 * m ≤ (agn l).length * m := Nat.mul_le_mul_right _ (List.length_pos_iff.mpr h)
  omega
theorem nd_T (h : agn l ≠ []) (j : Nat) : row (thinL l) (j + 1) ≠ row (thinL l) j := by
  obtain ⟨n, hn⟩ := grow r0 h (j + 1)
  rw [row_T r0 hn, row_T r0 (n := n) (j := j) (by omega)]
  exact nd_thin _ j hn
/-- the ring has but one item -/
theorem cst (h : agn l = []) (i : Nat) (hi : l.h.length ≤ i) : row l i = lastD default l.r := by
  obtain ⟨k, rfl⟩ : ∃ k, i = l.h.length + k := ⟨i - l.h.length, by omega⟩
  have hk := Nat.mod_lt k r0
  rw [row_r, gt_get hk]
  exact gain_none h _ (List.getElem_mem hk)
theorem cst_len (h : agn l = []) {n : Nat} (hn : l.h.length + l.r.length ≤ n) : (thin (un (row l) n)).length = tnN l := by
  have h1 := thin_len r0 0
  have h2 := thin_len r0 n
  rw [h] at h1 h2
  simp only [List.length_nil, Nat.zero_mul, Nat.add_zero, Nat.zero_add, Nat.mul_one] at h1 h2
  have hle : n ≤ l.h.length + l.r.length * (n + 1) := by
    have : 1 * (n + 1) ≤ l.r.length * (n + 1) := Nat.mul_le_mul_right _ r0
    omega
  have h3 := thin_mono r0 (f := row l) hn
  have h4 := thin_mono r0 (f := row l) hle
  omega
theorem cst_T (h : agn l = []) (j : Nat) (hj : tnN l ≤ j + 1) : row (thinL l) j = lastD default l.r := by
  have e1 : (thinL l).h = thin (l.h ++ l.r) := rfl
  have e2 : (thinL l).r = l.r.take 1 := if_pos h
  have rn : l.r ≠ [] := List.length_pos_iff.mp r0
  by_cases z : j < tnN l
  · have ej : j = tnN l - 1 := by omega
    rw [row_h (by rw [e1]; exact z), e1]
    have hn : l.h ++ l.r ≠ [] := fun e => rn (List.append_eq_nil_iff.mp e).2
    have := lastD_thin (default : α) hn
    rw [lastD_gt _ (thin_ne hn), lastD_app, lastD_ne (y := default) rn] at this
    rw [← this, ej]
    rfl
  · obtain ⟨k, rfl⟩ : ∃ k, j = (thinL l).h.length + k := ⟨j - tnN l, by rw [e1]; show j = tnN l + _; omega⟩
    rw [row_r, e2]
    have hl : (l.r.take 1).length = 1 := by simp; omega
    rw [hl, Nat.mod_one, gt_take (by decide) r0, gt_get r0]
    exact gain_none h _ (List.getElem_mem r0)
theorem nd_C (j : Nat) (hj : j + 1 < tnN l) : row (thinL l) (j + 1) ≠ row (thinL l) j := by
  have e1 : (thinL l).h = thin (l.h ++ l.r) := rfl
  rw [row_h (by rw [e1]; exact hj), row_h (by rw [e1]; show j < tnN l; omega), e1]
  exact nd_thin _ j hj
end
theorem agn_same {l m : Lso α} (r0 : 0 < l.r.length) (m0 : 0 < m.r.length) (h : ∀ i, row l i = row m i) (e : agn l = []) : agn m = [] := by
  by_cases z : agn m = []
  · exact z
  · exfalso
    have er : row l = row m := funext h
    obtain ⟨n, hn⟩ := grow m0 z (tnN l)
    rw [← er] at hn
    have h1 := thin_mono r0 (f := row l) (show n ≤ n + (l.h.length + l.r.length) by omega)
    rw [cst_len r0 e (n := n + (l.h.length + l.r.length)) (by omega)] at h1
    omega
/-- the thinned row hangs on the row alone -/
theorem thin_same {l m : Lso α} (r0 : 0 < l.r.length) (m0 : 0 < m.r.length) (h : ∀ i, row l i = row m i) (j : Nat) : row (thinL l) j = row (thinL m) j := by
  have er : row l = row m := funext h
  by_cases z : agn l = []
  · have z2 := agn_same r0 m0 h z
    let n := l.h.length + l.r.length + (m.h.length + m.r.length)
    have a1 := cst_len r0 z (n := n) (by omega)
    have a2 := cst_len m0 z2 (n := n) (by omega)
    rw [er] at a1
    by_cases hj : j < tnN l
    · have b1 := row_T r0 (l := l) (n := n) (j := j) (by rw [er]; omega)
      have b2 := row_T m0 (l := m) (n := n) (j := j) (by omega)
      rw [b1, b2, er]
    · rw [cst_T r0 z j (by omega), cst_T m0 z2 j (by omega)]
      have c1 := cst r0 z n (by omega)
      have c2 := cst m0 z2 n (by omega)
      rw [← c1, ← c2, er]
  · have z2 : agn m ≠ [] := fun e => z (agn_same m0 r0 (fun i => (h i).symm) e)
    obtain ⟨n, hn⟩ := grow r0 z j
    rw [row_T r0 hn, row_T m0 (n := n) (by rw [← er]; exact hn), er]
theorem thinL_r {l : Lso α} (r0 : 0 < l.r.length) : 0 < (thinL l).r.length := by
  unfold thinL
  split
  · simp; omega
  · rename_i h
    exact List.length_pos_iff.mpr h
/-! ### what the law asks of it -/
section
variable {l : Lso α} (r0 : 0 < l.r.length)
include r0
theorem one_of : agn l = [] → (least (thinL l)).r.length = 1 ∧ (least (thinL l)).h.length + 1 = tnN l := fun z => by
  have L := least_ok (thinL_r r0)
  have tp := tn_pos r0
  have per : Per (row (thinL l)) 1 (tnN l - 1) := fun i hi => by rw [cst_T r0 z _ (by omega), cst_T r0 z _ (by omega)]
  obtain ⟨h1, h2⟩ := lst_len L (by decide) per
  have hr := L.r
  refine ⟨by omega, ?_⟩
  by_cases c : (least (thinL l)).h.length + 1 < tnN l
  · exfalso
    have e : (least (thinL l)).r.length = 1 := by omega
    have := L.per _ (Nat.le_refl _)
    rw [e] at this
    exact nd_C r0 _ c this
  · omega
theorem agn_of (h : (least (thinL l)).r.length = 1) : agn l = [] := by
  by_cases z : agn l = []
  · exact z
  · exfalso
    have L := least_ok (thinL_r r0)
    have := L.per _ (Nat.le_refl _)
    rw [h] at this
    exact nd_T r0 z _ this
/-- neighbours alike in head, ring and the ring's first -/
theorem dups (k : Nat) (hk : k + 1 < (least (thinL l)).h.length + (least (thinL l)).r.length + 1) (e : row (thinL l) (k + 1) = row (thinL l) k) : (least (thinL l)).r.length = 1 ∧ k + 1 = tnN l := by
  by_cases z : agn l = []
  · obtain ⟨h1, h2⟩ := one_of r0 z
    refine ⟨h1, ?_⟩
    by_cases c : k + 1 < tnN l
    · exact absurd e (nd_C r0 k c)
    · omega
  · exact absurd e (nd_T r0 z k)
theorem due_one (h : (least (thinL l)).r.length = 1) {n : Nat} (hn : l.h.length + l.r.length ≤ n) : thin (un (row l) n) = (least (thinL l)).h ++ (least (thinL l)).r := by
  have z := agn_of r0 h
  obtain ⟨h1, h2⟩ := one_of r0 z
  have e1 := thin_un r0 n
  rw [cst_len r0 z hn] at e1
  have L := least_ok (thinL_r r0)
  have e2 := un_rep L.r 1
  have er : row (least (thinL l)) = row (thinL l) := funext L.e
  rw [er, h1, Nat.mul_one, h2] at e2
  rw [e1, e2]
  simp [rep]
end
/-! ### how far the thinned row has come -/
structure Cm (f g : Nat → α) (c : Nat → Nat) : Prop where
  z : c 0 = 0
  s : ∀ i, c (i + 1) = c i ∨ c (i + 1) = c i + 1
  e : ∀ i, g (c i) = f i
  j : ∀ j, ∃ i, c i = j
theorem surj_of {c : Nat → Nat} (z : c 0 = 0) (s : ∀ i, c (i + 1) = c i ∨ c (i + 1) = c i + 1) (u : ∀ j, ∃ i, j ≤ c i) (j : Nat) : ∃ i, c i = j := by
  obtain ⟨n, hn⟩ := u j
  have key : ∀ n, j ≤ c n → ∃ i, c i = j := by
    intro n
    induction n with
    | zero => intro h; exact ⟨0, by omega⟩
    | succ n ih =>
      intro h
      rcases s n with e | e
      · exact ih (by omega)
      · by_cases z : j ≤ c n
        · exact ih z
        · exact ⟨n + 1, by omega⟩
  exact key n hn
theorem cm_ex {l : Lso α} (r0 : 0 < l.r.length) : ∃ c, Cm (row l) (row (thinL l)) c := by
  have tl : ∀ i, 0 < (thin (un (row l) (i + 1))).length := fun i => thin_pos un_ne
  have st : ∀ i, (thin (un (row l) (i + 1 + 1))).length = (thin (un (row l) (i + 1))).length ∨ (thin (un (row l) (i + 1 + 1))).length = (thin (un (row l) (i + 1))).length + 1 := fun i => by
    rw [un_succ (n := i + 1), thin_app un_ne default, List.length_append]
    simp only [gain]
    split
    · left; rfl
    · right; rfl
  have e1 : (thin (un (row l) 1)).length = 1 := rfl
  have ev : ∀ i, row (thinL l) ((thin (un (row l) (i + 1))).length - 1) = row l i := fun i => by
    have h := tl i
    rw [row_T r0 (n := i + 1) (by omega), ← lastD_gt default (thin_ne un_ne), lastD_thin _ un_ne, lastD_un]
  by_cases z : agn l = []
  · let N := l.h.length + l.r.length
    have eN : (thin (un (row l) N)).length = tnN l := cst_len r0 z (Nat.le_refl _)
    refine ⟨fun i => if i < N then (thin (un (row l) (i + 1))).length - 1 else tnN l - 1 + (i + 1 - N), ⟨?_, fun i => ?_, fun i => ?_, surj_of ?_ (fun i => ?_) fun j => ?_⟩⟩
    · try simp only
      rw [if_pos (by omega), e1]
    · try simp only
      have := st i
      have := tl i
      have t0 := tn_pos r0
      by_cases h : i + 1 < N
      · rw [if_pos h, if_pos (by omega)]; omega
      · by_cases h2 : i < N
        · rw [if_neg h, if_pos h2]
          have : i + 1 = N := by omega
          rw [this, eN]
          omega
        · rw [if_neg h, if_neg h2]; omega
    · try simp only
      by_cases h : i < N
      · rw [if_pos h]; exact ev i
      · rw [if_neg h, cst_T r0 z _ (by omega), cst r0 z i (by omega)]
    · try simp only
      rw [if_pos (by omega), e1]
    · try simp only
      have := st i
      have := tl i
      have t0 := tn_pos r0
      by_cases h : i + 1 < N
      · rw [if_pos h, if_pos (by omega)]; omega
      · by_cases h2 : i < N
        · rw [if_neg h, if_pos h2]
          have : i + 1 = N := by omega
          rw [this, eN]
          omega
        · rw [if_neg h, if_neg h2]; omega
    · refine ⟨N + j, ?_⟩
      try simp only
      rw [if_neg (by omega)]
      omega
  · refine ⟨fun i => (thin (un (row l) (i + 1))).length - 1, ⟨by (try simp only); rw [e1], fun i => ?_, ev, surj_of (by (try simp only); rw [e1]) (fun i => ?_) fun j => ?_⟩⟩
    · have := st i
      have := tl i
      try simp only
      omega
    · have := st i
      have := tl i
      try simp only
      omega
    · obtain ⟨n, hn⟩ := grow r0 z j
      refine ⟨n, ?_⟩
      have := thin_mono r0 (f := row l) (show n ≤ n + 1 by omega)
      try simp only
      omega
end
end Las
end Py
namespace Py
namespace Las
/-! ### sentences about rows of lights -/
inductive Sen | tru | lig (k : Nat) | neg (a : Sen) | con (a b : Sen) | dis (a b : Sen) | alw (a : Sen) | atl (a : Sen) | unt (a b : Sen)
  deriving DecidableEq
def sat (f : Nat → List Nat) : Sen → Nat → Prop
  | .tru, _ => True
  | .lig k, i => gt (f i) k = 1
  | .neg a, i => ¬ sat f a i
  | .con a b, i => sat f a i ∧ sat f b i
  | .dis a b, i => sat f a i ∨ sat f b i
  | .alw a, i => ∀ j, i ≤ j → sat f a j
  | .atl a, i => ∃ j, i ≤ j ∧ sat f a j
  | .unt a b, i => ∃ j, i ≤ j ∧ sat f b j ∧ ∀ k, i ≤ k → k < j → sat f a k
theorem sat_shift {f g : Nat → List Nat} : ∀ (φ : Sen) {i i' : Nat}, (∀ j, f (i + j) = g (i' + j)) → (sat f φ i ↔ sat g φ i')
  | .tru, _, _, _ => Iff.rfl
  | .lig k, i, i', h => by
    have := h 0
    simp only [Nat.add_zero] at this
    simp only [sat, this]
  | .neg a, i, i', h => by simp only [sat, sat_shift a h]
  | .con a b, i, i', h => by simp only [sat, sat_shift a h, sat_shift b h]
  | .dis a b, i, i', h => by simp only [sat, sat_shift a h, sat_shift b h]
  | .alw a, i, i', h => by
    have e : ∀ k, sat f a (i + k) ↔ sat g a (i' + k) := fun k => sat_shift a fun j => by rw [Nat.add_assoc, Nat.add_assoc]; exact h _
    simp only [sat]
    constructor
    · intro s j hj
      obtain ⟨k, rfl⟩ : ∃ k, j = i' + k := ⟨j - i', by omega⟩
      exact (e k).mp (s _ (by omega))
    · intro s j hj
      obtain ⟨k, rfl⟩ : ∃ k, j = i + k := ⟨j - i, by omega⟩
      exact (e k).mpr (s _ (by omega))
  | .atl a, i, i', h => by
    have e : ∀ k, sat f a (i + k) ↔ sat g a (i' + k) := fun k => sat_shift a fun j => by rw [Nat.add_assoc, Nat.add_assoc]; exact h _
    simp only [sat]
    constructor
    · rintro ⟨j, hj, s⟩
      obtain ⟨k, rfl⟩ : ∃ k, j = i + k := ⟨j - i, by omega⟩
      exact ⟨_, by omega, (e k).mp s⟩
    · rintro ⟨j, hj, s⟩
      obtain ⟨k, rfl⟩ : ∃ k, j = i' + k := ⟨j - i', by omega⟩
      exact ⟨_, by omega, (e k).mpr s⟩
  | .unt a b, i, i', h => by
    have ea : ∀ k, sat f a (i + k) ↔ sat g a (i' + k) := fun k => sat_shift a fun j => by rw [Nat.add_assoc, Nat.add_assoc]; exact h _
    have eb : ∀ k, sat f b (i + k) ↔ sat g b (i' + k) := fun k => sat_shift b fun j => by rw [Nat.add_assoc, Nat.add_assoc]; exact h _
    simp only [sat]
    constructor
    · rintro ⟨j, hj, s, t⟩
      obtain ⟨k, rfl⟩ : ∃ k, j = i + k := ⟨j - i, by omega⟩
      refine ⟨i' + k, by omega, (eb k).mp s, fun x h1 h2 => ?_⟩
      obtain ⟨y, rfl⟩ : ∃ y, x = i' + y := ⟨x - i', by omega⟩
      exact (ea y).mp (t _ (by omega) (by omega))
    · rintro ⟨j, hj, s, t⟩
      obtain ⟨k, rfl⟩ : ∃ k, j = i' + k := ⟨j - i', by omega⟩
      refine ⟨i + k, by omega, (eb k).mpr s, fun x h1 h2 => ?_⟩
      obtain ⟨y, rfl⟩ : ∃ y, x = i + y := ⟨x - i, by omega⟩
      exact (ea y).mpr (t _ (by omega) (by omega))
theorem Cm.mono {α : Type} {f g : Nat → α} {c : Nat → Nat} (C : Cm f g c) {i j : Nat} (h : i ≤ j) : c i ≤ c j := by
  induction j with
  | zero => have : i = 0 := by omega
            rw [this]; exact Nat.le_refl _
  | succ j ih =>
    by_cases z : i = j + 1
    · rw [z]; exact Nat.le_refl _
    · have := ih (by omega)
      have := C.s j
      omega
theorem Cm.at {α : Type} {f g : Nat → α} {c : Nat → Nat} (C : Cm f g c) {i j : Nat} (h : c i ≤ j) : ∃ k, i ≤ k ∧ c k = j ∧ ∀ t, i ≤ t → t < k → c t < j := by
  have key : ∀ n, ∀ k, k - i ≤ n → i ≤ k → c k = j → ∃ k, i ≤ k ∧ c k = j ∧ ∀ t, i ≤ t → t < k → c t < j := by
    intro n
    induction n with
    | zero =>
      intro k h1 h2 h3
      exact ⟨k, h2, h3, fun t a b => by omega⟩
    | succ n ih =>
      intro k h1 h2 h3
      by_cases z : ∃ t, i ≤ t ∧ t < k ∧ c t = j
      · obtain ⟨t, t1, t2, t3⟩ := z
        exact ih t (by omega) t1 t3
      · refine ⟨k, h2, h3, fun t a b => ?_⟩
        have := C.mono (show t ≤ k by omega)
        have : c t ≠ j := fun e => z ⟨t, a, b, e⟩
        omega
  obtain ⟨k, hk⟩ := C.j j
  by_cases z : i ≤ k
  · exact key (k - i) k (Nat.le_refl _) z hk
  · have := C.mono (show k ≤ i by omega)
    exact ⟨i, Nat.le_refl _, by omega, fun t a b => by omega⟩
/-- along the row thinned the same is true -/
theorem sat_cm {f g : Nat → List Nat} {c : Nat → Nat} (C : Cm f g c) : ∀ (φ : Sen) (i : Nat), sat f φ i ↔ sat g φ (c i)
  | .tru, _ => Iff.rfl
  | .lig k, i => by simp only [sat, C.e]
  | .neg a, i => by simp only [sat, sat_cm C a]
  | .con a b, i => by simp only [sat, sat_cm C a, sat_cm C b]
  | .dis a b, i => by simp only [sat, sat_cm C a, sat_cm C b]
  | .alw a, i => by
    simp only [sat]
    constructor
    · intro s j hj
      obtain ⟨k, h1, rfl, _⟩ := C.at hj
      exact (sat_cm C a k).mp (s k h1)
    · intro s j hj
      exact (sat_cm C a j).mpr (s _ (C.mono hj))
  | .atl a, i => by
    simp only [sat]
    constructor
    · rintro ⟨j, hj, s⟩
      exact ⟨c j, C.mono hj, (sat_cm C a j).mp s⟩
    · rintro ⟨j, hj, s⟩
      obtain ⟨k, h1, rfl, _⟩ := C.at hj
      exact ⟨k, h1, (sat_cm C a k).mpr s⟩
  | .unt a b, i => by
    simp only [sat]
    constructor
    · rintro ⟨j, hj, s, t⟩
      refine ⟨c j, C.mono hj, (sat_cm C b j).mp s, fun x h1 h2 => ?_⟩
      obtain ⟨k, k1, rfl, _⟩ := C.at h1
      have : k < j := by
        by_cases z : k < j
        · exact z
        · have := C.mono (show j ≤ k by omega); omega
      exact (sat_cm C a k).mp (t k k1 this)
    · rintro ⟨j, hj, s, t⟩
      obtain ⟨k, h1, rfl, h3⟩ := C.at hj
      exact ⟨k, h1, (sat_cm C b k).mpr s, fun x x1 x2 => (sat_cm C a x).mpr (t _ (C.mono x1) (h3 x x1 x2))⟩
/-! ### truths, by places that come -/
section
variable {l : Lso (List Nat)} (r0 : 0 < l.r.length)
def sz (l : Lso (List Nat)) : Nat := l.h.length + l.r.length
/-- the place of head and ring for a place of the row -/
def wr (l : Lso (List Nat)) (i : Nat) : Nat := if i < l.h.length then i else l.h.length + (i - l.h.length) % l.r.length
def bsat (l : Lso (List Nat)) : Sen → Nat → Bool
  | .tru, _ => true
  | .lig k, i => decide (gt (row l i) k = 1)
  | .neg a, i => !bsat l a i
  | .con a b, i => bsat l a i && bsat l b i
  | .dis a b, i => bsat l a i || bsat l b i
  | .alw a, i => (List.range (sz l)).all fun k => bsat l a (i + k)
  | .atl a, i => (List.range (sz l)).any fun k => bsat l a (i + k)
  | .unt a b, i => (List.range (sz l)).any fun k => bsat l b (i + k) && (List.range k).all fun t => bsat l a (i + t)
include r0
theorem sat_per (φ : Sen) {i : Nat} (hi : l.h.length ≤ i) (k : Nat) : sat (row l) φ (i + l.r.length * k) ↔ sat (row l) φ i := sat_shift φ fun j => by
  rw [show i + l.r.length * k + j = i + j + l.r.length * k by omega]
  exact row_per.mul k (i + j) (by omega)
/-- a place from which on all is seen within the size -/
theorem near (φ : Sen) {i j : Nat} (h : i ≤ j) : ∃ k, k < sz l ∧ k ≤ j - i ∧ (sat (row l) φ (i + k) ↔ sat (row l) φ j) := by
  by_cases z : j - i < sz l
  · exact ⟨j - i, z, Nat.le_refl _, by rw [show i + (j - i) = j by omega]⟩
  · unfold sz at z ⊢
    have hm := Nat.mod_lt (j - i - l.h.length) r0
    have hd := Nat.mod_add_div (j - i - l.h.length) l.r.length
    refine ⟨l.h.length + (j - i - l.h.length) % l.r.length, by omega, by omega, ?_⟩
    have := sat_per r0 φ (i := i + (l.h.length + (j - i - l.h.length) % l.r.length)) (by omega) ((j - i - l.h.length) / l.r.length)
    rw [show i + (l.h.length + (j - i - l.h.length) % l.r.length) + l.r.length * ((j - i - l.h.length) / l.r.length) = j by omega] at this
    exact this.symm
theorem bsat_iff : ∀ (φ : Sen) (i : Nat), bsat l φ i = true ↔ sat (row l) φ i
  | .tru, _ => by simp [bsat, sat]
  | .lig k, i => by simp [bsat, sat]
  | .neg a, i => by
    have := bsat_iff a i
    simp only [bsat, sat, ← this]
    simp
  | .con a b, i => by simp only [bsat, sat, Bool.and_eq_true, bsat_iff a, bsat_iff b]
  | .dis a b, i => by simp only [bsat, sat, Bool.or_eq_true, bsat_iff a, bsat_iff b]
  | .alw a, i => by
    simp only [bsat, sat, List.all_eq_true, List.mem_range]
    constructor
    · intro h j hj
      obtain ⟨k, k1, _, k3⟩ := near r0 a hj
      exact k3.mp ((bsat_iff a _).mp (h k k1))
    · intro h k _
      exact (bsat_iff a _).mpr (h _ (by omega))
  | .atl a, i => by
    simp only [bsat, sat, List.any_eq_true, List.mem_range]
    constructor
    · rintro ⟨k, _, h⟩
      exact ⟨i + k, by omega, (bsat_iff a _).mp h⟩
    · rintro ⟨j, hj, h⟩
      obtain ⟨k, k1, _, k3⟩ := near r0 a hj
      exact ⟨k, k1, (bsat_iff a _).mpr (k3.mpr h)⟩
  | .unt a b, i => by
    simp only [bsat, sat, List.any_eq_true, List.mem_range, Bool.and_eq_true, List.all_eq_true]
    constructor
    · rintro ⟨k, _, h1, h2⟩
      refine ⟨i + k, by omega, (bsat_iff b _).mp h1, fun x x1 x2 => ?_⟩
      have := (bsat_iff a _).mp (h2 (x - i) (by omega))
      rw [show i + (x - i) = x by omega] at this
      exact this
    · rintro ⟨j, hj, h1, h2⟩
      obtain ⟨k, k1, k2, k3⟩ := near r0 b hj
      exact ⟨k, k1, (bsat_iff b _).mpr (k3.mpr h1), fun x hx => (bsat_iff a _).mpr (h2 _ (by omega) (by omega))⟩
theorem bsat_eq (φ : Sen) {i j : Nat} (h : sat (row l) φ i ↔ sat (row l) φ j) : bsat l φ i = bsat l φ j := by
  rw [Bool.eq_iff_iff, bsat_iff r0, bsat_iff r0]
  exact h
theorem bsat_wr (φ : Sen) (i : Nat) : bsat l φ (wr l i) = bsat l φ i := by
  unfold wr
  split
  · rfl
  · rename_i h
    refine bsat_eq r0 φ ?_
    have hd := Nat.mod_add_div (i - l.h.length) l.r.length
    have := sat_per r0 φ (i := l.h.length + (i - l.h.length) % l.r.length) (by omega) ((i - l.h.length) / l.r.length)
    rw [show l.h.length + (i - l.h.length) % l.r.length + l.r.length * ((i - l.h.length) / l.r.length) = i by omega] at this
    exact this.symm
theorem bsat_end (φ : Sen) : bsat l φ (sz l) = bsat l φ l.h.length := by
  refine bsat_eq r0 φ ?_
  have := sat_per r0 φ (i := l.h.length) (Nat.le_refl _) 1
  rw [Nat.mul_one] at this
  exact this
theorem unt_rec (a b : Sen) (i : Nat) : bsat l (.unt a b) i = (bsat l b i || (bsat l a i && bsat l (.unt a b) (i + 1))) := by
  rw [Bool.eq_iff_iff]
  simp only [Bool.or_eq_true, Bool.and_eq_true, bsat_iff r0, sat]
  constructor
  · rintro ⟨j, hj, h1, h2⟩
    by_cases z : j = i
    · subst z; exact .inl h1
    · exact .inr ⟨h2 i (Nat.le_refl _) (by omega), j, by omega, h1, fun k a b => h2 k (by omega) b⟩
  · rintro (h | ⟨h, j, hj, h1, h2⟩)
    · exact ⟨i, Nat.le_refl _, h, fun k a b => by omega⟩
    · refine ⟨j, by omega, h1, fun k k1 k2 => ?_⟩
      by_cases z : k = i
      · subst z; exact h
      · exact h2 k (by omega) k2
theorem alw_rec (a : Sen) (i : Nat) : bsat l (.alw a) i = (bsat l a i && bsat l (.alw a) (i + 1)) := by
  rw [Bool.eq_iff_iff]
  simp only [Bool.and_eq_true, bsat_iff r0, sat]
  constructor
  · exact fun h => ⟨h i (Nat.le_refl _), fun j hj => h j (by omega)⟩
  · rintro ⟨h, h2⟩ j hj
    by_cases z : j = i
    · subst z; exact h
    · exact h2 j (by omega)
theorem atl_unt (a : Sen) (i : Nat) : bsat l (.atl a) i = bsat l (.unt .tru a) i := by
  rw [Bool.eq_iff_iff, bsat_iff r0, bsat_iff r0]
  simp only [sat]
  exact ⟨fun ⟨j, h1, h2⟩ => ⟨j, h1, h2, fun _ _ _ => trivial⟩, fun ⟨j, h1, h2, _⟩ => ⟨j, h1, h2⟩⟩
end
end Las
end Py
namespace Py
open PySem (Str)
namespace Las
/-! ### items and rows as data -/
abbrev Itm := List Nat
def isD (xs : List Itm) : List D := xs.map fun l => .tup (nL l)
def lsD (l : Lso Itm) : D := .tup [.tup (isD l.h), .tup (isD l.r)]
@[simp] theorem isD_len (xs : List Itm) : (isD xs).length = xs.length := by simp [isD]
theorem isD_app (xs ys : List Itm) : isD xs ++ isD ys = isD (xs ++ ys) := by simp [isD]
theorem isD_at {xs : List Itm} {i : Nat} (h : i < xs.length) : atI (isD xs) (i : Int) = some (.tup (nL (gt xs i))) := atN (by simp [isD, List.getElem?_eq_getElem h, gt_get h])
@[simp] theorem lsS {l : Lso Itm} {h : AH} : sqV (.v (lsD l)) h = some [.tup (isD l.h), .tup (isD l.r)] := rfl
@[simp] theorem ls0 {l : Lso Itm} {h : AH} : ixD (.v (lsD l)) (.v (.int 0)) h = some (.tup (isD l.h)) := by simp [lsD]
@[simp] theorem ls1 {l : Lso Itm} {h : AH} : ixD (.v (lsD l)) (.v (.int 1)) h = some (.tup (isD l.r)) := by simp [lsD]
theorem nLpu {n : Nat} (xs : List Nat) : (nL xs).all (pu n) = true := by
  rw [List.all_eq_true]
  intro x hx
  obtain ⟨i, _, rfl⟩ := nL_mem hx
  cases n <;> rfl
theorem nLeqvs (xs ys : List Nat) : eqvs (nL xs) (nL ys) = decide (xs = ys) := by
  rw [← nL_iL, ← nL_iL, iL_eqvs]
  apply decide_eq_decide.mpr
  constructor
  · intro h
    exact List.map_inj_right (fun a b e => by omega) |>.mp h
  · intro h; rw [h]
theorem isDpu {n : Nat} (xs : List Itm) : (isD xs).all (pu (n + 1)) = true := by
  rw [List.all_eq_true]
  intro x hx
  obtain ⟨l, _, rfl⟩ := List.mem_map.mp hx
  exact nLpu l
theorem isDeqvs : ∀ xs ys : List Itm, eqvs (isD xs) (isD ys) = decide (xs = ys)
  | [], [] => rfl
  | [], _ :: _ => rfl
  | _ :: _, [] => rfl
  | x :: xs, y :: ys => by
    show (eqvs (nL x) (nL y) && eqvs (isD xs) (isD ys)) = _
    rw [nLeqvs, isDeqvs xs ys]
    by_cases h : x = y <;> by_cases h2 : xs = ys <;> simp [h, h2]
theorem eqN (xs ys : List Nat) (h : AH) : cmpD .eq (.v (.tup (nL xs))) (.v (.tup (nL ys))) h = some (decide (xs = ys)) := by
  show eqD (.v (.tup (nL xs))) (.v (.tup (nL ys))) h = _
  unfold eqD
  simp only [nLpu, nLeqvs, Bool.and_self, if_true]
theorem neN (xs ys : List Nat) (h : AH) : cmpD .ne (.v (.tup (nL xs))) (.v (.tup (nL ys))) h = some (!decide (xs = ys)) := by
  show (eqD (.v (.tup (nL xs))) (.v (.tup (nL ys))) h).map (!·) = _
  rw [show eqD (.v (.tup (nL xs))) (.v (.tup (nL ys))) h = some (decide (xs = ys)) from eqN xs ys h]
  rfl
theorem eqI (xs ys : List Itm) (h : AH) : cmpD .eq (.v (.tup (isD xs))) (.v (.tup (isD ys))) h = some (decide (xs = ys)) := by
  show eqD (.v (.tup (isD xs))) (.v (.tup (isD ys))) h = _
  unfold eqD
  simp only [isDpu, isDeqvs, Bool.and_self, if_true]
theorem neI (xs ys : List Itm) (h : AH) : cmpD .ne (.v (.tup (isD xs))) (.v (.tup (isD ys))) h = some (!decide (xs = ys)) := by
  show (eqD (.v (.tup (isD xs))) (.v (.tup (isD ys))) h).map (!·) = _
  rw [show eqD (.v (.tup (isD xs))) (.v (.tup (isD ys))) h = some (decide (xs = ys)) from eqI xs ys h]
  rfl
theorem eqL (a b : Lso Itm) (h : AH) : cmpD .eq (.v (lsD a)) (.v (lsD b)) h = some (decide (a = b)) := by
  show eqD (.v (.tup [.tup (isD a.h), .tup (isD a.r)])) (.v (.tup [.tup (isD b.h), .tup (isD b.r)])) h = _
  unfold eqD
  have p : ∀ c : Lso Itm, [D.tup (isD c.h), .tup (isD c.r)].all (pu 40) = true := fun c => by
    show ((isD c.h).all (pu 39) && ((isD c.r).all (pu 39) && true)) = true
    rw [isDpu, isDpu]; rfl
  have e : eqvs [D.tup (isD a.h), .tup (isD a.r)] [D.tup (isD b.h), .tup (isD b.r)] = decide (a = b) := by
    show (eqvs (isD a.h) (isD b.h) && (eqvs (isD a.r) (isD b.r) && true)) = _
    rw [isDeqvs, isDeqvs]
    obtain ⟨ah, ar⟩ := a
    obtain ⟨bh, br⟩ := b
    by_cases h1 : ah = bh <;> by_cases h2 : ar = br <;> simp [h1, h2]
  simp only [p, e, Bool.and_self, if_true]
theorem neL (a b : Lso Itm) (h : AH) : cmpD .ne (.v (lsD a)) (.v (lsD b)) h = some (!decide (a = b)) := by
  show (eqD (.v (lsD a)) (.v (lsD b)) h).map (!·) = _
  rw [show eqD (.v (lsD a)) (.v (lsD b)) h = some (decide (a = b)) from eqL a b h]
  rfl
/-! ### cuts -/
theorem cutT {α : Type} (xs : List α) (k : Nat) : cut xs none (some (k : Int)) = xs.take k := by
  show (xs.drop 0).take ((if (k : Int) < 0 then ((k : Int) + (xs.length : Int)).toNat else min (k : Int).toNat xs.length) - 0) = _
  rw [if_neg (by omega), Int.toNat_natCast, List.drop_zero, Nat.sub_zero]
  by_cases h : k ≤ xs.length
  · rw [Nat.min_eq_left h]
  · rw [Nat.min_eq_right (by omega), List.take_of_length_le (Nat.le_refl _),
        List.take_of_length_le (by omega)]
theorem cutDr {α : Type} (xs : List α) (k : Nat) : cut xs (some (k : Int)) none = xs.drop k := by
  show (xs.drop (if (k : Int) < 0 then ((k : Int) + (xs.length : Int)).toNat else min (k : Int).toNat xs.length)).take (xs.length - (if (k : Int) < 0 then ((k : Int) + (xs.length : Int)).toNat else min (k : Int).toNat xs.length)) = _
  rw [if_neg (by omega),
      Int.toNat_natCast]
  by_cases h : k ≤ xs.length
  · rw [Nat.min_eq_left h]
    exact List.take_of_length_le
        (by simp)
  · rw [Nat.min_eq_right (by omega), List.drop_of_length_le (Nat.le_refl _), List.drop_of_length_le (show xs.length ≤ k by omega)]
    simp
theorem cutB {α : Type} (xs : List α) {a b : Nat} (h : b ≤ xs.length) (hab : a ≤ b) : cut xs (some (a : Int)) (some (b : Int)) = (xs.drop a).take (b - a) := by
  show (xs.drop (if (a : Int) < 0 then ((a : Int) + (xs.length : Int)).toNat else min (a : Int).toNat xs.length)).take ((if (b : Int) < 0 then ((b : Int) + (xs.length : Int)).toNat else min (b : Int).toNat xs.length) - (if (a : Int) < 0 then ((a : Int) + (xs.length : Int)).toNat else min (a : Int).toNat xs.length)) = _
  rw [if_neg (by omega), if_neg (by omega), Int.toNat_natCast, Int.toNat_natCast, Nat.min_eq_left h, Nat.min_eq_left (by omega)]
theorem cutM {α : Type} {xs : List α} (h : 0 < xs.length) : cut xs none (some (-1)) = xs.take (xs.length - 1) := by
  show (xs.drop 0).take ((if (-1 : Int) < 0 then ((-1 : Int) + (xs.length : Int)).toNat else min (-1 : Int).toNat xs.length) - 0) = _
  rw [if_pos (by decide), List.drop_zero, Nat.sub_zero]
  congr 1
  omega
theorem cutE {α : Type} {xs : List α} (h : 0 < xs.length) : cut xs (some (-1)) none = xs.drop (xs.length - 1) := by
  show (xs.drop (if (-1 : Int) < 0 then ((-1 : Int) + (xs.length : Int)).toNat else min (-1 : Int).toNat xs.length)).take (xs.length - (if (-1 : Int) < 0 then ((-1 : Int) + (xs.length : Int)).toNat else min (-1 : Int).toNat xs.length)) = _
  rw [if_pos (by decide)]
  have : ((-1 : Int) + (xs.length : Int)).toNat = xs.length - 1 := by omega
  rw [this]
  exact List.take_of_length_le
      (by simp)
theorem isT (xs : List Itm) (k : Nat) : (isD xs).take k = isD (xs.take k) := by simp [isD, List.map_take]
theorem isDr (xs : List Itm) (k : Nat) : (isD xs).drop k = isD (xs.drop k) := by simp [isD, List.map_drop]
theorem isM1 {xs : List Itm} (h : 0 < xs.length) : atI (isD xs) (-1) = some (.tup (nL (gt xs (xs.length - 1)))) := by
  rcases List.eq_nil_or_concat xs with rfl | ⟨l, y, e⟩
  · simp at h
  · rw [List.concat_eq_append] at e
    subst e
    have e1 : isD (l ++ [y]) = isD l ++ [.tup (nL y)] := by simp [isD]
    rw [e1, at_last]
    simp [gt]
theorem rept_is (xs : List Itm) (k : Nat) : rept (isD xs) (k : Int) = isD (rep xs k) := by
  unfold rept
  rw [Int.toNat_natCast]
  induction k with
  | zero => rfl
  | succ k ih =>
    rw [List.replicate_succ', List.flatten_append, ih]
    simp [rep, isD]
theorem o_mulT {xs : List D} {k : Nat} {h : AH} (e : xs.length * k ≤ 16777216) (e2 : k ≤ 1000000) : binD .mul (.v (.tup xs)) (.v (.int k)) h = some (.v (.tup (rept xs k))) := by
  have c : (-9223372036854775808 : Int) ≤ (k : Int) ∧ (k : Int) < 9223372036854775808 ∧ xs.length * (k : Int).toNat ≤ 16777216 := ⟨by omega, by omega, by simpa using e⟩
  simp only [binD, mulD, ob]
  simp [c]
  simpa using e
def c_parts_of_sentence : Fn := ⟨1, 1, (.cons (.ret (.ite (.cmp .inn (.ix (.var 0) (.lit (.int 0))) (.tup (.cons (.lit (.str "true")) (.cons (.lit (.str "light")) .nil)))) (.tup .nil) (.sl (.var 0) (.so (.lit (.int 1))) .no))) .nil)⟩
def c_all_in_sentence : Fn := ⟨1, 3, (.cons (.asg (.nm 1) (.lst .nil)) (.cons (.for_ (.nm 2) (.seq (.call "parts_of_sentence" (.cons (.var 0) .nil))) (.cons (.aug 1 .add (.call "all_in_sentence" (.cons (.var 2) .nil))) .nil)) (.cons (.ret (.bin .add (.var 1) (.lst (.cons (.var 0) .nil)))) .nil)))⟩
def c_time_parts : Fn := ⟨1, 3, (.cons (.asg (.nm 1) (.lst .nil)) (.cons (.for_ (.nm 2) (.seq (.call "all_in_sentence" (.cons (.var 0) .nil))) (.cons (.ifs (.and (.cmp .inn (.ix (.var 2) (.lit (.int 0))) (.glo "TIME_HEADS")) (.cmp .nin (.var 2) (.var 1))) (.cons (.expr (.mt .append (.var 1) (.cons (.var 2) .nil))) .nil) .nil) .nil)) (.cons (.ret (.b1 .tup (.var 1))) .nil)))⟩
def c_is_of_moment : Fn := ⟨1, 1, (.cons (.ret (.cmp .eq (.b1 .len (.call "time_parts" (.cons (.var 0) .nil))) (.lit (.int 0)))) .nil)⟩
def c_joined_truths : Fn := ⟨2, 2, (.cons (.ifs (.cmp .eq (.ix (.var 0) (.lit (.int 0))) (.lit (.str "not"))) (.cons (.ret (.not (.ix (.var 1) (.lit (.int 0))))) .nil) .nil) (.cons (.ret (.ite (.cmp .eq (.ix (.var 0) (.lit (.int 0))) (.lit (.str "and"))) (.and (.ix (.var 1) (.lit (.int 0))) (.ix (.var 1) (.lit (.int 1)))) (.or (.ix (.var 1) (.lit (.int 0))) (.ix (.var 1) (.lit (.int 1)))))) .nil))⟩
def c_told_by_bits : Fn := ⟨4, 6, (.cons (.ifs (.cmp .eq (.ix (.var 0) (.lit (.int 0))) (.lit (.str "true"))) (.cons (.ret (.lit (.bl true))) .nil) .nil) (.cons (.ifs (.cmp .eq (.ix (.var 0) (.lit (.int 0))) (.lit (.str "light"))) (.cons (.ret (.cmp .eq (.ix (.var 1) (.ix (.var 0) (.lit (.int 1)))) (.lit (.int 1)))) .nil) .nil) (.cons (.ifs (.cmp .inn (.ix (.var 0) (.lit (.int 0))) (.glo "TIME_HEADS")) (.cons (.ret (.cmp .eq (.ix (.var 3) (.mt .index (.var 2) (.cons (.var 0) .nil))) (.lit (.int 1)))) .nil) .nil) (.cons (.ret (.call "joined_truths" (.cons (.var 0) (.cons (.comp (.nm 5) (.seq (.call "parts_of_sentence" (.cons (.var 0) .nil))) [4, 5] (.call "told_by_bits" (.cons (.var 5) (.cons (.var 1) (.cons (.var 2) (.cons (.var 3) .nil)))))) .nil)))) .nil))))⟩
def c_holds_now : Fn := ⟨2, 2, (.cons (.ret (.call "told_by_bits" (.cons (.var 0) (.cons (.var 1) (.cons (.tup .nil) (.cons (.tup .nil) .nil)))))) .nil)⟩
def c_item_of_lasso : Fn := ⟨2, 4, (.cons (.asg (.tp (.cons (.nm 2) (.cons (.nm 3) .nil))) (.var 0)) (.cons (.ret (.ite (.cmp .lt (.var 1) (.b1 .len (.var 2))) (.ix (.var 2) (.var 1)) (.ix (.var 3) (.bin .mod (.bin .sub (.var 1) (.b1 .len (.var 2))) (.b1 .len (.var 3)))))) .nil))⟩
def c_shortest_ring : Fn := ⟨1, 2, (.cons (.for_ (.nm 1) (.rng2 (.lit (.int 1)) (.b1 .len (.var 0))) (.cons (.ifs (.and (.cmp .eq (.bin .mod (.b1 .len (.var 0)) (.var 1)) (.lit (.int 0))) (.cmp .eq (.var 0) (.bin .mul (.sl (.var 0) .no (.so (.var 1))) (.bin .fdiv (.b1 .len (.var 0)) (.var 1))))) (.cons (.ret (.sl (.var 0) .no (.so (.var 1)))) .nil) .nil) .nil)) (.cons (.ret (.var 0)) .nil))⟩
def c_least_lasso : Fn := ⟨1, 3, (.cons (.asg (.tp (.cons (.nm 1) (.cons (.nm 2) .nil))) (.var 0)) (.cons (.asg (.nm 2) (.call "shortest_ring" (.cons (.var 2) .nil))) (.cons (.whl (.and (.cmp .gt (.b1 .len (.var 1)) (.lit (.int 0))) (.cmp .eq (.ix (.var 1) (.neg (.lit (.int 1)))) (.ix (.var 2) (.neg (.lit (.int 1)))))) (.cons (.asg (.tp (.cons (.nm 1) (.cons (.nm 2) .nil))) (.tup (.cons (.sl (.var 1) .no (.so (.neg (.lit (.int 1))))) (.cons (.bin .add (.sl (.var 2) (.so (.neg (.lit (.int 1)))) .no) (.sl (.var 2) .no (.so (.neg (.lit (.int 1)))))) .nil)))) .nil)) (.cons (.ret (.tup (.cons (.var 1) (.cons (.var 2) .nil)))) .nil))))⟩
def c_thinned_row : Fn := ⟨1, 3, (.cons (.ret (.b1 .tup (.compi (.nm 2) (.rng1 (.b1 .len (.var 0))) [1, 2] (.or (.cmp .eq (.var 2) (.lit (.int 0))) (.cmp .ne (.ix (.var 0) (.var 2)) (.ix (.var 0) (.bin .sub (.var 2) (.lit (.int 1)))))) (.ix (.var 0) (.var 2))))) .nil)⟩
def c_thinned_lasso : Fn := ⟨1, 6, (.cons (.asg (.tp (.cons (.nm 1) (.cons (.nm 2) .nil))) (.var 0)) (.cons (.asg (.nm 3) (.b1 .tup (.compi (.nm 5) (.rng1 (.b1 .len (.var 2))) [4, 5] (.cmp .ne (.ix (.var 2) (.var 5)) (.ix (.var 2) (.bin .sub (.var 5) (.lit (.int 1))))) (.ix (.var 2) (.var 5))))) (.cons (.ifs (.cmp .eq (.b1 .len (.var 3)) (.lit (.int 0))) (.cons (.asg (.nm 3) (.sl (.var 2) .no (.so (.lit (.int 1))))) .nil) .nil) (.cons (.ret (.call "least_lasso" (.cons (.tup (.cons (.call "thinned_row" (.cons (.bin .add (.var 1) (.var 2)) .nil)) (.cons (.var 3) .nil))) .nil))) .nil))))⟩
def c_rows_are_same : Fn := ⟨2, 2, (.cons (.ret (.cmp .eq (.call "least_lasso" (.cons (.var 0) .nil)) (.call "least_lasso" (.cons (.var 1) .nil)))) .nil)⟩
def c_begun_at_place : Fn := ⟨2, 5, (.cons (.asg (.tp (.cons (.nm 2) (.cons (.nm 3) .nil))) (.var 0)) (.cons (.ifs (.cmp .le (.var 1) (.b1 .len (.var 2))) (.cons (.ret (.call "least_lasso" (.cons (.tup (.cons (.sl (.var 2) (.so (.var 1)) .no) (.cons (.var 3) .nil))) .nil))) .nil) .nil) (.cons (.asg (.nm 4) (.bin .mod (.bin .sub (.var 1) (.b1 .len (.var 2))) (.b1 .len (.var 3)))) (.cons (.ret (.call "least_lasso" (.cons (.tup (.cons (.tup .nil) (.cons (.bin .add (.sl (.var 3) (.so (.var 4)) .no) (.sl (.var 3) .no (.so (.var 4)))) .nil))) .nil))) .nil))))⟩
def c_next_place_of_lasso : Fn := ⟨2, 4, (.cons (.asg (.tp (.cons (.nm 2) (.cons (.nm 3) .nil))) (.var 0)) (.cons (.ret (.ite (.cmp .lt (.bin .add (.var 1) (.lit (.int 1))) (.bin .add (.b1 .len (.var 2)) (.b1 .len (.var 3)))) (.bin .add (.var 1) (.lit (.int 1))) (.b1 .len (.var 2)))) .nil))⟩
def c_by_until : Fn := ⟨3, 5, (.cons (.asg (.nm 3) (.bin .mul (.lst (.cons (.lit (.bl false)) .nil)) (.b1 .len (.var 1)))) (.cons (.for_ (.nm 4) (.seq (.bin .mul (.sls (.rng false (.rng1 (.b1 .len (.var 1)))) .no .no (-1)) (.lit (.int 2)))) (.cons (.set (.var 3) (.var 4) (.or (.ix (.var 2) (.var 4)) (.and (.ix (.var 1) (.var 4)) (.ix (.var 3) (.call "next_place_of_lasso" (.cons (.var 0) (.cons (.var 4) .nil))))))) .nil)) (.cons (.ret (.var 3)) .nil)))⟩
def c_by_always : Fn := ⟨2, 4, (.cons (.asg (.nm 2) (.bin .mul (.lst (.cons (.lit (.bl true)) .nil)) (.b1 .len (.var 1)))) (.cons (.for_ (.nm 3) (.seq (.bin .mul (.sls (.rng false (.rng1 (.b1 .len (.var 1)))) .no .no (-1)) (.lit (.int 2)))) (.cons (.set (.var 2) (.var 3) (.and (.ix (.var 1) (.var 3)) (.ix (.var 2) (.call "next_place_of_lasso" (.cons (.var 0) (.cons (.var 3) .nil)))))) .nil)) (.cons (.ret (.var 2)) .nil)))⟩
def c_truths_of_parts : Fn := ⟨3, 6, (.cons (.ifs (.cmp .eq (.ix (.var 0) (.lit (.int 0))) (.lit (.str "always"))) (.cons (.ret (.call "by_always" (.cons (.var 1) (.cons (.ix (.var 2) (.lit (.int 0))) .nil)))) .nil) .nil) (.cons (.ifs (.cmp .eq (.ix (.var 0) (.lit (.int 0))) (.lit (.str "atlast"))) (.cons (.ret (.call "by_until" (.cons (.var 1) (.cons (.bin .mul (.lst (.cons (.lit (.bl true)) .nil)) (.b1 .len (.ix (.var 2) (.lit (.int 0))))) (.cons (.ix (.var 2) (.lit (.int 0))) .nil))))) .nil) .nil) (.cons (.ifs (.cmp .eq (.ix (.var 0) (.lit (.int 0))) (.lit (.str "until"))) (.cons (.ret (.call "by_until" (.cons (.var 1) (.cons (.ix (.var 2) (.lit (.int 0))) (.cons (.ix (.var 2) (.lit (.int 1))) .nil))))) .nil) .nil) (.cons (.ret (.comp (.nm 4) (.rng1 (.b1 .len (.ix (.var 2) (.lit (.int 0))))) [3, 4] (.call "joined_truths" (.cons (.var 0) (.cons (.comp (.nm 5) (.seq (.var 2)) [3, 5] (.ix (.var 5) (.var 4))) .nil))))) .nil))))⟩
def c_truth_table : Fn := ⟨2, 5, (.cons (.ifs (.call "is_of_moment" (.cons (.var 0) .nil)) (.cons (.ret (.comp (.nm 3) (.seq (.bin .add (.ix (.var 1) (.lit (.int 0))) (.ix (.var 1) (.lit (.int 1))))) [2, 3] (.call "holds_now" (.cons (.var 0) (.cons (.var 3) .nil))))) .nil) .nil) (.cons (.ret (.call "truths_of_parts" (.cons (.var 0) (.cons (.var 1) (.cons (.comp (.nm 4) (.seq (.call "parts_of_sentence" (.cons (.var 0) .nil))) [2, 4] (.call "truth_table" (.cons (.var 4) (.cons (.var 1) .nil)))) .nil))))) .nil))⟩
def c_truths_along : Fn := ⟨2, 4, (.cons (.ret (.b1 .tup (.comp (.nm 3) (.seq (.call "truth_table" (.cons (.var 0) (.cons (.var 1) .nil)))) [2, 3] (.b1 .int (.var 3))))) .nil)⟩
def c_holds_along : Fn := ⟨2, 2, (.cons (.ret (.ix (.call "truth_table" (.cons (.var 0) (.cons (.var 1) .nil))) (.lit (.int 0)))) .nil)⟩
structure TL (P : Prog) : Prop where
  it : P.fn "item_of_lasso" = some c_item_of_lasso
  sr : P.fn "shortest_ring" = some c_shortest_ring
  ll : P.fn "least_lasso" = some c_least_lasso
  tr : P.fn "thinned_row" = some c_thinned_row
  tl : P.fn "thinned_lasso" = some c_thinned_lasso
  rs : P.fn "rows_are_same" = some c_rows_are_same
  bp : P.fn "begun_at_place" = some c_begun_at_place
theorem shr_of {r : List Itm} {m : Nat} (h1 : ∀ j, j < m → ¬ (0 < j ∧ isPer r j = true)) (h2 : 0 < m) (h3 : isPer r m = true) (h4 : m < r.length) : shr r = r.take m := by
  have e : (List.range r.length).find? (fun m => decide (0 < m) && isPer r m) = some m := by
    rw [List.find?_range_eq_some]
    refine ⟨by simp [h2, h3], by rw [List.mem_range]; exact h4, fun j hj => ?_⟩
    have := h1 j hj
    by_cases z : 0 < j
    · have : ¬ isPer r j = true := fun e => h1 j hj ⟨z, e⟩
      simp [z, this]
    · simp [z]
  unfold shr
  rw [e]
theorem shr_no {r : List Itm} (h1 : ∀ j, j < r.length → ¬ (0 < j ∧ isPer r j = true)) : shr r = r := by
  have e : (List.range r.length).find? (fun m => decide (0 < m) && isPer r m) = none := by
    rw [List.find?_eq_none]
    intro j hj
    rw [List.mem_range] at hj
    have := h1 j hj
    simpa using this
  unfold shr
  rw [e]
section
variable {P : Prog} {L : Nat} {h : AH} {Q : D → AH → Prop} {X : Xc}
theorem item_f (hL : 1 ≤ L) (hf : P.fn "item_of_lasso" = some c_item_of_lasso) {l : Lso Itm} (r0 : 0 < l.r.length) {i : Nat} (q : Q (.tup (nL (row l i))) h) : wC P L "item_of_lasso" [lsD l, .int i] h Q X := by
  obtain ⟨n, rfl⟩ : ∃ n, L = n + 1 := ⟨L - 1, by omega⟩
  have r0' : (0 : Int) < (l.r.length : Int) := by omega
  refine wC_i hf rfl ?_
  simp [c_item_of_lasso, List.replicate]
  unfold row at q
  by_cases z : i < l.h.length
  · rw [if_pos z] at q
    simp [z, isD_at z]
    exact someQ_i q
  · rw [if_neg z] at q
    have e : ((i : Int) - (l.h.length : Int)) % (l.r.length : Int) = (((i - l.h.length) % l.r.length : Nat) : Int) := by
      rw [Int.natCast_emod, show ((i - l.h.length : Nat) : Int) = (i : Int) - (l.h.length : Int) by omega]
    simp [z, o_mod r0']
    rw [e]
    simp only [isD_at (Nat.mod_lt _ r0), gd_some, rv_v]
    exact someQ_i q
theorem item_i (hL : 1 ≤ L) (T : TL P) {l : Lso Itm} (r0 : 0 < l.r.length) {i : Nat} (q : Q (.tup (nL (row l i))) h) : wC P L "item_of_lasso" [lsD l, .int i] h Q X := item_f hL T.it r0 q
theorem shortest_i (hL : 1 ≤ L) (T : TL P) {r : List Itm} (rl : r.length ≤ 1000) (q : Q (.tup (isD (shr r))) h) : wC P L "shortest_ring" [.tup (isD r)] h Q X := by
  obtain ⟨n, rfl⟩ : ∃ n, L = n + 1 := ⟨L - 1, by omega⟩
  have s1 : small62 1 = true := by decide
  have s2 : small62 (r.length : Int) = true := by simp [small62]; omega
  have e1 : ((r.length : Int) - 1).toNat = r.length - 1 := by omega
  refine wC_i T.sr rfl ?_
  simp [-v_rB, c_shortest_ring, List.replicate, s1, s2, e1]
  refine for_f (fun i env h' => h' = h ∧ (∀ j, j < i + 1 → ¬ (0 < j ∧ isPer r j = true)) ∧ ∃ o, env = [some (.tup (isD r)), o]) ⟨rfl, fun j hj z => by omega, none, rfl⟩ ?_ ?_
  · rintro i x env h' N hx ⟨rfl, hi, o, rfl⟩ hN
    obtain ⟨hi2, rfl⟩ := rngL_at hx
    have em : (1 : Int) + (i : Int) = ((i + 1 : Nat) : Int) := by omega
    rw [em]
    have m0 : (0 : Int) < ((i + 1 : Nat) : Int) := by omega
    have m1 : ((i + 1 : Nat) : Int) < 1073741824 := by omega
    have em2 : (r.length : Int) % ((i + 1 : Nat) : Int) = ((r.length % (i + 1) : Nat) : Int) := by rw [Int.natCast_emod]
    have em3 : (r.length : Int) / ((i + 1 : Nat) : Int) = ((r.length / (i + 1) : Nat) : Int) := by rw [Int.natCast_ediv]
    have hd : r.length / (i + 1) ≤ r.length := Nat.div_le_self _ _
    have hle : (i + 1) * (r.length / (i + 1)) ≤ r.length := Nat.mul_div_le _ _
    have tl : (r.take (i + 1)).length = i + 1 := by simp; omega
    have nx : ∀ z : ¬ isPer r (i + 1) = true, ∀ j, j < i + 1 + 1 → ¬ (0 < j ∧ isPer r j = true) := fun z j hj c => by
      by_cases e : j = i + 1
      · subst e; exact z c.2
      · exact hi j (by omega) c
    simp only [v_cons, v_ifs, v_and, v_cmp, v_bin, v_b1, v_var, v_lit, v_lk0, v_lkS, v_tnm, gd_some, n_len_t, isD_len, o_mod m0, em2, k_eqi, v_sl, v_ono, v_oso, sl_t, v_asInt, cutT, isT, o_fdiv m0 m1, em3, t_bl, List.set_cons_succ, List.set_cons_zero]
    by_cases z : r.length % (i + 1) = 0
    · have z' : ((r.length % (i + 1) : Nat) : Int) = 0 := by omega
      simp only [z', decide_true, if_true]
      rw [o_mulT (by rw [isD_len, tl]; omega) (by omega), rept_is]
      simp only [gd_some, eqI, t_bl]
      by_cases z2 : r = rep (r.take (i + 1)) (r.length / (i + 1))
      · have ip : isPer r (i + 1) = true := by
          unfold isPer
          rw [Bool.and_eq_true]
          exact ⟨decide_eq_true z, decide_eq_true z2⟩
        rw [shr_of hi (by omega) ip (by omega)] at q
        simp only [decide_eq_true z2, if_true]
        simp only [v_ret, v_sl, v_var, v_lk0, v_lkS, gd_some, v_ono, v_oso, v_asInt, sl_t, cutT, isT, rv_v, v_rt, v_trt, v_krt]
        exact someQ_i q
      · have ip : ¬ isPer r (i + 1) = true := fun c => by
          unfold isPer at c
          rw [Bool.and_eq_true] at c
          exact z2 (of_decide_eq_true c.2)
        simp only [decide_eq_false z2, Bool.false_eq_true, if_false]
        simp
        exact hN _ _ ⟨rfl, nx ip, _, rfl⟩
    · have z' : ¬ ((r.length % (i + 1) : Nat) : Int) = 0 := by omega
      have ip : ¬ isPer r (i + 1) = true := fun c => by
        unfold isPer at c
        rw [Bool.and_eq_true] at c
        exact z (of_decide_eq_true c.1)
      simp only [decide_eq_false z', Bool.false_eq_true, if_false]
      simp
      exact hN _ _ ⟨rfl, nx ip, _, rfl⟩
  · rintro env h' ⟨rfl, hi, o, rfl⟩
    rw [rngL_length] at hi
    rw [shr_no fun j hj => hi j (by omega)] at q
    simp
    exact someQ_i q
theorem least_i (hL : 2 ≤ L) (T : TL P) {l : Lso Itm} (r0 : 0 < l.r.length) (hl : l.h.length ≤ 1000) (rl : l.r.length ≤ 1000) (q : Q (lsD (least l)) h) : wC P L "least_lasso" [lsD l] h Q X := by
  obtain ⟨n, rfl⟩ : ∃ n, L = n + 1 := ⟨L - 1, by omega⟩
  have sh := (shr_ok (h := l.h) r0).1
  have sl : (shr l.r).length ≤ l.r.length := by
    unfold shr
    split
    · simp; omega
    · exact Nat.le_refl _
  refine wC_i T.ll rfl ?_
  simp [-v_rB, c_least_lasso, List.replicate]
  rw [v_rB]
  simp [-v_rB]
  refine shortest_i (by omega) T rl ?_
  rw [v_rB]
  simp only [v_cons]
  refine whl_i (fun m env h' => h' = h ∧ ∃ l' : Lso Itm, m = l'.h.length ∧ turnB l'.h.length l' = least l ∧ 0 < l'.r.length ∧ l'.r.length ≤ 1000 ∧ l'.h.length ≤ 1000 ∧ env = [some (lsD l), some (.tup (isD l'.h)), some (.tup (isD l'.r))]) l.h.length ⟨rfl, ⟨l.h, shr l.r⟩, rfl, rfl, sh, by show (shr l.r).length ≤ 1000; omega, hl, rfl⟩ ?_
  rintro m env h' N ⟨rfl, l', rfl, et, r1, r2, hh, rfl⟩ hN
  by_cases z : 0 < l'.h.length
  · have z' : (0 : Int) < (l'.h.length : Int) := by omega
    have hn : l'.h ≠ [] := List.length_pos_iff.mp z
    obtain ⟨k, hk⟩ : ∃ k, l'.h.length = k + 1 := ⟨l'.h.length - 1, by omega⟩
    simp [-v_rB, z, z', isM1 z, isM1 r1, eqN, hn]
    by_cases c : gt l'.h (l'.h.length - 1) = gt l'.r (l'.r.length - 1)
    · have et2 : turnB k ⟨l'.h.take (l'.h.length - 1), gt l'.r (l'.r.length - 1) :: l'.r.take (l'.r.length - 1)⟩ = least l := by
        rw [hk] at et
        unfold turnB at et
        rw [if_pos ⟨hn, c⟩] at et
        exact et
      have dr : l'.r.drop (l'.r.length - 1) = [gt l'.r (l'.r.length - 1)] := by
        rw [List.drop_eq_getElem_cons (by omega), gt_get (by omega)]
        have : l'.r.length - 1 + 1 = l'.r.length := by omega
        rw [this, List.drop_of_length_le (Nat.le_refl _)]
      have tl1 : (isD l'.r).length = l'.r.length := isD_len _
      have l1 : ((isD l'.r).drop (l'.r.length - 1)).length + ((isD l'.r).take (l'.r.length - 1)).length ≤ 16777216 := by simp; omega
      simp [-v_rB, c, cutM (xs := isD l'.h) (by rw [isD_len]; exact z), cutM (xs := isD l'.r) (by rw [isD_len]; exact r1), cutE (xs := isD l'.r) (by rw [isD_len]; exact r1)]
      rw [o_addt l1, isT, isDr, isT, dr]
      simp
      refine hN k _ _ (by omega) ⟨rfl, ⟨l'.h.take (l'.h.length - 1), gt l'.r (l'.r.length - 1) :: l'.r.take (l'.r.length - 1)⟩, by simp; omega, ?_, by simp, by simp; omega, by simp; omega, by simp [isD]⟩
      have : (l'.h.take (l'.h.length - 1)).length = k := by simp; omega
      simp only [this]
      exact et2
    · have et2 : l' = least l := by
        rw [hk] at et
        unfold turnB at et
        rw [if_neg (fun a => c a.2)] at et
        exact et
      simp [c]
      rw [← et2] at q
      exact someQ_i q
  · have z' : ¬ (0 : Int) < (l'.h.length : Int) := by omega
    have hk : l'.h.length = 0 := by omega
    have hn : l'.h = [] := List.eq_nil_of_length_eq_zero hk
    have et2 : l' = least l := by
      rw [hk] at et
      exact et
    simp [z, z', hn]
    rw [← et2] at q
    unfold lsD at q
    rw [hn] at q
    exact someQ_i q
end
end Las
end Py
namespace Py
open PySem (Str)
namespace Las
def c__law_unrolled : Fn := ⟨2, 6, (.cons (.asg (.tp (.cons (.nm 2) (.cons (.nm 3) .nil))) (.var 0)) (.cons (.asg (.nm 4) (.lst .nil)) (.cons (.for_ (.nm 5) (.rng1 (.var 1)) (.cons (.expr (.mt .append (.var 4) (.cons (.ite (.cmp .lt (.var 5) (.b1 .len (.var 2))) (.ix (.var 2) (.var 5)) (.ix (.var 3) (.bin .mod (.bin .sub (.var 5) (.b1 .len (.var 2))) (.b1 .len (.var 3))))) .nil))) .nil)) (.cons (.ret (.b1 .tup (.var 4))) .nil))))⟩
def c__law_least : Fn := ⟨1, 5, (.cons (.asg (.nm 1) (.call "_law_unrolled" (.cons (.var 0) (.cons (.lit (.int 60)) .nil)))) (.cons (.for_ (.nm 2) (.rng2 (.lit (.int 1)) (.bin .add (.b1 .len (.ix (.var 0) (.lit (.int 1)))) (.lit (.int 1)))) (.cons (.for_ (.nm 3) (.rng1 (.bin .add (.b1 .len (.ix (.var 0) (.lit (.int 0)))) (.lit (.int 1)))) (.cons (.asg (.nm 4) (.tup (.cons (.sl (.var 1) .no (.so (.var 3))) (.cons (.sl (.var 1) (.so (.var 3)) (.so (.bin .add (.var 3) (.var 2)))) .nil)))) (.cons (.ifs (.cmp .eq (.call "_law_unrolled" (.cons (.var 4) (.cons (.lit (.int 60)) .nil))) (.var 1)) (.cons (.ret (.var 4)) .nil) .nil) .nil))) .nil)) (.cons (.ret (.var 0)) .nil)))⟩
def c__law_thinned : Fn := ⟨1, 3, (.cons (.ret (.b1 .tup (.compi (.nm 2) (.rng1 (.b1 .len (.var 0))) [1, 2] (.or (.cmp .eq (.var 2) (.lit (.int 0))) (.cmp .ne (.ix (.var 0) (.var 2)) (.ix (.var 0) (.bin .sub (.var 2) (.lit (.int 1)))))) (.ix (.var 0) (.var 2))))) .nil)⟩
def c__law_is_thinned : Fn := ⟨2, 8, (.cons (.asg (.tp (.cons (.nm 2) (.cons (.nm 3) .nil))) (.var 1)) (.cons (.asg (.nm 4) (.bin .add (.bin .add (.var 2) (.var 3)) (.sl (.var 3) .no (.so (.lit (.int 1)))))) (.cons (.ifs (.or (.cmp .gt (.b1 .len (.compi (.nm 7) (.rng2 (.lit (.int 1)) (.b1 .len (.var 4))) [6, 7] (.cmp .eq (.ix (.var 4) (.var 7)) (.ix (.var 4) (.bin .sub (.var 7) (.lit (.int 1))))) (.var 7))) (.b1 .int (.cmp .eq (.b1 .len (.var 3)) (.lit (.int 1))))) (.cmp .ne (.call "_law_least" (.cons (.var 1) .nil)) (.var 1))) (.cons (.ret (.lit (.bl false))) .nil) .nil) (.cons (.asg (.nm 5) (.call "_law_thinned" (.cons (.call "_law_unrolled" (.cons (.var 0) (.cons (.lit (.int 60)) .nil))) .nil))) (.cons (.ifs (.cmp .eq (.b1 .len (.var 3)) (.lit (.int 1))) (.cons (.ret (.cmp .eq (.var 5) (.bin .add (.var 2) (.var 3)))) .nil) .nil) (.cons (.ret (.cmp .eq (.var 5) (.call "_law_unrolled" (.cons (.var 1) (.cons (.b1 .len (.var 5)) .nil))))) .nil))))))⟩
structure TM (P : Prog) : Prop where
  un : P.fn "_law_unrolled" = some c__law_unrolled
  le : P.fn "_law_least" = some c__law_least
  th : P.fn "_law_thinned" = some c__law_thinned
  ith : P.fn "_law_is_thinned" = some c__law_is_thinned
def begL (l : Lso Itm) (p : Nat) : Lso Itm := if p ≤ l.h.length then ⟨l.h.drop p, l.r⟩ else ⟨[], l.r.drop ((p - l.h.length) % l.r.length) ++ l.r.take ((p - l.h.length) % l.r.length)⟩
theorem gt_drop {α : Type} [Inhabited α] {xs : List α} {p i : Nat} : gt (xs.drop p) i = gt xs (p + i) := by simp [gt]
theorem begL_row {l : Lso Itm} (r0 : 0 < l.r.length) (p i : Nat) : row (begL l p) i = row l (p + i) := by
  unfold begL
  split
  · rename_i h
    by_cases z : i < l.h.length - p
    · rw [row_h (by simpa using z), row_h (by omega)]
      exact gt_drop
    · obtain ⟨k, rfl⟩ : ∃ k, i = (l.h.length - p) + k := ⟨i - (l.h.length - p), by omega⟩
      have e := row_r (l := (⟨l.h.drop p, l.r⟩ : Lso Itm)) k
      simp only [List.length_drop] at e
      rw [e, show p + (l.h.length - p + k) = l.h.length + k by omega, row_r]
  · rename_i h
    obtain ⟨t, ht⟩ : ∃ t, p - l.h.length = t := ⟨_, rfl⟩
    rw [ht]
    have tm := Nat.mod_lt t r0
    have ln : (l.r.drop (t % l.r.length) ++ l.r.take (t % l.r.length)).length = l.r.length := by simp; omega
    have e := row_r (l := (⟨[], l.r.drop (t % l.r.length) ++ l.r.take (t % l.r.length)⟩ : Lso Itm)) i
    simp only [List.length_nil, Nat.zero_add, ln] at e
    rw [e, show p + i = l.h.length + (t + i) by omega, row_r]
    have im := Nat.mod_lt i r0
    have key : (t + i) % l.r.length = if i % l.r.length < l.r.length - t % l.r.length then t % l.r.length + i % l.r.length else i % l.r.length - (l.r.length - t % l.r.length) := by
      rw [Nat.add_mod]
      split
      · exact Nat.mod_eq_of_lt (by omega)
      · rw [Nat.mod_eq_sub_mod (by omega), Nat.mod_eq_of_lt (by omega)]
        omega
    rw [key]
    split
    · rename_i h2
      have : gt (l.r.drop (t % l.r.length) ++ l.r.take (t % l.r.length)) (i % l.r.length) = gt (l.r.drop (t % l.r.length)) (i % l.r.length) := by
        unfold gt
        rw [List.getElem?_append_left (by simp; omega)]
      rw [this, gt_drop]
    · rename_i h2
      have : gt (l.r.drop (t % l.r.length) ++ l.r.take (t % l.r.length)) (i % l.r.length) = gt (l.r.take (t % l.r.length)) (i % l.r.length - (l.r.length - t % l.r.length)) := by
        unfold gt
        rw [List.getElem?_append_right (by simp; omega)]
        simp
      rw [this, gt_take (by omega) (by omega)]
theorem begL_r {l : Lso Itm} (r0 : 0 < l.r.length) (p : Nat) : (begL l p).r.length = l.r.length ∧ (begL l p).h.length ≤ l.h.length := by
  unfold begL
  have tm := Nat.mod_lt (p - l.h.length) r0
  split
  · simp
  · simp; omega
section
variable {P : Prog} {L : Nat} {h : AH} {Q : D → AH → Prop} {X : Xc}
theorem thin_c {n : Nat} {env : Env} {h : AH} {Q : List D → AH → Prop} {xs : List Itm} (xl : xs.length ≤ 100000) (h0 : ∀ d : D, lk ((wipe env [1, 2]).set 2 (some d)) 0 = some (.tup (isD xs))) (h2 : ∀ d : D, lk ((wipe env [1, 2]).set 2 (some d)) 2 = some d) (q : Q (isD (thin xs)) h) :
    CompiG (wC P n) P.gl (.nm 2) [1, 2] (.or (.cmp .eq (.var 2) (.lit (.int 0))) (.cmp .ne (.ix (.var 0) (.var 2)) (.ix (.var 0) (.bin .sub (.var 2) (.lit (.int 1)))))) (.ix (.var 0) (.var 2)) env (.fix (rngL 0 xs.length)) h Q := by
  refine compi_m (fun x => decide ((dI x).toNat = 0) || !decide (gt xs (dI x).toNat = gt xs ((dI x).toNat - 1))) (fun x => .tup (nL (gt xs (dI x).toNat))) trivial (by simp; omega) (fun x hx k hk => ?_) ?_
  · obtain ⟨c, hc, rfl⟩ := rngL_mem hx
    simp only [Int.zero_add, dI_int, Int.toNat_natCast] at hk
    simp only [v_tnm, v_or, v_cmp, v_var, v_lit, h2, h0, gd_some, Int.zero_add, k_eqi, t_bl]
    by_cases z : c = 0
    · subst z
      have e0 : atI (isD xs) 0 = some (.tup (nL (gt xs 0))) := isD_at (i := 0) hc
      simp only [decide_true, Bool.true_or, if_true] at hk
      simp [h0, h2, e0]
      exact hk
    · have z' : ¬ (c : Int) = 0 := by omega
      have e1 : (c : Int) - 1 = ((c - 1 : Nat) : Int) := by omega
      simp only [decide_eq_false z, Bool.false_or] at hk
      simp only [decide_eq_false z', Bool.false_eq_true, if_false, v_ix, v_var, v_bin, v_lit, h0, h2, gd_some, x_t, isD_at hc, o_sub, e1, isD_at (show c - 1 < xs.length by omega), neN, t_bl]
      by_cases w : gt xs c = gt xs (c - 1)
      · simp only [decide_eq_true w, Bool.not_true, Bool.false_eq_true, if_false] at hk ⊢
        exact hk
      · simp only [decide_eq_false w, Bool.not_false, if_true] at hk ⊢
        simp only [rv_v]
        exact hk
  · have e : ((rngL 0 xs.length).filter fun x => decide ((dI x).toNat = 0) || !decide (gt xs (dI x).toNat = gt xs ((dI x).toNat - 1))).map (fun x => D.tup (nL (gt xs (dI x).toNat))) = isD (thin xs) := by
      rw [thin_pl]
      unfold rngL isD
      rw [List.filter_map, List.map_map, List.map_map]
      simp [Function.comp_def]
      first | rfl | congr
    simp only [v_fixi, e]
    exact q
theorem throw_i (hL : 1 ≤ L) (T : TL P) {xs : List Itm} (xl : xs.length ≤ 100000) (q : Q (.tup (isD (thin xs))) h) : wC P L "thinned_row" [.tup (isD xs)] h Q X := by
  obtain ⟨n, rfl⟩ : ∃ n, L = n + 1 := ⟨L - 1, by omega⟩
  have s1 : small62 (xs.length : Int) = true := by simp [small62]; omega
  refine wC_i T.tr rfl ?_
  simp [c_thinned_row, List.replicate, s1]
  refine thin_c xl (fun d => by simp [wipe]) (fun d => by simp [wipe]) ?_
  try simp
  exact someQ_i q
theorem lthin_i (hL : 1 ≤ L) (T : TM P) {xs : List Itm} (xl : xs.length ≤ 100000) (q : Q (.tup (isD (thin xs))) h) : wC P L "_law_thinned" [.tup (isD xs)] h Q X := by
  obtain ⟨n, rfl⟩ : ∃ n, L = n + 1 := ⟨L - 1, by omega⟩
  have s1 : small62 (xs.length : Int) = true := by simp [small62]; omega
  refine wC_i T.th rfl ?_
  simp [c__law_thinned, List.replicate, s1]
  refine thin_c xl (fun d => by simp [wipe]) (fun d => by simp [wipe]) ?_
  try simp
  exact someQ_i q
theorem gain_le {α : Type} [DecidableEq α] : ∀ (x : α) (r : List α), (gain x r).length ≤ r.length
  | _, [] => Nat.le_refl _
  | x, y :: r => by
    have := gain_le y r
    simp only [gain, List.length_append, List.length_cons]
    split <;> simp <;> omega
theorem thin_le {α : Type} [DecidableEq α] : ∀ (l : List α), (thin l).length ≤ l.length
  | [] => Nat.le_refl _
  | x :: r => by
    have := gain_le x r
    simp only [thin, List.length_cons]
    omega
theorem thinl_i (hL : 3 ≤ L) (T : TL P) {l : Lso Itm} (r0 : 0 < l.r.length) (hl : l.h.length ≤ 400) (rl : l.r.length ≤ 400) (q : Q (lsD (least (thinL l))) h) : wC P L "thinned_lasso" [lsD l] h Q X := by
  obtain ⟨n, rfl⟩ : ∃ n, L = n + 1 := ⟨L - 1, by omega⟩
  have s1 : small62 (l.r.length : Int) = true := by simp [small62]; omega
  have rn : l.r ≠ [] := List.length_pos_iff.mp r0
  have tle := thin_le (l.h ++ l.r)
  have gle := gain_le (lastD default l.r) l.r
  simp only [List.length_append] at tle
  have el : lastD default l.r = gt l.r (l.r.length - 1) := lastD_gt _ rn
  refine wC_i T.tl rfl ?_
  simp [-v_rB, c_thinned_lasso, List.replicate]
  rw [v_rB]
  simp [-v_rB, s1]
  refine compi_m (fun x => !decide (gt l.r (dI x).toNat = if (dI x).toNat = 0 then lastD default l.r else gt l.r ((dI x).toNat - 1))) (fun x => .tup (nL (gt l.r (dI x).toNat))) trivial (by simp; omega) (fun x hx k hk => ?_) ?_
  · obtain ⟨c, hc, rfl⟩ := rngL_mem hx
    simp only [Int.zero_add, dI_int, Int.toNat_natCast] at hk
    by_cases z : c = 0
    · subst z
      have e0 : atI (isD l.r) 0 = some (.tup (nL (gt l.r 0))) := isD_at (i := 0) hc
      simp only [if_true, el] at hk
      simp [wipe, e0, isM1 r0, neN]
      by_cases w : gt l.r 0 = gt l.r (l.r.length - 1)
      · simp only [decide_eq_true w, Bool.not_true, Bool.false_eq_true, if_false] at hk
        simp [w]
        exact hk
      · simp only [decide_eq_false w, Bool.not_false, if_true] at hk
        simp [w]
        exact hk
    · have e1 : (c : Int) - 1 = ((c - 1 : Nat) : Int) := by omega
      simp only [if_neg z] at hk
      simp only [v_tnm, v_cmp, v_ix, v_var, v_bin, v_lit, Int.zero_add]
      simp [wipe, isD_at hc]
      rw [e1]
      simp only [isD_at (show c - 1 < l.r.length by omega), gd_some, neN, t_bl]
      by_cases w : gt l.r c = gt l.r (c - 1)
      · simp only [decide_eq_true w, Bool.not_true, Bool.false_eq_true, if_false] at hk ⊢
        simpa using hk
      · simp only [decide_eq_false w, Bool.not_false, if_true] at hk ⊢
        simpa using hk
  · have e : ((rngL 0 l.r.length).filter fun x => !decide (gt l.r (dI x).toNat = if (dI x).toNat = 0 then lastD default l.r else gt l.r ((dI x).toNat - 1))).map (fun x => D.tup (nL (gt l.r (dI x).toNat))) = isD (gain (lastD default l.r) l.r) := by
      rw [gain_pl]
      unfold rngL isD
      rw [List.filter_map, List.map_map, List.map_map]
      simp [Function.comp_def]
    simp only [v_fixi, e]
    try simp [-v_rB]
    rw [v_rB]
    have fin : ∀ rr : List Itm, (thinL l).r = rr → 0 < rr.length → rr.length ≤ 400 → wC P n "least_lasso" [lsD ⟨thin (l.h ++ l.r), rr⟩] h (someQ Q) (someX X) := fun rr e1 e2 e3 => by
      have et : thinL l = ⟨thin (l.h ++ l.r), rr⟩ := by rw [← e1]; rfl
      refine least_i (by omega) T e2 (by show (thin (l.h ++ l.r)).length ≤ 1000; omega) (by show rr.length ≤ 1000; omega) ?_
      rw [← et]
      exact someQ_i q
    have l1 : l.h.length + l.r.length ≤ 16777216 := by omega
    by_cases z : gain (lastD default l.r) l.r = []
    · have er : (thinL l).r = l.r.take 1 := if_pos z
      have ec : cut (isD l.r) none (some 1) = isD (l.r.take 1) := by
        have := cutT (isD l.r) 1
        rw [isT] at this
        exact this
      simp [-v_rB, z, ec]
      rw [v_rB]
      simp [l1, isD_app]
      refine throw_i (by omega) T (by simp; omega) ?_
      try simp
      exact fin _ er (by simp; omega) (by simp; omega)
    · have er : (thinL l).r = gain (lastD default l.r) l.r := if_neg z
      have gz : ¬ ((gain (lastD default l.r) l.r).length : Int) = 0 := by
        have := List.length_pos_iff.mpr z
        omega
      simp [-v_rB, z, gz]
      rw [v_rB]
      simp [l1, isD_app]
      refine throw_i (by omega) T (by simp; omega) ?_
      try simp
      exact fin _ er (List.length_pos_iff.mpr z) (by omega)
theorem rsame_i (hL : 3 ≤ L) (T : TL P) {l m : Lso Itm} (r0 : 0 < l.r.length) (hl : l.h.length ≤ 400) (rl : l.r.length ≤ 400) (m0 : 0 < m.r.length) (hm : m.h.length ≤ 400) (rm : m.r.length ≤ 400) (q : Q (.bl (decide (least l = least m))) h) : wC P L "rows_are_same" [lsD l, lsD m] h Q X := by
  obtain ⟨n, rfl⟩ : ∃ n, L = n + 1 := ⟨L - 1, by omega⟩
  refine wC_i T.rs rfl ?_
  simp [c_rows_are_same, List.replicate]
  refine least_i (by omega) T r0 (by omega) (by omega) ?_
  try simp
  refine least_i (by omega) T m0 (by omega) (by omega) ?_
  simp [eqL]
  exact someQ_i q
theorem begun_i (hL : 3 ≤ L) (T : TL P) {l : Lso Itm} (r0 : 0 < l.r.length) (hl : l.h.length ≤ 400) (rl : l.r.length ≤ 400) {p : Nat} (q : Q (lsD (least (begL l p))) h) : wC P L "begun_at_place" [lsD l, .int p] h Q X := by
  obtain ⟨n, rfl⟩ : ∃ n, L = n + 1 := ⟨L - 1, by omega⟩
  obtain ⟨b1, b2⟩ := begL_r r0 p
  have r0' : (0 : Int) < (l.r.length : Int) := by omega
  have fin : ∀ m : Lso Itm, begL l p = m → wC P n "least_lasso" [lsD m] h (someQ Q) (someX X) := fun m e => by
    rw [e] at b1 b2 q
    refine least_i (by omega) T (by omega) (by omega) (by omega) ?_
    exact someQ_i q
  refine wC_i T.bp rfl ?_
  simp [-v_rB, c_begun_at_place, List.replicate]
  rw [v_rB]
  by_cases z : p ≤ l.h.length
  · have e : begL l p = ⟨l.h.drop p, l.r⟩ := if_pos z
    simp [z, cutDr, isDr]
    exact fin _ e
  · have e : begL l p = ⟨[], l.r.drop ((p - l.h.length) % l.r.length) ++ l.r.take ((p - l.h.length) % l.r.length)⟩ := if_neg z
    have em : ((p : Int) - (l.h.length : Int)) % (l.r.length : Int) = (((p - l.h.length) % l.r.length : Nat) : Int) := by
      rw [Int.natCast_emod, show ((p - l.h.length : Nat) : Int) = (p : Int) - (l.h.length : Int) by omega]
    have tm := Nat.mod_lt (p - l.h.length) r0
    generalize (p - l.h.length) % l.r.length = t at *
    have l1 : (isD (l.r.drop t)).length + (isD (l.r.take t)).length ≤ 16777216 := by simp; omega
    simp [-v_rB, z]
    rw [v_rB]
    simp only [v_cons, v_asg, v_bin, v_var, v_b1, v_lk0, v_lkS, gd_some, n_len_t, isD_len, o_sub, o_mod r0', em, rv_v, v_tnm, List.set_cons_succ, List.set_cons_zero]
    rw [v_nx, v_rB]
    simp only [v_cons, v_ret, v_call, v_esc, v_esn, v_tup, v_sl, v_bin, v_var, v_lk0, v_lkS, gd_some, v_ono, v_oso, v_asInt, sl_t, cutT, cutDr, isT, isDr, rv_v, o_addt l1, isD_app]
    refine ⟨by simp, by simp, ?_⟩
    exact fin _ e
end
end Las
end Py
namespace Py
open PySem (Str)
namespace Las
theorem cut_un {α : Type} {f : Nat → α} {N a b : Nat} (h : b ≤ N) (hab : a ≤ b) : ((un f N).drop a).take (b - a) = (List.range (b - a)).map fun k => f (a + k) := by
  apply List.ext_getElem
  · simp [un]; omega
  · intro t h1 h2
    simp [un]
section
variable {P : Prog} {L : Nat} {h : AH} {Q : D → AH → Prop} {X : Xc}
theorem unr_i (hL : 1 ≤ L) (T : TM P) {l : Lso Itm} (r0 : 0 < l.r.length) {m : Nat} (hm : m ≤ 1000) (q : Q (.tup (isD (un (row l) m))) h) : wC P L "_law_unrolled" [lsD l, .int m] h Q X := by
  obtain ⟨n, rfl⟩ : ∃ n, L = n + 1 := ⟨L - 1, by omega⟩
  have s1 : small62 (m : Int) = true := by simp [small62]; omega
  have r0' : (0 : Int) < (l.r.length : Int) := by omega
  refine wC_i T.un rfl ?_
  simp [-v_rB, c__law_unrolled, List.replicate]
  rw [v_rB]
  simp [-v_rB]
  intro a na
  rw [v_rB]
  simp [-v_rB, s1]
  refine for_f (fun i env h' => ∃ o, h' = put h a (.lst (isD (un (row l) i))) ∧ env = [some (lsD l), some (.int m), some (.tup (isD l.h)), some (.tup (isD l.r)), some (.loc a), o]) ⟨none, rfl, rfl⟩ ?_ ?_
  · rintro i x env h' N hx ⟨o, rfl, rfl⟩ hN
    obtain ⟨hi, rfl⟩ := rngL_at hx
    have hi' : i < m := by simpa using hi
    have cap : (isD (un (row l) i)).length < 16777216 := by rw [isD_len, un_len]; omega
    have es : isD (un (row l) i) ++ [.tup (nL (row l i))] = isD (un (row l) (i + 1)) := by rw [un_succ]; simp [isD]
    have pp : put (put h a (.lst (isD (un (row l) i)))) a (.lst (isD (un (row l) (i + 1)))) = put h a (.lst (isD (un (row l) (i + 1)))) := by simp
    by_cases z : i < l.h.length
    · have er : row l i = gt l.h i := row_h z
      simp [q_app put_self, z, isD_at z]
      rw [m_app put_self cap, ← er, es]
      simp
      exact hN _ _ ⟨_, rfl, rfl⟩
    · have er : row l i = gt l.r ((i - l.h.length) % l.r.length) := by unfold row; rw [if_neg z]
      have em : ((i : Int) - (l.h.length : Int)) % (l.r.length : Int) = (((i - l.h.length) % l.r.length : Nat) : Int) := by
        rw [Int.natCast_emod, show ((i - l.h.length : Nat) : Int) = (i : Int) - (l.h.length : Int) by omega]
      simp [q_app put_self, z, o_mod r0']
      rw [em, isD_at (Nat.mod_lt _ r0)]
      simp
      rw [m_app put_self cap, ← er, es]
      simp
      exact hN _ _ ⟨_, rfl, rfl⟩
  · rintro env h' ⟨o, rfl, rfl⟩
    rw [rngL_length]
    rw [v_nx, v_rB]
    simp
    exact someQ_s (sub_put na) q
theorem lleast_i (hL : 2 ≤ L) (T : TM P) {l : Lso Itm} (r0 : 0 < l.r.length) (b : l.h.length + 2 * l.r.length ≤ 60) (q : Q (lsD (least l)) h) : wC P L "_law_least" [lsD l] h Q X := by
  obtain ⟨n, rfl⟩ : ∃ n, L = n + 1 := ⟨L - 1, by omega⟩
  have s1 : small62 1 = true := by decide
  have s2 : small62 ((l.r.length : Int) + 1) = true := by simp [small62]; omega
  have s3 : small62 ((l.h.length : Int) + 1) = true := by simp [small62]; omega
  have e1 : ((l.r.length : Int) + 1 - 1).toNat = l.r.length := by omega
  have e2 : ((l.h.length : Int) + 1).toNat = l.h.length + 1 := by omega
  have e3 : (l.r.length : Int) + 1 - 1 = (l.r.length : Int) := by omega
  refine wC_i T.le rfl ?_
  simp [-v_rB, c__law_least, List.replicate]
  refine unr_i (by omega) T r0 (m := 60) (by decide) ?_
  rw [v_rB]
  simp [-v_rB, s1, s2, e1, e3]
  refine for_f (fun i env h' => h' = h ∧ (∀ q b, 0 < q → q ≤ i → b ≤ l.h.length → ¬ Per (row l) q b) ∧ ∃ o2 o3 o4, env = [some (lsD l), some (.tup (isD (un (row l) 60))), o2, o3, o4]) ⟨rfl, fun q b a c => by omega, none, none, none, rfl⟩ ?_ ?_
  · rintro i x env h' N hx ⟨rfl, hi, o2, o3, o4, rfl⟩ hN
    obtain ⟨hi2, rfl⟩ := rngL_at hx
    have hi3 : i < l.r.length := by simpa using hi2
    have em : (1 : Int) + (i : Int) = ((i + 1 : Nat) : Int) := by omega
    rw [em]
    simp only [v_tnm, List.set_cons_succ, List.set_cons_zero, v_cons, v_for, v_ir1, v_bin, v_b1, v_ix, v_var, v_lit, v_lk0, v_lkS, gd_some, ls0, n_len_t, isD_len, o_add, v_asInt, s3, e2]
    refine ⟨trivial, ?_⟩
    refine for_f (fun j env h2 => h2 = h' ∧ (∀ b, b < j → ¬ Per (row l) (i + 1) b) ∧ ∃ o3 o4, env = [some (lsD l), some (.tup (isD (un (row l) 60))), some (.int (i + 1 : Nat)), o3, o4]) ⟨rfl, fun b hb => by omega, o3, o4, rfl⟩ ?_ ?_
    · rintro j y env h2 N2 hy ⟨rfl, hj, o3, o4, rfl⟩ hN2
      obtain ⟨hj2, rfl⟩ := rngL_at hy
      have hj3 : j ≤ l.h.length := by omega
      rw [Int.zero_add]
      have c1 : cut (isD (un (row l) 60)) none (some (j : Int)) = isD (cutL (row l) j (i + 1)).h := by
        rw [cutT, isT, take_un (by omega)]
        rfl
      have c2 : cut (isD (un (row l) 60)) (some (j : Int)) (some ((j + (i + 1) : Nat) : Int)) = isD (cutL (row l) j (i + 1)).r := by
        rw [cutB _ (by rw [isD_len, un_len]; omega) (by omega), isDr, isT, cut_un (by omega) (by omega)]
        show isD _ = isD ((List.range (i + 1)).map fun k => row l (j + k))
        rw [show j + (i + 1) - j = i + 1 by omega]
      have ea : (j : Int) + ((i + 1 : Nat) : Int) = ((j + (i + 1) : Nat) : Int) := by omega
      have rc : (cutL (row l) j (i + 1)).r.length = i + 1 := by simp [cutL]
      have et : D.tup [.tup (isD (cutL (row l) j (i + 1)).h), .tup (isD (cutL (row l) j (i + 1)).r)] = lsD (cutL (row l) j (i + 1)) := rfl
      simp only [v_tnm, List.set_cons_succ, List.set_cons_zero, v_cons, v_asg, v_tup, v_esc, v_esn, v_sl, v_bin, v_var, v_lk0, v_lkS, gd_some, v_ono, v_oso, v_asInt, sl_t, o_add, ea, c1, c2, rv_v, et]
      refine ⟨by simp, ?_⟩
      rw [v_nx, v_rB]
      simp [-v_rB]
      refine unr_i (by omega) T (by rw [rc]; omega) (m := 60) (by decide) ?_
      have ti := test_iff (l := l) (a := j) (p := i + 1) r0 (by omega) hj3 (by omega) b
      by_cases z : Per (row l) (i + 1) j
      · have eu := ti.mpr z
        have L1 : Lst (row l) (cutL (row l) j (i + 1)) := cut_lst row_per r0 (by omega) z hj3 (fun q b q0 hb hq => by
          by_cases c : i + 1 ≤ q
          · exact c
          · exact absurd hq (hi q b q0 (by omega) hb)) hj
        have el := least_eq r0 L1
        simp [eqI, eu]
        rw [el]
        exact someQ_i q
      · have eu : ¬ un (row (cutL (row l) j (i + 1))) 60 = un (row l) 60 := fun c => z (ti.mp c)
        simp [eqI, eu]
        exact hN2 _ _ ⟨rfl, fun b hb => by
          by_cases c : b = j
          · subst c; exact z
          · exact hj b (by omega), _, _, rfl⟩
    · rintro env h2 ⟨rfl, hj, o3, o4, rfl⟩
      rw [rngL_length] at hj
      simp
      refine hN _ _ ⟨rfl, fun q b q0 qi hb => ?_, _, _, _, rfl⟩
      by_cases c : q = i + 1
      · subst c; exact hj b (by omega)
      · exact hi q b q0 (by omega) hb
  · rintro env h' ⟨rfl, hi, o2, o3, o4, rfl⟩
    rw [rngL_length] at hi
    exact absurd row_per (hi l.r.length l.h.length r0 (Nat.le_refl _) (Nat.le_refl _))
theorem lthd_i (hL : 3 ≤ L) (T : TM P) {l : Lso Itm} (r0 : 0 < l.r.length) (hl : l.h.length + l.r.length ≤ 20) (q : Q (.bl true) h) : wC P L "_law_is_thinned" [lsD l, lsD (least (thinL l))] h Q X := by
  obtain ⟨n, rfl⟩ : ∃ n, L = n + 1 := ⟨L - 1, by omega⟩
  have Lt := least_ok (thinL_r r0)
  have t0 := Lt.r
  have lle := least_len (thinL_r r0)
  have t1 : (thinL l).h.length ≤ 20 := by
    have := thin_le (l.h ++ l.r)
    simp only [List.length_append] at this
    show (thin (l.h ++ l.r)).length ≤ 20
    omega
  have t2 : (thinL l).r.length ≤ 20 := by
    have := gain_le (lastD default l.r) l.r
    unfold thinL
    split
    · simp; omega
    · simp only; omega
  have el : least (least (thinL l)) = least (thinL l) := (least_eq t0 (by
    have e : row (least (thinL l)) = row (thinL l) := funext Lt.e
    rw [e]; exact Lt)).symm
  have er : row (least (thinL l)) = row (thinL l) := funext Lt.e
  have dup := dups r0 (l := l)
  have d1 := due_one r0 (l := l) (n := 60)
  have d2 := thin_un r0 (l := l) 60
  rw [← er] at d2 dup
  have dl := thin_le (un (row l) 60)
  rw [un_len] at dl
  generalize least (thinL l) = m at *
  have s1 : small62 1 = true := by decide
  have s2 : small62 ((m.h.length : Int) + ((m.r.length : Int) + 1)) = true := by simp [small62]; omega
  have l1 : m.h.length + m.r.length ≤ 16777216 := by omega
  have tk : m.r.take 1 = [gt m.r 0] := by
    cases e : m.r with
    | nil => rw [e] at t0; simp at t0
    | cons x r => rfl
  have ec : cut (isD m.r) none (some 1) = isD [gt m.r 0] := by
    have := cutT (isD m.r) 1
    rw [isT, tk] at this
    exact this
  have eu : m.h ++ m.r ++ [gt m.r 0] = un (row m) (m.h.length + m.r.length + 1) := by
    rw [un_succ]
    have := un_rep t0 1
    rw [Nat.mul_one] at this
    rw [this, row_r, Nat.mod_self]
    simp [rep]
  have ln : (m.h ++ m.r ++ [gt m.r 0]).length = m.h.length + m.r.length + 1 := by simp; omega
  refine wC_i T.ith rfl ?_
  simp [-v_rB, c__law_is_thinned, List.replicate]
  rw [v_rB]
  have l2 : (isD (m.h ++ m.r)).length + (isD [gt m.r 0]).length ≤ 16777216 := by simp; omega
  have l3 : (isD m.h).length + (isD m.r).length ≤ 16777216 := by simp; omega
  simp only [v_cons, v_asg, v_bin, v_sl, v_var, v_lit, v_lk0, v_lkS, gd_some, v_ono, v_oso, v_asInt, sl_t, ec, o_addt l3, isD_app, o_addt l2, rv_v, v_tnm, List.set_cons_succ, List.set_cons_zero]
  rw [v_nx, v_rB, eu]
  have s4 : small62 ((m.h.length + m.r.length + 1 : Nat) : Int) = true := by simp [small62]; omega
  have e4 : (((m.h.length + m.r.length + 1 : Nat) : Int) - 1).toNat = m.h.length + m.r.length := by omega
  simp only [v_cons, v_ifs, v_or, v_cmp, v_b1, v_compi, v_ir2, v_lit, v_var, v_lk0, v_lkS, gd_some, v_asInt, n_len_t, isD_len, un_len]
  refine ⟨by rw [s1, s4]; rfl, ?_⟩
  rw [e4]
  refine compi_m (fun x => decide (gt (un (row m) (m.h.length + m.r.length + 1)) (dI x).toNat = gt (un (row m) (m.h.length + m.r.length + 1)) ((dI x).toNat - 1))) (fun x => x) trivial (by simp; omega) (fun x hx k hk => ?_) ?_
  · obtain ⟨c, hc, rfl⟩ := List.mem_map.mp hx
    rw [List.mem_range] at hc
    have em : (1 : Int) + (c : Int) = ((c + 1 : Nat) : Int) := by omega
    have em2 : ((c + 1 : Nat) : Int) - 1 = (c : Int) := by omega
    rw [em] at hk ⊢
    simp only [dI_int, Int.toNat_natCast, Nat.add_sub_cancel] at hk
    have a1 := isD_at (xs := un (row m) (m.h.length + m.r.length + 1)) (i := c + 1) (by rw [un_len]; omega)
    have a2 := isD_at (xs := un (row m) (m.h.length + m.r.length + 1)) (i := c) (by rw [un_len]; omega)
    have a1' : atI (isD (un (row m) (m.h.length + m.r.length + 1))) ((c : Int) + 1) = some (.tup (nL (gt (un (row m) (m.h.length + m.r.length + 1)) (c + 1)))) := a1
    generalize un (row m) (m.h.length + m.r.length + 1) = U at *
    simp only [v_tnm, v_cmp, v_ix, v_var, v_bin, v_lit, wipe, List.set_cons_succ, List.set_cons_zero, v_lk0, v_lkS, gd_some, x_t, o_sub, em2]
    simp [wipe, a1, a1', a2, em2, eqN]
    by_cases w : gt U (c + 1) = gt U c
    · simp [w] at hk ⊢
      exact hk
    · simp [w] at hk ⊢
      exact hk
  · simp only [v_fixi, List.map_id', n_len_o, gd_some]
    have cnt : (((rngL 1 (m.h.length + m.r.length)).filter fun x => decide (gt (un (row m) (m.h.length + m.r.length + 1)) (dI x).toNat = gt (un (row m) (m.h.length + m.r.length + 1)) ((dI x).toNat - 1))).length : Nat) ≤ if m.r.length = 1 then 1 else 0 := by
      have e5 : ((rngL 1 (m.h.length + m.r.length)).filter fun x => decide (gt (un (row m) (m.h.length + m.r.length + 1)) (dI x).toNat = gt (un (row m) (m.h.length + m.r.length + 1)) ((dI x).toNat - 1))).length = ((List.range (m.h.length + m.r.length)).filter fun c => decide (row m (c + 1) = row m c)).length := by
        unfold rngL
        rw [List.filter_map, List.length_map]
        refine congrArg List.length (List.filter_congr fun c hc => ?_)
        rw [List.mem_range] at hc
        have em : (1 : Int) + (c : Int) = ((c + 1 : Nat) : Int) := by omega
        simp only [Function.comp, em, dI_int, Int.toNat_natCast, Nat.add_sub_cancel]
        rw [un_at (by omega), un_at (by omega)]
      rw [e5]
      have sub : ∀ c ∈ (List.range (m.h.length + m.r.length)).filter (fun c => decide (row m (c + 1) = row m c)), m.r.length = 1 ∧ c + 1 = tnN l := fun c hc => by
        rw [List.mem_filter, List.mem_range] at hc
        exact dup c (by omega) (of_decide_eq_true hc.2)
      have nd : ((List.range (m.h.length + m.r.length)).filter fun c => decide (row m (c + 1) = row m c)).Nodup := List.nodup_range.filter _
      generalize (List.range (m.h.length + m.r.length)).filter (fun c => decide (row m (c + 1) = row m c)) = F at *
      by_cases z : m.r.length = 1
      · rw [if_pos z]
        have := List.Nodup.length_le_of_subset nd (l₂ := [tnN l - 1]) fun c hc => by
          have := (sub c hc).2
          rw [List.mem_singleton]; omega
        simpa using this
      · rw [if_neg z]
        cases F with
        | nil => exact Nat.le_refl _
        | cons c r => exact absurd (sub c (by simp)).1 z
    generalize (((rngL 1 (m.h.length + m.r.length)).filter fun x => decide (gt (un (row m) (m.h.length + m.r.length + 1)) (dI x).toNat = gt (un (row m) (m.h.length + m.r.length + 1)) ((dI x).toNat - 1))).length : Nat) = C at *
    have cc : ¬ ((if decide ((m.r.length : Int) = 1) = true then (1 : Int) else 0) < (C : Int)) := by
      by_cases z : m.r.length = 1
      · have z' : (m.r.length : Int) = 1 := by omega
        rw [if_pos z] at cnt
        simp [z']
        omega
      · have z' : ¬ (m.r.length : Int) = 1 := by omega
        rw [if_neg z] at cnt
        simp [z']
        omega
    simp only [k_eqi, n_int_b, gd_some, k_gt, decide_eq_false cc, t_bl, Bool.false_eq_true, if_false, v_call, v_esc, v_esn, v_var, v_lk0, v_lkS, rv_v]
    refine lleast_i (by omega) T t0 (by omega) ?_
    rw [el]
    simp only [neL, decide_true, Bool.not_true, gd_some, t_bl, Bool.false_eq_true, if_false, v_nil, v_nx]
    rw [v_rB]
    simp [-v_rB]
    refine unr_i (by omega) T r0 (m := 60) (by decide) ?_
    try simp [-v_rB]
    refine lthin_i (by omega) T (by rw [un_len]; decide) ?_
    rw [v_rB]
    by_cases z : m.r.length = 1
    · have z' : (m.r.length : Int) = 1 := by omega
      rw [d1 z (by omega)]
      have l1' : m.h.length + 1 ≤ 16777216 := by omega
      simp [z, z', l1, l1', isD_app, eqI]
      exact someQ_i q
    · have z' : ¬ (m.r.length : Int) = 1 := by omega
      simp [-v_rB, z, z']
      rw [v_rB]
      simp
      refine unr_i (by omega) T t0 (by omega) ?_
      rw [← d2]
      simp [eqI]
      exact someQ_i q
end
end Las
end Py
namespace Py
open PySem (Str)
namespace Las
/-! ### names -/
inductive Tn | tru | lig | neg | con | dis | alw | atl | unt
  deriving DecidableEq
def tn : Tn → Str
  | .tru => "true" | .lig => "light" | .neg => "not" | .con => "and" | .dis => "or" | .alw => "always" | .atl => "atlast" | .unt => "until"
def tnK (s : Str) : Nat := s.cps.toList.foldl (fun a c => a * 1000 + c) 0
def tnI : Tn → Nat := fun a => tnK (tn a)
def allTn : List Tn := [.tru, .lig, .neg, .con, .dis, .alw, .atl, .unt]
theorem tn_find : ∀ a : Tn, (allTn.find? fun n => tnI n == tnI a) = some a := by
  intro a
  cases a <;> decide +kernel
theorem tn_inj : ∀ a b : Tn, tn a = tn b → a = b := by
  intro a b h
  have e : tnI a = tnI b := by unfold tnI; rw [h]
  have h1 := tn_find a
  rw [e, tn_find b] at h1
  exact (Option.some.inj
      h1).symm
@[simp] theorem tn_eq {a b : Tn} : tn a = tn b ↔ a = b := ⟨tn_inj a b, fun h => h ▸ rfl⟩
theorem tn_pu (a : Tn) : (tn a).cps.all (· < 0x110000) = true := by cases a <;> decide +kernel
@[simp] theorem pu_tn {n : Nat} {a : Tn} : pu n (.str (tn a)) = true := by
  unfold pu
  cases n <;> exact tn_pu a
@[simp] theorem eqv_tn {a b : Tn} : eqv (.str (tn a)) (.str (tn b)) = decide (a = b) := by
  show (tn a == tn b) = _
  by_cases h : a = b
  · subst h; simp
  · have : ¬ tn a = tn b := fun z => h (tn_inj a b z)
    simp [h, this]
@[simp] theorem k_tn {a b : Tn} {h : AH} : cmpD .eq (.v (.str (tn a))) (.v (.str (tn b))) h = some (decide (a = b)) := by
  rw [k_eqs]
  congr 1
  exact decide_eq_decide.mpr tn_eq
theorem in_tn {a : Tn} {ys : List D} {h : AH} (hy : ys.all (pu 40) = true) : cmpD .inn (.v (.str (tn a))) (.v (.tup ys)) h = some (ys.any fun z => eqv z (.str (tn a))) := by
  show inD (.v (.str (tn a))) (.v (.tup ys)) h = _
  unfold inD
  simp [hy]
theorem m1 : Str.ofString "true" = tn .tru := rfl
theorem m2 : Str.ofString "light" = tn .lig := rfl
theorem m3 : Str.ofString "not" = tn .neg := rfl
theorem m4 : Str.ofString "and" = tn .con := rfl
theorem m5 : Str.ofString "or" = tn .dis := rfl
theorem m6 : Str.ofString "always" = tn .alw := rfl
theorem m7 : Str.ofString "atlast" = tn .atl := rfl
theorem m8 : Str.ofString "until" = tn .unt := rfl
/-! ### sentences as data -/
def Sen.d : Sen → D
  | .tru => .tup [.str (tn .tru)]
  | .lig k => .tup [.str (tn .lig), .int k]
  | .neg a => .tup [.str (tn .neg), a.d]
  | .con a b => .tup [.str (tn .con), a.d, b.d]
  | .dis a b => .tup [.str (tn .dis), a.d, b.d]
  | .alw a => .tup [.str (tn .alw), a.d]
  | .atl a => .tup [.str (tn .atl), a.d]
  | .unt a b => .tup [.str (tn .unt), a.d, b.d]
def Sen.hd : Sen → Tn
  | .tru => .tru | .lig _ => .lig | .neg _ => .neg | .con _ _ => .con | .dis _ _ => .dis | .alw _ => .alw | .atl _ => .atl | .unt _ _ => .unt
def Sen.ps : Sen → List Sen
  | .tru => [] | .lig _ => [] | .neg a => [a] | .con a b => [a, b] | .dis a b => [a, b] | .alw a => [a] | .atl a => [a] | .unt a b => [a, b]
def Sen.dep : Sen → Nat
  | .tru => 1 | .lig _ => 1 | .neg a => a.dep + 1 | .con a b => max a.dep b.dep + 1 | .dis a b => max a.dep b.dep + 1 | .alw a => a.dep + 1 | .atl a => a.dep + 1 | .unt a b => max a.dep b.dep + 1
def Sen.isT : Sen → Bool
  | .alw _ => true | .atl _ => true | .unt _ _ => true | _ => false
/-- the lights are there -/
def Sen.Ok (many : Nat) : Sen → Prop
  | .tru => True | .lig k => k < many | .neg a => a.Ok many | .con a b => a.Ok many ∧ b.Ok many | .dis a b => a.Ok many ∧ b.Ok many | .alw a => a.Ok many | .atl a => a.Ok many | .unt a b => a.Ok many ∧ b.Ok many
theorem ps_dep {s a : Sen} (h : a ∈ s.ps) : a.dep < s.dep := by
  cases s <;> simp [Sen.ps] at h <;> (try rcases h with rfl | rfl) <;> simp only [Sen.dep] <;> (try subst h) <;> omega
theorem ps_ok {many : Nat} {s a : Sen} (ok : s.Ok many) (h : a ∈ s.ps) : a.Ok many := by
  cases s <;> simp [Sen.ps] at h
  · subst h; exact ok
  · rcases h with rfl | rfl
    · exact ok.1
    · exact ok.2
  · rcases h with rfl | rfl
    · exact ok.1
    · exact ok.2
  · subst h; exact ok
  · subst h; exact ok
  · rcases h with rfl | rfl
    · exact ok.1
    · exact ok.2
@[simp] theorem sd0 {s : Sen} {h : AH} : ixD (.v s.d) (.v (.int 0)) h = some (.str (tn s.hd)) := by cases s <;> simp [Sen.d, Sen.hd]
theorem sd_c {s : Sen} (h1 : s.hd ≠ .tru) (h2 : s.hd ≠ .lig) : ∃ xs, s.d = .tup (.str (tn s.hd) :: xs) ∧ xs = s.ps.map Sen.d := by
  cases s with
  | tru => exact absurd rfl h1
  | lig k => exact absurd rfl h2
  | _ => exact ⟨_, rfl, rfl⟩
theorem sen_eqv : ∀ a b : Sen, eqv a.d b.d = decide (a = b) := by
  intro a
  induction a with
  | tru => intro b; cases b <;> simp [Sen.d, eqv, eqvs]
  | lig k =>
    intro b
    cases b with
    | lig j =>
      show (eqv (.str (tn .lig)) (.str (tn .lig)) && (eqv (.int k) (.int j) && true)) = _
      rw [eqv_tn]
      show (decide (Tn.lig = Tn.lig) && (((k : Int) == (j : Int)) && true)) = _
      rw [Bool.eq_iff_iff]
      simp
      omega
    | tru => rw [show eqv (Sen.lig k).d Sen.tru.d = (eqv (.str (tn .lig)) (.str (tn .tru)) && eqvs [.int k] []) from rfl, eqv_tn]; simp
    | neg a => rw [show eqv (Sen.lig k).d (Sen.neg a).d = (eqv (.str (tn .lig)) (.str (tn .neg)) && eqvs [.int k] [a.d]) from rfl, eqv_tn]; simp
    | alw a => rw [show eqv (Sen.lig k).d (Sen.alw a).d = (eqv (.str (tn .lig)) (.str (tn .alw)) && eqvs [.int k] [a.d]) from rfl, eqv_tn]; simp
    | atl a => rw [show eqv (Sen.lig k).d (Sen.atl a).d = (eqv (.str (tn .lig)) (.str (tn .atl)) && eqvs [.int k] [a.d]) from rfl, eqv_tn]; simp
    | con a b => rw [show eqv (Sen.lig k).d (Sen.con a b).d = (eqv (.str (tn .lig)) (.str (tn .con)) && eqvs [.int k] [a.d, b.d]) from rfl, eqv_tn]; simp
    | dis a b => rw [show eqv (Sen.lig k).d (Sen.dis a b).d = (eqv (.str (tn .lig)) (.str (tn .dis)) && eqvs [.int k] [a.d, b.d]) from rfl, eqv_tn]; simp
    | unt a b => rw [show eqv (Sen.lig k).d (Sen.unt a b).d = (eqv (.str (tn .lig)) (.str (tn .unt)) && eqvs [.int k] [a.d, b.d]) from rfl, eqv_tn]; simp
  | neg a ih => intro b; cases b <;> simp [Sen.d, eqv, eqvs, ih]
  | con a b ih1 ih2 => intro b; cases b <;> simp [Sen.d, eqv, eqvs, ih1, ih2]
  | dis a b ih1 ih2 => intro b; cases b <;> simp [Sen.d, eqv, eqvs, ih1, ih2]
  | alw a ih => intro b; cases b <;> simp [Sen.d, eqv, eqvs, ih]
  | atl a ih => intro b; cases b <;> simp [Sen.d, eqv, eqvs, ih]
  | unt a b ih1 ih2 => intro b; cases b <;> simp [Sen.d, eqv, eqvs, ih1, ih2]
theorem sen_pu : ∀ (s : Sen) {n : Nat}, s.dep ≤ n → pu n s.d = true
  | .tru, 0, h => absurd h (by simp [Sen.dep])
  | .lig _, 0, h => absurd h (by simp [Sen.dep])
  | .neg _, 0, h => absurd h (by simp [Sen.dep])
  | .con _ _, 0, h => absurd h (by simp [Sen.dep])
  | .dis _ _, 0, h => absurd h (by simp [Sen.dep])
  | .alw _, 0, h => absurd h (by simp [Sen.dep])
  | .atl _, 0, h => absurd h (by simp [Sen.dep])
  | .unt _ _, 0, h => absurd h (by simp [Sen.dep])
  | .tru, n + 1, _ => by show (pu n (.str (tn .tru)) && true) = true; rw [pu_tn]; rfl
  | .lig k, n + 1, _ => by
    show (pu n (.str (tn .lig)) && (pu n (.int k) && true)) = true
    rw [pu_tn]; cases n <;> rfl
  | .neg a, n + 1, h => by
    show (pu n (.str (tn .neg)) && (pu n a.d && true)) = true
    rw [pu_tn, sen_pu a (by simp only [Sen.dep] at h; omega)]; rfl
  | .con a b, n + 1, h => by
    show (pu n (.str (tn .con)) && (pu n a.d && (pu n b.d && true))) = true
    rw [pu_tn, sen_pu a (by simp only [Sen.dep] at h; omega), sen_pu b (by simp only [Sen.dep] at h; omega)]; rfl
  | .dis a b, n + 1, h => by
    show (pu n (.str (tn .dis)) && (pu n a.d && (pu n b.d && true))) = true
    rw [pu_tn, sen_pu a (by simp only [Sen.dep] at h; omega), sen_pu b (by simp only [Sen.dep] at h; omega)]; rfl
  | .alw a, n + 1, h => by
    show (pu n (.str (tn .alw)) && (pu n a.d && true)) = true
    rw [pu_tn, sen_pu a (by simp only [Sen.dep] at h; omega)]; rfl
  | .atl a, n + 1, h => by
    show (pu n (.str (tn .atl)) && (pu n a.d && true)) = true
    rw [pu_tn, sen_pu a (by simp only [Sen.dep] at h; omega)]; rfl
  | .unt a b, n + 1, h => by
    show (pu n (.str (tn .unt)) && (pu n a.d && (pu n b.d && true))) = true
    rw [pu_tn, sen_pu a (by simp only [Sen.dep] at h; omega), sen_pu b (by simp only [Sen.dep] at h; omega)]; rfl
def sL (xs : List Sen) : List D := xs.map Sen.d
@[simp] theorem sL_len (xs : List Sen) : (sL xs).length = xs.length := by simp [sL]
theorem sL_pu {xs : List Sen} (h : ∀ s ∈ xs, s.dep ≤ 40) : (sL xs).all (pu 40) = true := by
  rw [List.all_eq_true]
  intro x hx
  obtain ⟨s, hs, rfl⟩ := List.mem_map.mp hx
  exact sen_pu s (h s hs)
theorem sL_any (xs : List Sen) (s : Sen) : (sL xs).any (fun z => eqv z s.d) = decide (s ∈ xs) := by
  unfold sL
  rw [List.any_map, Bool.eq_iff_iff]
  simp only [List.any_eq_true, Function.comp, sen_eqv, decide_eq_true_eq]
  constructor
  · rintro ⟨x, hx, rfl⟩; exact hx
  · exact fun h => ⟨s, h, rfl⟩
theorem k_ninS {a : Nat} {xs : List Sen} {s : Sen} {h : AH} (ha : h a = some (.lst (sL xs))) (hx : ∀ s ∈ xs, s.dep ≤ 40) (hs : s.dep ≤ 40) : cmpD .nin (.v s.d) (.v (.loc a)) h = some (!decide (s ∈ xs)) := by
  show (inD (.v s.d) (.v (.loc a)) h).map (!·) = _
  unfold inD
  simp only [s_locV ha]
  rw [sen_pu s hs, sL_pu hx, sL_any]
  rfl
def heads : List D := [.str (tn .alw), .str (tn .atl), .str (tn .unt)]
theorem in_heads {s : Sen} {h : AH} : cmpD .inn (.v (.str (tn s.hd))) (.v (.tup heads)) h = some s.isT := by
  rw [in_tn (by simp [heads])]
  cases s <;> simp [heads, Sen.hd, Sen.isT]
/-! ### what stands in a sentence -/
def allS : Sen → List Sen
  | .tru => [.tru]
  | .lig k => [.lig k]
  | .neg a => allS a ++ [.neg a]
  | .con a b => allS a ++ allS b ++ [.con a b]
  | .dis a b => allS a ++ allS b ++ [.dis a b]
  | .alw a => allS a ++ [.alw a]
  | .atl a => allS a ++ [.atl a]
  | .unt a b => allS a ++ allS b ++ [.unt a b]
theorem allS_dep : ∀ (s : Sen), ∀ x ∈ allS s, x.dep ≤ s.dep
  | .tru, x, h => by simp [allS] at h; subst h; exact Nat.le_refl _
  | .lig k, x, h => by simp [allS] at h; subst h; exact Nat.le_refl _
  | .neg a, x, h => by
    simp only [allS, List.mem_append, List.mem_singleton] at h
    rcases h with h | rfl
    · have := allS_dep a x h; simp only [Sen.dep]; omega
    · exact Nat.le_refl _
  | .con a b, x, h => by
    simp only [allS, List.mem_append, List.mem_singleton] at h
    rcases h with (h | h) | rfl
    · have := allS_dep a x h; simp only [Sen.dep]; omega
    · have := allS_dep b x h; simp only [Sen.dep]; omega
    · exact Nat.le_refl _
  | .dis a b, x, h => by
    simp only [allS, List.mem_append, List.mem_singleton] at h
    rcases h with (h | h) | rfl
    · have := allS_dep a x h; simp only [Sen.dep]; omega
    · have := allS_dep b x h; simp only [Sen.dep]; omega
    · exact Nat.le_refl _
  | .alw a, x, h => by
    simp only [allS, List.mem_append, List.mem_singleton] at h
    rcases h with h | rfl
    · have := allS_dep a x h; simp only [Sen.dep]; omega
    · exact Nat.le_refl _
  | .atl a, x, h => by
    simp only [allS, List.mem_append, List.mem_singleton] at h
    rcases h with h | rfl
    · have := allS_dep a x h; simp only [Sen.dep]; omega
    · exact Nat.le_refl _
  | .unt a b, x, h => by
    simp only [allS, List.mem_append, List.mem_singleton] at h
    rcases h with (h | h) | rfl
    · have := allS_dep a x h; simp only [Sen.dep]; omega
    · have := allS_dep b x h; simp only [Sen.dep]; omega
    · exact Nat.le_refl _
theorem allS_len : ∀ (s : Sen), (allS s).length < 2 ^ s.dep
  | .tru => by simp [allS, Sen.dep]
  | .lig k => by simp [allS, Sen.dep]
  | .neg a => by
    have := allS_len a
    simp only [allS, Sen.dep, List.length_append, List.length_cons, List.length_nil, Nat.pow_succ]; omega
  | .con a b => by
    have h1 := allS_len a
    have h2 := allS_len b
    have h3 : 2 ^ a.dep ≤ 2 ^ max a.dep b.dep := Nat.pow_le_pow_right (by decide) (Nat.le_max_left _ _)
    have h4 : 2 ^ b.dep ≤ 2 ^ max a.dep b.dep := Nat.pow_le_pow_right (by decide) (Nat.le_max_right _ _)
    simp only [allS, Sen.dep, List.length_append, List.length_cons, List.length_nil, Nat.pow_succ]; omega
  | .dis a b => by
    have h1 := allS_len a
    have h2 := allS_len b
    have h3 : 2 ^ a.dep ≤ 2 ^ max a.dep b.dep := Nat.pow_le_pow_right (by decide) (Nat.le_max_left _ _)
    have h4 : 2 ^ b.dep ≤ 2 ^ max a.dep b.dep := Nat.pow_le_pow_right (by decide) (Nat.le_max_right _ _)
    simp only [allS, Sen.dep, List.length_append, List.length_cons, List.length_nil, Nat.pow_succ]; omega
  | .alw a => by
    have := allS_len a
    simp only [allS, Sen.dep, List.length_append, List.length_cons, List.length_nil, Nat.pow_succ]; omega
  | .atl a => by
    have := allS_len a
    simp only [allS, Sen.dep, List.length_append, List.length_cons, List.length_nil, Nat.pow_succ]; omega
  | .unt a b => by
    have h1 := allS_len a
    have h2 := allS_len b
    have h3 : 2 ^ a.dep ≤ 2 ^ max a.dep b.dep := Nat.pow_le_pow_right (by decide) (Nat.le_max_left _ _)
    have h4 : 2 ^ b.dep ≤ 2 ^ max a.dep b.dep := Nat.pow_le_pow_right (by decide) (Nat.le_max_right _ _)
    simp only [allS, Sen.dep, List.length_append, List.length_cons, List.length_nil, Nat.pow_succ]; omega
theorem allS_ps (s : Sen) : allS s = (s.ps.map allS).flatten ++ [s] := by cases s <;> simp [allS, Sen.ps]
/-- time parts, each once -/
def tpAdd (acc : List Sen) (s : Sen) : List Sen := if s.isT = true ∧ s ∉ acc then acc ++ [s] else acc
def tpL (s : Sen) : List Sen := (allS s).foldl tpAdd []
theorem tp_mem : ∀ (xs acc : List Sen) (x : Sen), x ∈ xs.foldl tpAdd acc ↔ x ∈ acc ∨ (x ∈ xs ∧ x.isT = true)
  | [], acc, x => by simp
  | y :: r, acc, x => by
    rw [List.foldl_cons, tp_mem r]
    unfold tpAdd
    split
    · rename_i h
      simp only [List.mem_append, List.mem_cons, List.not_mem_nil, or_false]
      constructor
      · rintro ((h1 | rfl) | h1)
        · exact .inl h1
        · exact .inr ⟨.inl rfl, h.1⟩
        · exact .inr ⟨.inr h1.1, h1.2⟩
      · rintro (h1 | ⟨rfl | h1, h2⟩)
        · exact .inl (.inl h1)
        · exact .inl (.inr rfl)
        · exact .inr ⟨h1, h2⟩
    · rename_i h
      constructor
      · rintro (h1 | h1)
        · exact .inl h1
        · exact .inr ⟨List.mem_cons_of_mem _ h1.1, h1.2⟩
      · rintro (h1 | ⟨h1, h2⟩)
        · exact .inl h1
        · rcases List.mem_cons.mp h1 with rfl | h1
          · by_cases z : x ∈ acc
            · exact .inl z
            · exact absurd ⟨h2, z⟩ h
          · exact .inr ⟨h1, h2⟩
theorem tpL_mem {s x : Sen} : x ∈ tpL s ↔ x ∈ allS s ∧ x.isT = true := by
  unfold tpL
  rw [tp_mem]
  simp
theorem allS_self (s : Sen) : s ∈ allS s := by rw [allS_ps]; simp
theorem allS_sub {s a x : Sen} (h : a ∈ s.ps) (hx : x ∈ allS a) : x ∈ allS s := by
  rw [allS_ps]
  simp only [List.mem_append, List.mem_flatten, List.mem_map]
  exact .inl ⟨_, ⟨a, h, rfl⟩, hx⟩
end Las
end Py
namespace Py
open PySem (Str)
namespace Las
structure TS (P : Prog) : Prop where
  ps : P.fn "parts_of_sentence" = some c_parts_of_sentence
  al : P.fn "all_in_sentence" = some c_all_in_sentence
  tp : P.fn "time_parts" = some c_time_parts
  mo : P.fn "is_of_moment" = some c_is_of_moment
  jt : P.fn "joined_truths" = some c_joined_truths
  tb : P.fn "told_by_bits" = some c_told_by_bits
  hn : P.fn "holds_now" = some c_holds_now
  gh : P.gl "TIME_HEADS" = some (.tup heads)
@[simp] theorem u_extl {xs ys : List D} {a b : Nat} {h : AH} (e : h a = some (.lst xs)) (e2 : h b = some (.lst ys)) (hl : xs.length + ys.length ≤ 16777216) : augD .add (.loc a) (.v (.loc b)) h = some (.v (.loc a), put h a (.lst (xs ++ ys))) := by
  simp [augD, e, ltV, ob, e2, hl]
theorem put_ne {h : AH} {a b : Nat} {o : AO} (n : b ≠ a) : put h a o b = h b := by simp [put, n]
theorem put_eq {h : AH} {a : Nat} {o : AO} : put h a o a = some o := by simp [put]
section
variable {P : Prog} {L : Nat} {h : AH} {Q : D → AH → Prop} {X : Xc}
theorem parts_i (hL : 1 ≤ L) (T : TS P) {s : Sen} (q : Q (.tup (sL s.ps)) h) : wC P L "parts_of_sentence" [s.d] h Q X := by
  obtain ⟨n, rfl⟩ : ∃ n, L = n + 1 := ⟨L - 1, by omega⟩
  refine wC_i T.ps rfl ?_
  have c1 : ∀ (x : D) (xs : List D), cut (x :: xs) (some 1) none = xs := fun x xs => by
    have := cutDr (x :: xs) 1
    simpa using this
  cases s <;> simp [c_parts_of_sentence, List.replicate, Sen.d, m1, m2, in_tn, c1] <;> exact someQ_i q
theorem sub_fresh {h h' : AH} {c : Nat} {o : AO} (s : Sub h h') (n : h c = none) (h2 : h' c = none) : Sub (put h c o) (put h' c o) := fun b u e => by
  by_cases z : b = c
  · subst z
    rw [put_eq] at e ⊢
    exact e
  · rw [put_ne z] at e ⊢
    exact s b u e
theorem sub_no {h h' : AH} {c : Nat} (s : Sub h h') (n : h' c = none) : h c = none := by
  cases e : h c with
  | none => rfl
  | some u => rw [s c u e] at n; exact absurd n (by simp)
theorem fl_take {s : Sen} {i : Nat} : (((s.ps.take i).map allS).flatten).length ≤ (allS s).length := by
  rw [allS_ps, List.length_append]
  have : ((s.ps.take i).map allS).flatten ++ ((s.ps.drop i).map allS).flatten = (s.ps.map allS).flatten := by
    rw [← List.flatten_append, ← List.map_append, List.take_append_drop]
  have := congrArg List.length this
  rw [List.length_append] at this
  omega
theorem all_i (T : TS P) (s : Sen) {L : Nat} (hL : s.dep + 1 ≤ L) (hd : s.dep ≤ 20) {h : AH} {Q : D → AH → Prop} {X : Xc} (q : ∀ a, h a = none → Q (.loc a) (put h a (.lst (sL (allS s))))) : wC P L "all_in_sentence" [s.d] h Q X := by
  obtain ⟨n, rfl⟩ : ∃ n, L = n + 1 := ⟨L - 1, by omega⟩
  have al := allS_len s
  have pw : 2 ^ s.dep ≤ 2 ^ 20 := Nat.pow_le_pow_right (by decide) hd
  have d1 : 1 ≤ s.dep := by cases s <;> simp only [Sen.dep] <;> omega
  refine wC_i T.al rfl ?_
  simp [-v_rB, c_all_in_sentence, List.replicate]
  intro a ha
  rw [v_rB]
  simp [-v_rB]
  refine parts_i (by omega) T ?_
  simp [-v_rB]
  refine for_f (fun i env h' => ∃ o, env = [some s.d, some (.loc a), o] ∧ Sub h h' ∧ h' a = some (.lst (sL (((s.ps.take i).map allS).flatten)))) ⟨none, rfl, sub_put ha, by simp [put_eq, sL]⟩ ?_ ?_
  · rintro i x env h' N hx ⟨o, rfl, sb, e⟩ hN
    unfold sL at hx
    rw [List.getElem?_map, Option.map_eq_some_iff] at hx
    obtain ⟨p, hp, rfl⟩ := hx
    have pm := List.mem_of_getElem? hp
    have pd := ps_dep pm
    simp
    refine all_i T p (by omega) (by omega) fun b hb => ?_
    have ne : a ≠ b := fun z => by rw [← z, e] at hb; exact absurd hb (by simp)
    have l1 := fl_take (s := s) (i := i + 1)
    rw [take_snoc hp] at l1
    simp only [List.map_append, List.map_cons, List.map_nil, List.flatten_append, List.flatten_cons, List.flatten_nil, List.append_nil, List.length_append] at l1
    rw [u_extl (xs := sL (((s.ps.take i).map allS).flatten)) (ys := sL (allS p)) (by rw [put_ne ne, e]) put_eq (by rw [sL_len, sL_len]; omega)]
    simp
    refine hN _ _ ⟨_, rfl, ?_, ?_⟩
    · exact ((sb.put (sub_no sb hb)).put ha)
    · rw [put_eq, take_snoc hp]
      simp [sL]
  · rintro env h' ⟨o, rfl, sb, e⟩
    rw [sL_len, List.take_length] at e
    have l1 := fl_take (s := s) (i := s.ps.length)
    rw [List.take_length] at l1
    simp
    rw [o_addlo e (by rw [sL_len]; simp only [List.length_cons, List.length_nil]; omega)]
    simp
    intro c hc
    have hc0 := sub_no sb hc
    refine someQ_s (sub_fresh sb hc0 hc) ?_
    have := q c hc0
    rw [allS_ps] at this
    simpa [sL] using this
termination_by s.dep
theorem tp_len {s : Sen} : (tpL s).length ≤ (allS s).length := by
  have key : ∀ (xs acc : List Sen), (xs.foldl tpAdd acc).length ≤ xs.length + acc.length := by
    intro xs
    induction xs with
    | nil => intro acc; simp
    | cons x r ih =>
      intro acc
      have := ih (tpAdd acc x)
      have e : (tpAdd acc x).length ≤ acc.length + 1 := by
        unfold tpAdd
        split <;> simp
      simp only [List.foldl_cons,
          List.length_cons]
      omega
  have := key (allS s) []
  simpa [tpL] using this
theorem tp_take {xs : List Sen} {i : Nat} : ((xs.take i).foldl tpAdd []).length ≤ xs.length := by
  have key : ∀ (xs acc : List Sen), (xs.foldl tpAdd acc).length ≤ xs.length + acc.length := by
    intro xs
    induction xs with
    | nil => intro acc; simp
    | cons x r ih =>
      intro acc
      have := ih (tpAdd acc x)
      have e : (tpAdd acc x).length ≤ acc.length + 1 := by
        unfold tpAdd
        split <;> simp
      simp only [List.foldl_cons,
          List.length_cons]
      omega
  have := key (xs.take i) []
  rw [List.length_take, List.length_nil] at this
  omega
theorem time_i (T : TS P) {s : Sen} {L : Nat} (hL : s.dep + 2 ≤ L) (hd : s.dep ≤ 20) {h : AH} {Q : D → AH → Prop} {X : Xc} (q : Q (.tup (sL (tpL s))) h) : wC P L "time_parts" [s.d] h Q X := by
  obtain ⟨n, rfl⟩ : ∃ n, L = n + 1 := ⟨L - 1, by omega⟩
  have al := allS_len s
  have pw : 2 ^ s.dep ≤ 2 ^ 20 := Nat.pow_le_pow_right (by decide) hd
  refine wC_i T.tp rfl ?_
  simp [-v_rB, c_time_parts, List.replicate]
  intro a ha
  rw [v_rB]
  simp [-v_rB]
  refine all_i T s (by omega) hd fun b hb => ?_
  have ne : a ≠ b := fun z => by rw [← z, put_eq] at hb; exact absurd hb (by simp)
  have hb0 : h b = none := by rw [put_ne (Ne.symm ne)] at hb; exact hb
  simp [-v_rB, put_eq]
  refine for_l (fun i env h' => ∃ o, env = [some s.d, some (.loc a), o] ∧ Sub h h' ∧ h' a = some (.lst (sL ((((allS s).take i).foldl tpAdd [])))) ∧ h' b = some (.lst (sL (allS s)))) ⟨none, rfl, (sub_put ha).put hb0, by simp [put_ne ne, put_eq, sL], put_eq⟩ (fun i env h' _ z => by obtain ⟨_, _, _, _, z⟩ := z; exact z) ?_ ?_
  · rintro i x env h' N hx ⟨o, rfl, sb, e, eb⟩ hN
    unfold sL at hx
    rw [List.getElem?_map, Option.map_eq_some_iff] at hx
    obtain ⟨p, hp, rfl⟩ := hx
    have pd := allS_dep s p (List.mem_of_getElem? hp)
    have mem40 : ∀ x ∈ ((allS s).take i).foldl tpAdd [], x.dep ≤ 40 := fun x hx => by
      rw [tp_mem] at hx
      have := allS_dep s x (List.mem_of_mem_take (hx.resolve_left (by simp)).1)
      omega
    have tl := tp_take (xs := allS s) (i := i)
    simp [T.gh, in_heads]
    rw [take_snoc hp, List.foldl_append] at hN
    simp only [List.foldl_cons, List.foldl_nil, tpAdd] at hN
    by_cases h1 : p.isT = true
    · simp [h1, k_ninS e mem40 (show p.dep ≤ 40 by omega)]
      by_cases h2 : p ∈ ((allS s).take i).foldl tpAdd []
      · simp [h2]
        rw [if_neg (fun z => z.2 h2)] at hN
        exact hN _ _ ⟨_, rfl, sb, e, eb⟩
      · simp [h2, e]
        rw [m_app e (by rw [sL_len]; omega)]
        simp
        rw [if_pos ⟨h1, h2⟩] at hN
        refine hN _ _ ⟨_, rfl, sb.put ha, by rw [put_eq]; simp [sL], by rw [put_ne (Ne.symm ne), eb]⟩
    · have h1' : p.isT = false := by simpa using h1
      simp [h1']
      rw [if_neg (fun z => h1 z.1)] at hN
      exact hN _ _ ⟨_, rfl, sb, e, eb⟩
  · rintro env h' ⟨o, rfl, sb, e, eb⟩
    rw [sL_len, List.take_length] at e
    simp [e]
    exact someQ_s sb q
def mom (s : Sen) : Bool := decide ((tpL s).length = 0)
theorem mom_i (T : TS P) {s : Sen} {L : Nat} (hL : s.dep + 3 ≤ L) (hd : s.dep ≤ 20) {h : AH} {Q : D → AH → Prop} {X : Xc} (q : Q (.bl (mom s)) h) : wC P L "is_of_moment" [s.d] h Q X := by
  obtain ⟨n, rfl⟩ : ∃ n, L = n + 1 := ⟨L - 1, by omega⟩
  refine wC_i T.mo rfl ?_
  simp [c_is_of_moment, List.replicate]
  refine time_i T (by omega) hd ?_
  simp
  refine someQ_i ?_
  simpa [mom] using q
end
end Las
end Py
namespace Py
open PySem (Str)
namespace Las
def bLs (xs : List Bool) : List D := xs.map .bl
@[simp] theorem bLs_len (xs : List Bool) : (bLs xs).length = xs.length := by simp [bLs]
theorem bLs_at {xs : List Bool} {i : Nat} (h : i < xs.length) : atI (bLs xs) (i : Int) = some (.bl (gt xs i)) := atN (by simp [bLs, List.getElem?_eq_getElem h, gt_get h])
theorem nLs_at {xs : List Nat} {i : Nat} (h : i < xs.length) : atI (nL xs) (i : Int) = some (.int ((gt xs i : Nat) : Int)) := atN (by simp [nL, List.getElem?_eq_getElem h, gt_get h])
def jn (t : Tn) (bs : List Bool) : Bool := match t with
  | .neg => !gt bs 0
  | .con => gt bs 0 && gt bs 1
  | _ => gt bs 0 || gt bs 1
def told (l : Itm) (ps : List Sen) (bs : List Nat) : Sen → Bool
  | .tru => true
  | .lig k => decide (gt l k = 1)
  | .neg a => !told l ps bs a
  | .con a b => told l ps bs a && told l ps bs b
  | .dis a b => told l ps bs a || told l ps bs b
  | .alw a => decide (gt bs (ps.idxOf (.alw a)) = 1)
  | .atl a => decide (gt bs (ps.idxOf (.atl a)) = 1)
  | .unt a b => decide (gt bs (ps.idxOf (.unt a b)) = 1)
theorem idx_s {ps : List Sen} {s : Sen} (h : s ∈ ps) : idx (sL ps) s.d = some (ps.idxOf s) := by
  unfold idx sL
  rw [List.findIdx?_map]
  have e : ((fun z => eqv z s.d) ∘ Sen.d) = fun x => x == s := by
    funext x
    simp only [Function.comp, sen_eqv]
    rfl
  rw [e, List.findIdx?_eq_some_iff_findIdx_eq]
  exact ⟨List.idxOf_lt_length_of_mem h, rfl⟩
theorem m_idx {ps : List Sen} {s : Sen} {h : AH} (hs : s ∈ ps) (hp : ∀ x ∈ ps, x.dep ≤ 40) : mtD .index (.v (.tup (sL ps))) [s.d] h = some (.v (.int (ps.idxOf s)), h) := by
  simp [mtD, sen_pu s (hp s hs), sL_pu hp, idx_s hs]
theorem q_idx {xs : List D} {h : AH} : mtChk .index (.v (.tup xs)) h = true := by simp [mtChk]
section
variable {P : Prog} {L : Nat} {h : AH} {Q : D → AH → Prop} {X : Xc}
theorem joined_i (hL : 1 ≤ L) (T : TS P) {s : Sen} {bs : List Bool} {a : Nat} (ha : h a = some (.lst (bLs bs))) (h0 : s.hd = .neg ∨ s.hd = .con ∨ s.hd = .dis) (hb : s.ps.length ≤ bs.length) (q : Q (.bl (jn s.hd bs)) h) : wC P L "joined_truths" [s.d, .loc a] h Q X := by
  obtain ⟨n, rfl⟩ : ∃ n, L = n + 1 := ⟨L - 1, by omega⟩
  refine wC_i T.jt rfl ?_
  cases s <;> simp [Sen.hd] at h0 <;> simp only [Sen.ps, List.length_cons, List.length_nil] at hb <;> simp only [Sen.hd, jn] at q
  · have e0 : atI (bLs bs) 0 = some (.bl (gt bs 0)) := bLs_at (i := 0) (by omega)
    simp [c_joined_truths, List.replicate, Sen.d, m3, m4, x_l ha, e0]
    exact someQ_i q
  · have e0 : atI (bLs bs) 0 = some (.bl (gt bs 0)) := bLs_at (i := 0) (by omega)
    have e1 : atI (bLs bs) 1 = some (.bl (gt bs 1)) := bLs_at (i := 1) (by omega)
    simp [c_joined_truths, List.replicate, Sen.d, m3, m4, x_l ha, e0, e1]
    cases z : gt bs 0 <;> simp [z] at q ⊢ <;> exact someQ_i q
  · have e0 : atI (bLs bs) 0 = some (.bl (gt bs 0)) := bLs_at (i := 0) (by omega)
    have e1 : atI (bLs bs) 1 = some (.bl (gt bs 1)) := bLs_at (i := 1) (by omega)
    simp [c_joined_truths, List.replicate, Sen.d, m3, m4, x_l ha, e0, e1]
    cases z : gt bs 0 <;> simp [z] at q ⊢ <;> exact someQ_i q
theorem told_t {l : Itm} {ps : List Sen} {bs : List Nat} {s : Sen} (h : s.isT = true) : told l ps bs s = decide (gt bs (ps.idxOf s) = 1) := by
  cases s <;> simp [Sen.isT] at h <;> rfl
theorem told_j {l : Itm} {ps : List Sen} {bs : List Nat} {s : Sen} (h : s.hd = .neg ∨ s.hd = .con ∨ s.hd = .dis) : jn s.hd (s.ps.map (told l ps bs)) = told l ps bs s := by
  cases s <;> simp [Sen.hd] at h <;> rfl
theorem told_i (T : TS P) (s : Sen) {l : Itm} {ps : List Sen} {bs : List Nat} (ok : s.Ok l.length) (hp : ∀ x ∈ allS s, x.isT = true → x ∈ ps) (hb : ps.length = bs.length) (hd : ∀ x ∈ ps, x.dep ≤ 40) {L : Nat} (hL : s.dep ≤ L) {h : AH} {Q : D → AH → Prop} {X : Xc} (q : Q (.bl (told l ps bs s)) h) : wC P L "told_by_bits" [s.d, .tup (nL l), .tup (sL ps), .tup (nL bs)] h Q X := by
  have d1 : 1 ≤ s.dep := by cases s <;> simp only [Sen.dep] <;> omega
  obtain ⟨n, rfl⟩ : ∃ n, L = n + 1 := ⟨L - 1, by omega⟩
  refine wC_i T.tb rfl ?_
  by_cases ht : s.isT = true
  · have sp := hp s (allS_self s) ht
    have il := List.idxOf_lt_length_of_mem sp
    rw [told_t ht] at q
    have n1 : s.hd ≠ .tru := fun z => by cases s <;> simp [Sen.hd] at z <;> simp [Sen.isT] at ht
    have n2 : s.hd ≠ .lig := fun z => by cases s <;> simp [Sen.hd] at z <;> simp [Sen.isT] at ht
    simp [c_told_by_bits, List.replicate, m1, m2, n1, n2, T.gh, in_heads, ht, m_idx sp hd, q_idx]
    rw [nLs_at (by omega)]
    simp
    refine someQ_i ?_
    have e : decide (((gt bs (ps.idxOf s) : Nat) : Int) = 1) = decide (gt bs (ps.idxOf s) = 1) := decide_eq_decide.mpr (by omega)
    rw [e]
    exact q
  · have hf : s.isT = false := by simpa using ht
    by_cases hj : s.hd = .neg ∨ s.hd = .con ∨ s.hd = .dis
    · have n1 : s.hd ≠ .tru := fun z => by rw [z] at hj; simp at hj
      have n2 : s.hd ≠ .lig := fun z => by rw [z] at hj; simp at hj
      have d2 : 2 ≤ s.dep := by cases s <;> simp [Sen.hd] at hj <;> simp only [Sen.dep] <;> rename_i a <;> (first | (have : 1 ≤ a.dep := by cases a <;> simp only [Sen.dep] <;> omega); omega)
      simp [c_told_by_bits, List.replicate, m1, m2, n1, n2, T.gh, in_heads, hf]
      refine parts_i (by omega) T ?_
      try simp
      refine comp_g Sen.d (fun p => .bl (told l ps bs p)) s.ps rfl trivial ?_ (fun p pm k hk => ?_) ?_
      · cases s <;> simp [Sen.ps]
      · have pd := ps_dep pm
        simp [wipe]
        refine told_i T p (ps_ok ok pm) (fun x hx => hp x (allS_sub pm hx)) hb hd (by omega) ?_
        simpa using hk
      · intro a ha
        refine joined_i (s := s) (bs := s.ps.map (told l ps bs)) (by omega) T (by rw [put_eq]; simp [bLs]) hj (by simp) ?_
        refine someQ_s (sub_put ha) ?_
        rw [told_j hj]
        exact q
    · cases s with
      | tru =>
        simp [c_told_by_bits, List.replicate, m1, Sen.d]
        exact someQ_i q
      | lig k =>
        have e0 := nLs_at (xs := l) (i := k) ok
        simp [c_told_by_bits, List.replicate, m1, m2, Sen.d, e0]
        refine someQ_i ?_
        have e : decide (((gt l k : Nat) : Int) = 1) = decide (gt l k = 1) := decide_eq_decide.mpr (by omega)
        rw [e]
        exact q
      | neg a => exact absurd (.inl rfl) hj
      | con a b => exact absurd (.inr (.inl rfl)) hj
      | dis a b => exact absurd (.inr (.inr rfl)) hj
      | _ => exact absurd rfl ht
termination_by s.dep
theorem mom_iff {s : Sen} : mom s = true ↔ ∀ x ∈ allS s, x.isT = false := by
  unfold mom
  rw [decide_eq_true_iff, List.length_eq_zero_iff]
  constructor
  · intro h x hx
    cases z : x.isT with
    | false => rfl
    | true =>
      have : x ∈ tpL s := tpL_mem.mpr ⟨hx, z⟩
      rw [h] at this
      exact absurd this (by simp)
  · intro h
    refine List.eq_nil_iff_forall_not_mem.mpr fun x hx => ?_
    have := tpL_mem.mp hx
    rw [h x this.1] at this
    exact absurd this.2 (by simp)
theorem now_i (hL : 1 ≤ L) (T : TS P) (s : Sen) {l : Itm} (ok : s.Ok l.length) (hm : mom s = true) (hL : s.dep + 1 ≤ L) (q : Q (.bl (told l [] [] s)) h) : wC P L "holds_now" [s.d, .tup (nL l)] h Q X := by
  obtain ⟨n, rfl⟩ : ∃ n, L = n + 1 := ⟨L - 1, by omega⟩
  refine wC_i T.hn rfl ?_
  simp [c_holds_now, List.replicate]
  refine told_i T s (ps := []) (bs := []) ok (fun x hx ht => ?_) rfl (by simp) (by omega) ?_
  · rw [mom_iff.mp hm x hx] at ht; exact absurd ht (by simp)
  · exact someQ_i q
end
end Las
end Py
namespace Py
open PySem (Str)
namespace Las
/-! ### from behind, twice round -/
def nxP (n hn p : Nat) : Nat := if p + 1 < n then p + 1 else hn
def stp (F : Nat → Bool → Bool) (n hn : Nat) (t : List Bool) (p : Nat) : List Bool := t.set p (F p (gt t (nxP n hn p)))
def dwn (n : Nat) : List Nat := (List.range n).reverse
/-- what the first time round gives -/
def vv (F : Nat → Bool → Bool) (c : Bool) : Nat → Nat → Bool
  | 0, _ => c
  | m + 1, p => F p (vv F c m (p + 1))
theorem gt_set {t : List Bool} {p i : Nat} {b : Bool} (hp : p < t.length) : gt (t.set p b) i = if p = i then b else gt t i := by
  unfold gt
  rw [List.getElem?_set]
  by_cases h : p = i
  · subst h; simp [hp]
  · simp [h]
theorem stp_len {F : Nat → Bool → Bool} {n hn : Nat} : ∀ (ps : List Nat) (t : List Bool), (ps.foldl (stp F n hn) t).length = t.length
  | [], t => rfl
  | p :: r, t => by
    rw [List.foldl_cons, stp_len r]
    simp [stp]
/-- one time round, downwards, by an invariant -/
theorem round {F : Nat → Bool → Bool} {n hn : Nat} (I : Nat → List Bool → Prop) (hs : ∀ p t, p < n → t.length = n → I (p + 1) t → I p (stp F n hn t p)) : ∀ (m : Nat) (t : List Bool), m ≤ n → t.length = n → I m t → I 0 ((dwn m).foldl (stp F n hn) t)
  | 0, t, _, _, h => h
  | m + 1, t, hm, hl, h => by
    have e : dwn (m + 1) = m :: dwn m := by simp [dwn, List.range_succ]
    rw [e, List.foldl_cons]
    exact round I hs m _ (by omega) (by simp [stp, hl]) (hs m t (by omega) hl h)
theorem twice {F : Nat → Bool → Bool} {n hn : Nat} {c : Bool} {U : Nat → Bool} (hh : hn < n) (hU : ∀ p, p < n → U p = F p (U (nxP n hn p))) (hV : vv F c (n - hn) hn = U hn) :
    (dwn n ++ dwn n).foldl (stp F n hn) (List.replicate n c) = (List.range n).map U := by
  have r1 := round (F := F) (n := n) (hn := hn) (fun m t => (∀ i, i < n → gt t i = if m ≤ i then vv F c (n - i) i else c)) (fun p t hp hl h i hi => by
    rw [stp, gt_set (by omega)]
    by_cases z : p = i
    · subst z
      rw [if_pos rfl, if_pos (Nat.le_refl _)]
      have e : n - p = (n - (p + 1)) + 1 := by omega
      rw [e, vv]
      congr 1
      unfold nxP
      split
      · rename_i h1
        rw [h _ h1, if_pos (Nat.le_refl _)]
      · rename_i h1
        rw [h _ hh, if_neg (by omega)]
        have : n - (p + 1) = 0 := by omega
        rw [this]
        rfl
    · rw [if_neg z, h i hi]
      by_cases w : p + 1 ≤ i
      · rw [if_pos w, if_pos (by omega)]
      · rw [if_neg w, if_neg (by omega)]) n (List.replicate n c) (Nat.le_refl _) (by simp) (fun i hi => by
    rw [if_neg (by omega)]
    simp [gt, List.getElem?_replicate, hi])
  have l1 : ((dwn n).foldl (stp F n hn) (List.replicate n c)).length = n := by rw [stp_len]; simp
  rw [List.foldl_append]
  generalize (dwn n).foldl (stp F n hn) (List.replicate n c) = t1 at r1 l1
  have r2 := round (F := F) (n := n) (hn := hn) (fun m t => gt t hn = U hn ∧ ∀ i, m ≤ i → i < n → gt t i = U i) (fun p t hp hl h => by
    have up : F p (gt t (nxP n hn p)) = U p := by
      rw [hU p hp]
      congr 1
      unfold nxP
      split
      · rename_i h1; exact h.2 _ (Nat.le_refl _) h1
      · exact h.1
    have key : ∀ i, gt (stp F n hn t p) i = if p = i then U p else gt t i := fun i => by
      rw [stp, gt_set (by omega), up]
    refine ⟨?_, fun i h1 h2 => ?_⟩
    · rw [key]
      split
      · rename_i e; rw [e]
      · exact h.1
    · rw [key]
      split
      · rename_i e; rw [e]
      · exact h.2 i (by omega) h2) n t1 (Nat.le_refl _) l1 ⟨by rw [r1 hn hh, if_pos (Nat.zero_le _)]; exact hV, fun i h1 h2 => by omega⟩
  have l2 : ((dwn n).foldl (stp F n hn) t1).length = n := by rw [stp_len, l1]
  generalize (dwn n).foldl (stp F n hn) t1 = t2 at r2 l2
  apply List.ext_getElem?
  intro i
  by_cases hi : i < n
  · have := r2.2 i (Nat.zero_le _) hi
    rw [List.getElem?_map, List.getElem?_range hi]
    rw [gt_get (by omega)] at this
    rw [List.getElem?_eq_getElem (by omega)]
    simpa using this
  · rw [List.getElem?_eq_none (by omega), List.getElem?_eq_none (by simp; omega)]
section
variable {l : Lso (List Nat)} (r0 : 0 < l.r.length)
def fU (a b : Nat → Bool) (p : Nat) (x : Bool) : Bool := b p || (a p && x)
def fA (a : Nat → Bool) (p : Nat) (x : Bool) : Bool := a p && x
theorem vv_u {a b : Nat → Bool} : ∀ (m p : Nat), vv (fU a b) false m p = true ↔ ∃ k, k < m ∧ b (p + k) = true ∧ ∀ t, t < k → a (p + t) = true
  | 0, p => by simp [vv]
  | m + 1, p => by
    rw [vv, fU, Bool.or_eq_true, Bool.and_eq_true, vv_u m]
    constructor
    · rintro (h | ⟨h, k, hk, h1, h2⟩)
      · exact ⟨0, by omega, h, fun t ht => by omega⟩
      · refine ⟨k + 1, by omega, by rw [show p + (k + 1) = p + 1 + k by omega]; exact h1, fun t ht => ?_⟩
        by_cases z : t = 0
        · subst z; exact h
        · have := h2 (t - 1) (by omega)
          rwa [show p + 1 + (t - 1) = p + t by omega] at this
    · rintro ⟨k, hk, h1, h2⟩
      by_cases z : k = 0
      · subst z; exact .inl h1
      · refine .inr ⟨h2 0 (by omega), k - 1, by omega, by rw [show p + 1 + (k - 1) = p + k by omega]; exact h1, fun t ht => ?_⟩
        rw [show p + 1 + t = p + (t + 1) by omega]
        exact h2 _ (by omega)
theorem vv_a {a : Nat → Bool} : ∀ (m p : Nat), vv (fA a) true m p = true ↔ ∀ k, k < m → a (p + k) = true
  | 0, p => by simp [vv]
  | m + 1, p => by
    rw [vv, fA, Bool.and_eq_true, vv_a m]
    constructor
    · rintro ⟨h, h2⟩ k hk
      by_cases z : k = 0
      · subst z; exact h
      · have := h2 (k - 1) (by omega)
        rwa [show p + 1 + (k - 1) = p + k by omega] at this
    · intro h
      refine ⟨h 0 (by omega), fun k hk => ?_⟩
      rw [show p + 1 + k = p + (k + 1) by omega]
      exact h _ (by omega)
include r0
theorem nx_U (φ : Sen) {p : Nat} (hp : p < sz l) : bsat l φ (nxP (sz l) l.h.length p) = bsat l φ (p + 1) := by
  unfold nxP
  split
  · rfl
  · have : p + 1 = sz l := by omega
    rw [this, bsat_end r0]
theorem unt_h (a b : Sen) : vv (fU (bsat l a) (bsat l b)) false (sz l - l.h.length) l.h.length = bsat l (.unt a b) l.h.length := by
  rw [Bool.eq_iff_iff, vv_u, bsat_iff r0]
  have e : sz l - l.h.length = l.r.length := by unfold sz; omega
  rw [e]
  simp only [sat]
  constructor
  · rintro ⟨k, hk, h1, h2⟩
    refine ⟨l.h.length + k, by omega, (bsat_iff r0 b _).mp h1, fun x x1 x2 => ?_⟩
    have := (bsat_iff r0 a _).mp (h2 (x - l.h.length) (by omega))
    rwa [show l.h.length + (x - l.h.length) = x by omega] at this
  · rintro ⟨j, hj, h1, h2⟩
    have hm := Nat.mod_lt (j - l.h.length) r0
    have hd := Nat.mod_add_div (j - l.h.length) l.r.length
    have hle := Nat.mod_le (j - l.h.length) l.r.length
    refine ⟨(j - l.h.length) % l.r.length, hm, (bsat_iff r0 b _).mpr ?_, fun t ht => (bsat_iff r0 a _).mpr (h2 _ (by omega) (by omega))⟩
    have := sat_per r0 b (i := l.h.length + (j - l.h.length) % l.r.length) (by omega) ((j - l.h.length) / l.r.length)
    rw [show l.h.length + (j - l.h.length) % l.r.length + l.r.length * ((j - l.h.length) / l.r.length) = j by omega] at this
    exact this.mp h1
theorem alw_h (a : Sen) : vv (fA (bsat l a)) true (sz l - l.h.length) l.h.length = bsat l (.alw a) l.h.length := by
  rw [Bool.eq_iff_iff, vv_a, bsat_iff r0]
  have e : sz l - l.h.length = l.r.length := by unfold sz; omega
  rw [e]
  simp only [sat]
  constructor
  · intro h j hj
    have hm := Nat.mod_lt (j - l.h.length) r0
    have hd := Nat.mod_add_div (j - l.h.length) l.r.length
    have := sat_per r0 a (i := l.h.length + (j - l.h.length) % l.r.length) (by omega) ((j - l.h.length) / l.r.length)
    rw [show l.h.length + (j - l.h.length) % l.r.length + l.r.length * ((j - l.h.length) / l.r.length) = j by omega] at this
    exact this.mpr ((bsat_iff r0 a _).mp (h _ hm))
  · exact fun h k _ => (bsat_iff r0 a _).mpr (h _ (by omega))
def tabl (l : Lso (List Nat)) (φ : Sen) : List Bool := (List.range (sz l)).map (bsat l φ)
theorem unt_t (a b : Sen) : (dwn (sz l) ++ dwn (sz l)).foldl (stp (fU (bsat l a) (bsat l b)) (sz l) l.h.length) (List.replicate (sz l) false) = tabl l (.unt a b) :=
  twice (by unfold sz; omega) (fun p hp => by rw [nx_U r0 _ hp]; exact unt_rec r0 a b p) (unt_h r0 a b)
theorem alw_t (a : Sen) : (dwn (sz l) ++ dwn (sz l)).foldl (stp (fA (bsat l a)) (sz l) l.h.length) (List.replicate (sz l) true) = tabl l (.alw a) :=
  twice (by unfold sz; omega) (fun p hp => by rw [nx_U r0 _ hp]; exact alw_rec r0 a p) (alw_h r0 a)
theorem atl_t (a : Sen) : tabl l (.unt .tru a) = tabl l (.atl a) := by
  unfold tabl
  apply List.map_congr_left
  intro i _
  exact (atl_unt r0 a i).symm
end
theorem tabl_len {l : Lso (List Nat)} {φ : Sen} : (tabl l φ).length = sz l := by simp [tabl]
theorem tabl_at {l : Lso (List Nat)} {φ : Sen} {i : Nat} (h : i < sz l) : gt (tabl l φ) i = bsat l φ i := by simp [tabl, gt, h]
theorem told_b {l : Lso (List Nat)} {ps : List Sen} {bs : List Nat} {i : Nat} : ∀ s : Sen, (∀ x ∈ allS s, x.isT = false) → told (row l i) ps bs s = bsat l s i
  | .tru, _ => rfl
  | .lig k, _ => rfl
  | .neg a, h => by simp only [told, bsat]; rw [told_b a fun x hx => h x (allS_sub (a := a) (by simp [Sen.ps]) hx)]
  | .con a b, h => by
    simp only [told, bsat]
    rw [told_b a fun x hx => h x (allS_sub (a := a) (by simp [Sen.ps]) hx), told_b b fun x hx => h x (allS_sub (a := b) (by simp [Sen.ps]) hx)]
  | .dis a b, h => by
    simp only [told, bsat]
    rw [told_b a fun x hx => h x (allS_sub (a := a) (by simp [Sen.ps]) hx), told_b b fun x hx => h x (allS_sub (a := b) (by simp [Sen.ps]) hx)]
  | .alw a, h => absurd (h _ (allS_self _)) (by simp [Sen.isT])
  | .atl a, h => absurd (h _ (allS_self _)) (by simp [Sen.isT])
  | .unt a b, h => absurd (h _ (allS_self _)) (by simp [Sen.isT])
end Las
end Py
namespace Py
open PySem (Str)
namespace Las
structure TB (P : Prog) : Prop where
  nx : P.fn "next_place_of_lasso" = some c_next_place_of_lasso
  bu : P.fn "by_until" = some c_by_until
  ba : P.fn "by_always" = some c_by_always
  tp : P.fn "truths_of_parts" = some c_truths_of_parts
  tt : P.fn "truth_table" = some c_truth_table
  ta : P.fn "truths_along" = some c_truths_along
theorem set_l {h : AH} {a : Nat} {xs : List D} {k : Nat} {d : D} (e : h a = some (.lst xs)) (hk : k < xs.length) : setD (.loc a) (.int k) d h = some (put h a (.lst (xs.set k d))) := by
  have : ixN xs.length (k : Int) = some k := by unfold ixN; simp [hk]
  simp [setD, e, this]
theorem bLs_set {xs : List Bool} {k : Nat} {b : Bool} : (bLs xs).set k (.bl b) = bLs (xs.set k b) := by simp [bLs, List.map_set]
theorem rept_bl (b : Bool) (k : Nat) : rept [.bl b] (k : Int) = bLs (List.replicate k b) := by rw [rept_one]; simp [bLs]
theorem rng_dwn (n : Nat) : (rngL 0 n).reverse = nL (dwn n) := by
  unfold rngL nL dwn
  rw [List.map_reverse]
  simp
theorem rept_two (xs : List D) : rept xs 2 = xs ++ xs := by
  simp [rept, List.replicate_succ]
theorem nL_app2 (xs ys : List Nat) : nL xs ++ nL ys = nL (xs ++ ys) := by simp [nL]
theorem dwn_mem {n p : Nat} : p ∈ dwn n ↔ p < n := by simp [dwn]
section
variable {P : Prog} {L : Nat} {h : AH} {Q : D → AH → Prop} {X : Xc}
theorem next_i (hL : 1 ≤ L) (T : TB P) {l : Lso Itm} {p : Nat} (q : Q (.int (nxP (sz l) l.h.length p : Nat)) h) : wC P L "next_place_of_lasso" [lsD l, .int p] h Q X := by
  obtain ⟨n, rfl⟩ : ∃ n, L = n + 1 := ⟨L - 1, by omega⟩
  refine wC_i T.nx rfl ?_
  simp [c_next_place_of_lasso, List.replicate]
  unfold nxP sz at q
  by_cases z : p + 1 < l.h.length + l.r.length
  · have z' : (p : Int) + 1 < l.h.length + l.r.length := by omega
    rw [if_pos z] at q
    simp [z']
    refine someQ_i ?_
    simpa using q
  · have z' : ¬ (p : Int) + 1 < l.h.length + l.r.length := by omega
    rw [if_neg z] at q
    simp [z']
    exact someQ_i q
theorem until_i (hL : 2 ≤ L) (T : TB P) {l : Lso Itm} (r0 : 0 < l.r.length) (sl : sz l ≤ 100000) {A B : Sen} {a b : Nat} (ha : h a = some (.lst (bLs (tabl l A)))) (hb : h b = some (.lst (bLs (tabl l B)))) (q : ∀ c, h c = none → Q (.loc c) (put h c (.lst (bLs (tabl l (.unt A B)))))) : wC P L "by_until" [lsD l, .loc a, .loc b] h Q X := by
  obtain ⟨n, rfl⟩ : ∃ n, L = n + 1 := ⟨L - 1, by omega⟩
  have hn : l.h.length < sz l := by unfold sz; omega
  have sm : small62 (sz l : Int) = true := by simp [small62]; omega
  refine wC_i T.bu rfl ?_
  simp [-v_rB, c_by_until, List.replicate, ha, tabl_len]
  rw [o_rep (by omega) (by simp; omega), rept_bl]
  simp [-v_rB]
  intro c hc
  have nca : a ≠ c := fun z => by rw [z, hc] at ha; exact absurd ha (by simp)
  have ncb : b ≠ c := fun z => by rw [z, hc] at hb; exact absurd hb (by simp)
  rw [v_rB]
  simp [-v_rB, put_ne nca, ha, tabl_len, sm]
  refine ⟨by omega, ?_⟩
  rw [sls_o (by rw [rngL_length]; omega)]
  simp [-v_rB]
  have eo := o_rep (xs := (rngL 0 (sz l)).reverse) (k := 2) (h := put h c (.lst (bLs (List.replicate (sz l) false)))) (by omega) (by simp; omega)
  rw [show ((2 : Nat) : Int) = 2 from rfl] at eo
  rw [eo]
  simp [-v_rB, rept_two]
  rw [rng_dwn, nL_app2]
  refine for_f (fun i env h' => ∃ o, env = [some (lsD l), some (.loc a), some (.loc b), some (.loc c), o] ∧ Sub h h' ∧ h' c = some (.lst (bLs (((dwn (sz l) ++ dwn (sz l)).take i).foldl (stp (fU (bsat l A) (bsat l B)) (sz l) l.h.length) (List.replicate (sz l) false))))) ⟨none, rfl, sub_put hc, by rw [put_eq]; rfl⟩ ?_ ?_
  · rintro i x env h' N hx ⟨o, rfl, sb, e⟩ hN
    unfold nL at hx
    rw [List.getElem?_map, Option.map_eq_some_iff] at hx
    obtain ⟨p, hp, rfl⟩ := hx
    have pl : p < sz l := by
      have := List.mem_of_getElem? hp
      rw [List.mem_append, dwn_mem] at this
      simpa using this
    have ea := sb a _ ha
    have eb := sb b _ hb
    rw [take_snoc hp, List.foldl_append] at hN
    have tl : (((dwn (sz l) ++ dwn (sz l)).take i).foldl (stp (fU (bsat l A) (bsat l B)) (sz l) l.h.length) (List.replicate (sz l) false)).length = sz l := by rw [stp_len]; simp
    generalize ((dwn (sz l) ++ dwn (sz l)).take i).foldl (stp (fU (bsat l A) (bsat l B)) (sz l) l.h.length) (List.replicate (sz l) false) = t at e hN tl
    have nl : nxP (sz l) l.h.length p < sz l := by unfold nxP; split <;> omega
    simp only [List.foldl_cons, List.foldl_nil, stp] at hN
    have fin : ∀ v, v = fU (bsat l A) (bsat l B) p (gt t (nxP (sz l) l.h.length p)) → N [some (lsD l), some (.loc a), some (.loc b), some (.loc c), some (.int p)] (put h' c (.lst ((bLs t).set p (.bl v)))) := fun v hv => by
      refine hN _ _ ⟨_, rfl, sb.put hc, ?_⟩
      rw [put_eq, bLs_set, hv]
    simp [x_l ea, x_l eb, bLs_at (show p < (tabl l A).length by rw [tabl_len]; exact pl), bLs_at (show p < (tabl l B).length by rw [tabl_len]; exact pl), tabl_at pl]
    unfold fU at fin
    cases z1 : bsat l B p <;> cases z2 : bsat l A p <;> simp only [z1, z2, Bool.false_or, Bool.true_or, Bool.false_and, Bool.true_and] at fin <;> simp
    · rw [set_l e (by rw [bLs_len]; omega), gd_some]
      exact fin _ rfl
    · refine next_i (by omega) T ?_
      simp [x_l e, bLs_at (show nxP (sz l) l.h.length p < t.length by omega)]
      rw [set_l e (by rw [bLs_len]; omega), gd_some]
      exact fin _ rfl
    · rw [set_l e (by rw [bLs_len]; omega), gd_some]
      exact fin _ rfl
    · rw [set_l e (by rw [bLs_len]; omega), gd_some]
      exact fin _ rfl
  · rintro env h' ⟨o, rfl, sb, e⟩
    have ln : (nL (dwn (sz l) ++ dwn (sz l))).length = (dwn (sz l) ++ dwn (sz l)).length := by simp [nL]
    rw [ln, List.take_length, unt_t r0] at e
    simp
    refine ⟨put h c (.lst (bLs (tabl l (.unt A B)))), fun x u hx => ?_, q c hc⟩
    by_cases z : x = c
    · subst z
      rw [put_eq] at hx
      rw [e, ← hx]
    · rw [put_ne z] at hx
      exact sb x u hx
theorem always_i (hL : 2 ≤ L) (T : TB P) {l : Lso Itm} (r0 : 0 < l.r.length) (sl : sz l ≤ 100000) {A : Sen} {a : Nat} (ha : h a = some (.lst (bLs (tabl l A)))) (q : ∀ c, h c = none → Q (.loc c) (put h c (.lst (bLs (tabl l (.alw A)))))) : wC P L "by_always" [lsD l, .loc a] h Q X := by
  obtain ⟨n, rfl⟩ : ∃ n, L = n + 1 := ⟨L - 1, by omega⟩
  have hn : l.h.length < sz l := by unfold sz; omega
  have sm : small62 (sz l : Int) = true := by simp [small62]; omega
  refine wC_i T.ba rfl ?_
  simp [-v_rB, c_by_always, List.replicate, ha, tabl_len]
  rw [o_rep (by omega) (by simp; omega), rept_bl]
  simp [-v_rB]
  intro c hc
  have nca : a ≠ c := fun z => by rw [z, hc] at ha; exact absurd ha (by simp)
  rw [v_rB]
  simp [-v_rB, put_ne nca, ha, tabl_len, sm]
  refine ⟨by omega, ?_⟩
  rw [sls_o (by rw [rngL_length]; omega)]
  simp [-v_rB]
  have eo := o_rep (xs := (rngL 0 (sz l)).reverse) (k := 2) (h := put h c (.lst (bLs (List.replicate (sz l) true)))) (by omega) (by simp; omega)
  rw [show ((2 : Nat) : Int) = 2 from rfl] at eo
  rw [eo]
  simp [-v_rB, rept_two]
  rw [rng_dwn, nL_app2]
  refine for_f (fun i env h' => ∃ o, env = [some (lsD l), some (.loc a), some (.loc c), o] ∧ Sub h h' ∧ h' c = some (.lst (bLs (((dwn (sz l) ++ dwn (sz l)).take i).foldl (stp (fA (bsat l A)) (sz l) l.h.length) (List.replicate (sz l) true))))) ⟨none, rfl, sub_put hc, by rw [put_eq]; rfl⟩ ?_ ?_
  · rintro i x env h' N hx ⟨o, rfl, sb, e⟩ hN
    unfold nL at hx
    rw [List.getElem?_map, Option.map_eq_some_iff] at hx
    obtain ⟨p, hp, rfl⟩ := hx
    have pl : p < sz l := by
      have := List.mem_of_getElem? hp
      rw [List.mem_append, dwn_mem] at this
      simpa using this
    have ea := sb a _ ha
    rw [take_snoc hp, List.foldl_append] at hN
    have tl : (((dwn (sz l) ++ dwn (sz l)).take i).foldl (stp (fA (bsat l A)) (sz l) l.h.length) (List.replicate (sz l) true)).length = sz l := by rw [stp_len]; simp
    generalize ((dwn (sz l) ++ dwn (sz l)).take i).foldl (stp (fA (bsat l A)) (sz l) l.h.length) (List.replicate (sz l) true) = t at e hN tl
    have nl : nxP (sz l) l.h.length p < sz l := by unfold nxP; split <;> omega
    simp only [List.foldl_cons, List.foldl_nil, stp] at hN
    have fin : ∀ v, v = fA (bsat l A) p (gt t (nxP (sz l) l.h.length p)) → N [some (lsD l), some (.loc a), some (.loc c), some (.int p)] (put h' c (.lst ((bLs t).set p (.bl v)))) := fun v hv => by
      refine hN _ _ ⟨_, rfl, sb.put hc, ?_⟩
      rw [put_eq, bLs_set, hv]
    simp [x_l ea, bLs_at (show p < (tabl l A).length by rw [tabl_len]; exact pl), tabl_at pl]
    unfold fA at fin
    cases z2 : bsat l A p <;> simp only [z2, Bool.false_or, Bool.true_or, Bool.false_and, Bool.true_and] at fin <;> simp
    · rw [set_l e (by rw [bLs_len]; omega), gd_some]
      exact fin _ rfl
    · refine next_i (by omega) T ?_
      simp [x_l e, bLs_at (show nxP (sz l) l.h.length p < t.length by omega)]
      rw [set_l e (by rw [bLs_len]; omega), gd_some]
      exact fin _ rfl
  · rintro env h' ⟨o, rfl, sb, e⟩
    have ln : (nL (dwn (sz l) ++ dwn (sz l))).length = (dwn (sz l) ++ dwn (sz l)).length := by simp [nL]
    rw [ln, List.take_length, alw_t r0] at e
    simp
    refine ⟨put h c (.lst (bLs (tabl l (.alw A)))), fun x u hx => ?_, q c hc⟩
    by_cases z : x = c
    · subst z
      rw [put_eq] at hx
      rw [e, ← hx]
    · rw [put_ne z] at hx
      exact sb x u hx
end
end Las
end Py
namespace Py
open PySem (Str)
namespace Las
def lcs (as : List Nat) : List D := as.map .loc
@[simp] theorem lcs_len (as : List Nat) : (lcs as).length = as.length := by simp [lcs]
theorem lcs_at {as : List Nat} {i : Nat} (h : i < as.length) : atI (lcs as) (i : Int) = some (.loc (gt as i)) := atN (by simp [lcs, List.getElem?_eq_getElem h, gt_get h])
/-- the tables of some sentences stand in the heap -/
def Tabs (l : Lso Itm) (h : AH) (as : List Nat) (ss : List Sen) : Prop := as.length = ss.length ∧ ∀ i p, ss[i]? = some p → h (gt as i) = some (.lst (bLs (tabl l p)))
theorem Tabs.sub {l : Lso Itm} {h h' : AH} {as : List Nat} {ss : List Sen} (t : Tabs l h as ss) (s : Sub h h') : Tabs l h' as ss := ⟨t.1, fun i p hp => s _ _ (t.2 i p hp)⟩
theorem gt_app1 {α : Type} [Inhabited α] {xs ys : List α} {i : Nat} (h : i < xs.length) : gt (xs ++ ys) i = gt xs i := by
  unfold gt
  rw [List.getElem?_append_left h]
theorem gt_app2 {α : Type} [Inhabited α] {xs : List α} {y : α} : gt (xs ++ [y]) xs.length = y := by simp [gt]
theorem Tabs.snoc {l : Lso Itm} {h : AH} {as : List Nat} {ss : List Sen} {a : Nat} {s : Sen} (t : Tabs l h as ss) (e : h a = some (.lst (bLs (tabl l s)))) : Tabs l h (as ++ [a]) (ss ++ [s]) := by
  refine ⟨by simp [t.1], fun i p hp => ?_⟩
  by_cases z : i < ss.length
  · rw [List.getElem?_append_left z] at hp
    rw [gt_app1 (by rw [t.1]; exact z)]
    exact t.2 i p hp
  · have : i = ss.length := by
      have := (List.getElem?_eq_some_iff.mp hp).1
      simp at this; omega
    subst this
    simp at hp
    subst hp
    rw [← t.1, gt_app2]
    exact e
theorem join_t {l : Lso Itm} {s : Sen} (hj : s.hd = .neg ∨ s.hd = .con ∨ s.hd = .dis) (i : Nat) : jn s.hd (s.ps.map fun p => bsat l p i) = bsat l s i := by
  cases s <;> simp [Sen.hd] at hj <;> rfl
section
variable {P : Prog} {L : Nat} {h : AH} {Q : D → AH → Prop} {X : Xc}
theorem col_i {n : Nat} {env : Env} {h : AH} {Q : List D → AH → Prop} {l : Lso Itm} {s : Sen} {as : List Nat} {t i : Nat} {own : List Nat} (hi : i < sz l) (ht : h t = some (.lst (lcs as))) (tt : Tabs l h as s.ps) (e4 : ∀ d : D, lk ((wipe env own).set 5 (some d)) 4 = some (.int i)) (e5 : ∀ d : D, lk ((wipe env own).set 5 (some d)) 5 = some d) (q : Q (bLs (s.ps.map fun p => bsat l p i)) h) (hp : s.ps.length ≤ 2) :
    CompG (wC P n) P.gl (.nm 5) own (.ix (.var 5) (.var 4)) env (.lst t (lcs as)) h Q := by
  refine comp_by (fun k acc h' => h = h' ∧ acc = bLs ((s.ps.take k).map fun p => bsat l p i)) ⟨rfl, by simp [bLs]⟩ (fun k acc h' _ z => by rw [← z.1]; exact ht) ?_ ?_
  · rintro k x acc h' N hx ⟨rfl, rfl⟩ hN
    have kl := (List.getElem?_eq_some_iff.mp hx).1
    simp at kl
    have kp : k < s.ps.length := by rw [← tt.1]; exact kl
    have e := tt.2 k s.ps[k] (List.getElem?_eq_getElem kp)
    have hx' : x = .loc (gt as k) := by
      simp only [v_lsti, lcs, List.getElem?_map, Option.map_eq_some_iff] at hx
      obtain ⟨a, ha, rfl⟩ := hx
      simp [gt, ha]
    subst hx'
    simp [e4, e5]
    rw [x_l e, bLs_at (by rw [tabl_len]; exact hi), tabl_at hi]
    simp
    refine ⟨by omega, hN _ _ ⟨rfl, ?_⟩⟩
    rw [take_snoc (List.getElem?_eq_getElem kp)]
    simp only [bLs, List.map_append, List.map_cons, List.map_nil, List.map_take]
  · rintro acc h' ⟨rfl, rfl⟩
    simp only [v_lsti, lcs_len, tt.1, List.take_length]
    exact q
theorem tparts_i (hL : 3 ≤ L) (T : TS P) (B : TB P) {l : Lso Itm} (r0 : 0 < l.r.length) (sl : sz l ≤ 100000) {s : Sen} (h1 : s.hd ≠ .tru) (h2 : s.hd ≠ .lig) {as : List Nat} {t : Nat} (ht : h t = some (.lst (lcs as))) (tt : Tabs l h as s.ps) (q : ∀ c, h c = none → Q (.loc c) (put h c (.lst (bLs (tabl l s))))) : wC P L "truths_of_parts" [s.d, lsD l, .loc t] h Q X := by
  obtain ⟨n, rfl⟩ : ∃ n, L = n + 1 := ⟨L - 1, by omega⟩
  have hn : l.h.length < sz l := by unfold sz; omega
  have sm : small62 (sz l : Int) = true := by simp [small62]; omega
  refine wC_i B.tp rfl ?_
  have p0 : 0 < s.ps.length := by cases s <;> simp [Sen.hd] at h1 h2 <;> simp [Sen.ps]
  have a0 : atI (lcs as) 0 = some (.loc (gt as 0)) := lcs_at (i := 0) (by rw [tt.1]; exact p0)
  have t0 := tt.2 0 s.ps[0] (List.getElem?_eq_getElem p0)
  have fin : ∀ c, h c = none → someQ Q (.loc c) (put h c (.lst (bLs (tabl l s)))) := fun c hc => someQ_i (q c hc)
  by_cases hj : s.hd = .neg ∨ s.hd = .con ∨ s.hd = .dis
  · have n6 : s.hd ≠ .alw := fun z => by rw [z] at hj; simp at hj
    have n7 : s.hd ≠ .atl := fun z => by rw [z] at hj; simp at hj
    have n8 : s.hd ≠ .unt := fun z => by rw [z] at hj; simp at hj
    have p2 : s.ps.length ≤ 2 := by cases s <;> simp [Sen.ps]
    simp [c_truths_of_parts, List.replicate, m6, m7, m8, n6, n7, n8, x_l ht, a0, n_len_l t0, tabl_len, sm]
    refine comp_by (fun i acc h' => Sub h h' ∧ acc = bLs ((List.range i).map (bsat l s))) ⟨sub_refl, by simp [bLs]⟩ (fun k acc h' _ z => trivial) ?_ ?_
    · rintro i x acc h' N hx ⟨sb, rfl⟩ hN
      obtain ⟨il, rfl⟩ := rngL_at hx
      simp [wipe]
      rw [c_l (sb t _ ht)]
      simp
      refine col_i (s := s) (i := i) il (sb t _ ht) (tt.sub sb) (fun d => by simp [wipe]) (fun d => by simp [wipe]) ?_ p2
      intro b hb
      refine joined_i (by omega) T put_eq hj (by simp) ?_
      rw [join_t hj]
      try simp
      refine ⟨by omega, hN _ _ ⟨sb.put (sub_no sb hb), ?_⟩⟩
      rw [List.range_succ]
      simp [bLs]
    · rintro acc h' ⟨sb, rfl⟩
      simp
      intro c hc
      have hc0 := sub_no sb hc
      exact someQ_s (sub_fresh sb hc0 hc) (q c hc0)
  · cases s with
    | tru => exact absurd rfl h1
    | lig k => exact absurd rfl h2
    | neg a => exact absurd (.inl rfl) hj
    | con a b => exact absurd (.inr (.inl rfl)) hj
    | dis a b => exact absurd (.inr (.inr rfl)) hj
    | alw a =>
      simp [c_truths_of_parts, List.replicate, m6, m7, m8, x_l ht, a0]
      exact always_i (by omega) B r0 sl t0 fin
    | atl a =>
      simp only [Sen.ps, List.getElem_cons_zero] at t0
      simp [c_truths_of_parts, List.replicate, m6, m7, m8, x_l ht, a0, n_len_l t0, tabl_len]
      rw [o_rep (by omega) (by simp; omega), rept_bl]
      simp
      intro b hb
      have nb : gt as 0 ≠ b := fun z => by rw [z, hb] at t0; exact absurd t0 (by simp)
      have nt : t ≠ b := fun z => by rw [z, hb] at ht; exact absurd ht (by simp)
      rw [x_l (show put h b _ t = _ by rw [put_ne nt]; exact ht)]
      simp [a0]
      have e1 : List.replicate (sz l) true = tabl l .tru := by
        unfold tabl
        apply List.ext_getElem?
        intro i
        by_cases hi : i < sz l <;> simp [hi, bsat, List.getElem?_replicate]
      refine until_i (A := .tru) (B := a) (by omega) B r0 sl (by rw [put_eq, e1]) (by rw [put_ne nb]; exact t0) fun c hc => ?_
      have ncb : c ≠ b := fun z => by rw [z, put_eq] at hc; exact absurd hc (by simp)
      have hc0 : h c = none := by rw [put_ne ncb] at hc; exact hc
      refine someQ_s (sub_fresh (sub_put hb) hc0 hc) ?_
      rw [atl_t r0]
      exact q c hc0
    | unt a b =>
      have a1 : atI (lcs as) 1 = some (.loc (gt as 1)) := lcs_at (i := 1) (by rw [tt.1]; simp [Sen.ps])
      have t1 := tt.2 1 b rfl
      simp [c_truths_of_parts, List.replicate, m6, m7, m8, x_l ht, a0, a1]
      exact until_i (by omega) B r0 sl t0 t1 fin
theorem table_i (T : TS P) (B : TB P) {l : Lso Itm} (r0 : 0 < l.r.length) (sl : sz l ≤ 100000) {many : Nat} (hr : ∀ r ∈ l.h ++ l.r, r.length = many) (s : Sen) (ok : s.Ok many) {L : Nat} (hL : s.dep + 4 ≤ L) (hd : s.dep ≤ 20) {h : AH} {Q : D → AH → Prop} {X : Xc} (q : ∀ c, h c = none → Q (.loc c) (put h c (.lst (bLs (tabl l s))))) : wC P L "truth_table" [s.d, lsD l] h Q X := by
  obtain ⟨n, rfl⟩ : ∃ n, L = n + 1 := ⟨L - 1, by omega⟩
  have hsz : l.h.length + l.r.length = sz l := rfl
  refine wC_i B.tt rfl ?_
  simp [c_truth_table, List.replicate]
  refine mom_i T (by omega) hd ?_
  by_cases hm : mom s = true
  · simp [hm]
    rw [o_addt (by simp; omega)]
    simp
    refine comp_g (fun r : Itm => .tup (nL r)) (fun r => .bl (told r [] [] s)) (l.h ++ l.r) (by simp [isD]) trivial (by simp; omega) (fun r hr' k hk => ?_) ?_
    · have rl := hr r hr'
      simp [wipe]
      exact now_i (by omega) T s (by rw [rl]; exact ok) hm (by omega) hk
    · intro c hc
      have e : (l.h ++ l.r).map (fun r => D.bl (told r [] [] s)) = bLs (tabl l s) := by
        apply List.ext_getElem?
        intro i
        by_cases hi : i < sz l
        · have : (l.h ++ l.r)[i]? = some (row l i) := by
            by_cases z : i < l.h.length
            · rw [List.getElem?_append_left z, row_h z, List.getElem?_eq_getElem z, gt_get z]
            · obtain ⟨k, rfl⟩ : ∃ k, i = l.h.length + k := ⟨i - l.h.length, by omega⟩
              have kr : k < l.r.length := by omega
              rw [List.getElem?_append_right (by omega), row_r, Nat.add_sub_cancel_left, Nat.mod_eq_of_lt kr, List.getElem?_eq_getElem kr, gt_get kr]
          rw [List.getElem?_map, this]
          simp [bLs, tabl, hi, told_b s (mom_iff.mp hm)]
        · rw [List.getElem?_eq_none (by simp; omega), List.getElem?_eq_none (by rw [bLs_len, tabl_len]; omega)]
      rw [e]
      exact someQ_i (q c hc)
  · have hf : mom s = false := by simpa using hm
    have n1 : s.hd ≠ .tru := fun z => hm (mom_iff.mpr fun x hx => by cases s <;> simp [Sen.hd] at z; simp [allS] at hx; subst hx; rfl)
    have n2 : s.hd ≠ .lig := fun z => hm (mom_iff.mpr fun x hx => by cases s <;> simp [Sen.hd] at z; simp [allS] at hx; subst hx; rfl)
    simp [hf]
    refine parts_i (by omega) T ?_
    try simp
    have p2 : s.ps.length ≤ 2 := by cases s <;> simp [Sen.ps]
    refine comp_by (fun i acc h' => Sub h h' ∧ ∃ as, acc = lcs as ∧ Tabs l h' as (s.ps.take i)) ⟨sub_refl, [], rfl, rfl, fun i p hp => by simp at hp⟩ (fun k acc h' _ z => trivial) ?_ ?_
    · rintro i x acc h' N hx ⟨sb, as, rfl, tt⟩ hN
      simp only [v_fixi, sL, List.getElem?_map, Option.map_eq_some_iff] at hx
      obtain ⟨p, hp, rfl⟩ := hx
      have pm := List.mem_of_getElem? hp
      have pd := ps_dep pm
      simp [wipe]
      refine table_i T B r0 sl hr p (ps_ok ok pm) (by omega) (by omega) fun c hc => ?_
      have tl := tt.1
      rw [List.length_take] at tl
      try simp
      refine ⟨by omega, hN _ _ ⟨sb.put (sub_no sb hc), as ++ [c], by simp [lcs], ?_⟩⟩
      rw [take_snoc hp]
      exact (tt.sub (sub_put hc)).snoc put_eq
    · rintro acc h' ⟨sb, as, rfl, tt⟩
      simp only [v_fixi, sL_len, List.take_length] at tt
      intro t ht
      try simp
      refine tparts_i (by omega) T B r0 sl n1 n2 put_eq (tt.sub (sub_put ht)) fun c hc => ?_
      have hc1 : h c = none := sub_no sb (sub_no (sub_put ht) hc)
      refine someQ_s (sub_fresh (fun b u e => sub_put ht _ _ (sb _ _ e)) hc1 hc) (q c hc1)
termination_by s.dep
theorem along_i (T : TS P) (B : TB P) {l : Lso Itm} (r0 : 0 < l.r.length) (sl : sz l ≤ 100000) {many : Nat} (hr : ∀ r ∈ l.h ++ l.r, r.length = many) {s : Sen} (ok : s.Ok many) {L : Nat} (hL : s.dep + 5 ≤ L) (hd : s.dep ≤ 20) (q : Q (.tup (nL ((tabl l s).map fun b => if b then 1 else 0))) h) : wC P L "truths_along" [s.d, lsD l] h Q X := by
  obtain ⟨n, rfl⟩ : ∃ n, L = n + 1 := ⟨L - 1, by omega⟩
  refine wC_i B.ta rfl ?_
  simp [c_truths_along, List.replicate]
  refine table_i T B r0 sl hr s ok (by omega) hd fun c hc => ?_
  simp [c_l (put_eq (h := h) (a := c) (o := .lst (bLs (tabl l s))))]
  refine comp_g (fun b : Bool => .bl b) (fun b => .int ((if b then 1 else 0 : Nat) : Nat)) (tabl l s) rfl put_eq (by rw [tabl_len]; omega) (fun b _ k hk => ?_) ?_
  · simp [wipe]
    cases b <;> simpa using hk
  · try simp
    refine someQ_s (sub_put hc) ?_
    have e : (tabl l s).map (fun b => D.int ((if b then 1 else 0 : Nat) : Nat)) = nL ((tabl l s).map fun b => if b then 1 else 0) := by
      simp [nL, Function.comp_def]
    rw [e]
    exact q
theorem holds_i (T : TS P) (B : TB P) (ha : P.fn "holds_along" = some c_holds_along) {l : Lso Itm} (r0 : 0 < l.r.length) (sl : sz l ≤ 100000) {many : Nat} (hr : ∀ r ∈ l.h ++ l.r, r.length = many) {s : Sen} (ok : s.Ok many) {L : Nat} (hL : s.dep + 5 ≤ L) (hd : s.dep ≤ 20) (q : Q (.bl (bsat l s 0)) h) : wC P L "holds_along" [s.d, lsD l] h Q X := by
  obtain ⟨n, rfl⟩ : ∃ n, L = n + 1 := ⟨L - 1, by omega⟩
  have s0 : 0 < sz l := by unfold sz; omega
  refine wC_i ha rfl ?_
  simp [c_holds_along, List.replicate]
  refine table_i T B r0 sl hr s ok (by omega) hd fun c hc => ?_
  have e0 : atI (bLs (tabl l s)) 0 = some (.bl (gt (tabl l s) 0)) := bLs_at (i := 0) (by rw [tabl_len]; exact s0)
  simp [x_l (put_eq (h := h) (a := c) (o := .lst (bLs (tabl l s)))), e0, tabl_at s0]
  exact someQ_s (sub_put hc) q
end
end Las
end Py
namespace Py
open PySem (Str)
namespace Las
def c__law_places : Fn := ⟨2, 5, (.cons (.asg (.nm 2) (.bin .add (.b1 .len (.ix (.var 0) (.lit (.int 0)))) (.b1 .len (.ix (.var 0) (.lit (.int 1)))))) (.cons (.asg (.nm 3) (.lst .nil)) (.cons (.for_ (.nm 4) (.rng1 (.var 2)) (.cons (.ifs (.cmp .nin (.var 1) (.var 3)) (.cons (.expr (.mt .append (.var 3) (.cons (.var 1) .nil))) (.cons (.asg (.nm 1) (.bin .add (.var 1) (.lit (.int 1)))) (.cons (.ifs (.cmp .eq (.var 1) (.var 2)) (.cons (.asg (.nm 1) (.b1 .len (.ix (.var 0) (.lit (.int 0))))) .nil) .nil) .nil))) .nil) .nil)) (.cons (.ret (.var 3)) .nil))))⟩
def c__law_true_at : Fn := ⟨3, 5, (.cons (.asg (.nm 3) (.bin .add (.ix (.var 1) (.lit (.int 0))) (.ix (.var 1) (.lit (.int 1))))) (.cons (.ifs (.cmp .eq (.ix (.var 0) (.lit (.int 0))) (.lit (.str "true"))) (.cons (.ret (.lit (.bl true))) .nil) .nil) (.cons (.ifs (.cmp .eq (.ix (.var 0) (.lit (.int 0))) (.lit (.str "light"))) (.cons (.ret (.cmp .eq (.ix (.ix (.var 3) (.var 2)) (.ix (.var 0) (.lit (.int 1)))) (.lit (.int 1)))) .nil) .nil) (.cons (.ifs (.cmp .eq (.ix (.var 0) (.lit (.int 0))) (.lit (.str "not"))) (.cons (.ret (.not (.call "_law_true_at" (.cons (.ix (.var 0) (.lit (.int 1))) (.cons (.var 1) (.cons (.var 2) .nil)))))) .nil) .nil) (.cons (.ifs (.cmp .eq (.ix (.var 0) (.lit (.int 0))) (.lit (.str "and"))) (.cons (.ret (.and (.call "_law_true_at" (.cons (.ix (.var 0) (.lit (.int 1))) (.cons (.var 1) (.cons (.var 2) .nil)))) (.call "_law_true_at" (.cons (.ix (.var 0) (.lit (.int 2))) (.cons (.var 1) (.cons (.var 2) .nil)))))) .nil) .nil) (.cons (.ifs (.cmp .eq (.ix (.var 0) (.lit (.int 0))) (.lit (.str "or"))) (.cons (.ret (.or (.call "_law_true_at" (.cons (.ix (.var 0) (.lit (.int 1))) (.cons (.var 1) (.cons (.var 2) .nil)))) (.call "_law_true_at" (.cons (.ix (.var 0) (.lit (.int 2))) (.cons (.var 1) (.cons (.var 2) .nil)))))) .nil) .nil) (.cons (.for_ (.nm 4) (.seq (.call "_law_places" (.cons (.var 1) (.cons (.var 2) .nil)))) (.cons (.ifs (.and (.cmp .eq (.ix (.var 0) (.lit (.int 0))) (.lit (.str "always"))) (.not (.call "_law_true_at" (.cons (.ix (.var 0) (.lit (.int 1))) (.cons (.var 1) (.cons (.var 4) .nil)))))) (.cons (.ret (.lit (.bl false))) .nil) .nil) (.cons (.ifs (.and (.cmp .eq (.ix (.var 0) (.lit (.int 0))) (.lit (.str "atlast"))) (.call "_law_true_at" (.cons (.ix (.var 0) (.lit (.int 1))) (.cons (.var 1) (.cons (.var 4) .nil))))) (.cons (.ret (.lit (.bl true))) .nil) .nil) (.cons (.ifs (.cmp .eq (.ix (.var 0) (.lit (.int 0))) (.lit (.str "until"))) (.cons (.ifs (.call "_law_true_at" (.cons (.ix (.var 0) (.lit (.int 2))) (.cons (.var 1) (.cons (.var 4) .nil)))) (.cons (.ret (.lit (.bl true))) .nil) .nil) (.cons (.ifs (.not (.call "_law_true_at" (.cons (.ix (.var 0) (.lit (.int 1))) (.cons (.var 1) (.cons (.var 4) .nil))))) (.cons (.ret (.lit (.bl false))) .nil) .nil) .nil)) .nil) .nil)))) (.cons (.ret (.cmp .eq (.ix (.var 0) (.lit (.int 0))) (.lit (.str "always")))) .nil))))))))⟩
structure TN (P : Prog) : Prop where
  pl : P.fn "_law_places" = some c__law_places
  ta : P.fn "_law_true_at" = some c__law_true_at
theorem k_ninN {a : Nat} {xs : List Nat} {x : Nat} {h : AH} (ha : h a = some (.lst (nL xs))) : cmpD .nin (.v (.int x)) (.v (.loc a)) h = some (!decide (x ∈ xs)) := by
  show (inD (.v (.int x)) (.v (.loc a)) h).map (!·) = _
  unfold inD
  have e : ((nL xs).any fun z => eqv z (.int x)) = decide (x ∈ xs) := by
    rw [Bool.eq_iff_iff, List.any_eq_true, decide_eq_true_iff]
    constructor
    · rintro ⟨z, hz, e⟩
      obtain ⟨i, hi, rfl⟩ := nL_mem hz
      have : ((i : Int) == (x : Int)) = true := e
      simp at this
      have e2 : i = x := by omega
      rw [← e2]; exact hi
    · intro hx
      refine ⟨.int x, by unfold nL; exact List.mem_map.mpr ⟨x, hx, rfl⟩, ?_⟩
      show ((x : Int) == (x : Int)) = true
      simp
  simp only [s_locV ha]
  rw [show pu 40 (.int (x : Int)) = true from rfl, nLpu, e]
  rfl
section
variable {l : Lso (List Nat)} (r0 : 0 < l.r.length)
def cnt (l : Lso (List Nat)) (p : Nat) : Nat := if p ≤ l.h.length then sz l - p else l.r.length
def plL (l : Lso (List Nat)) (p m : Nat) : List Nat := (List.range m).map fun k => wr l (p + k)
theorem wr_lt {i : Nat} (h : i < sz l) : wr l i = i := by
  unfold wr
  split
  · rfl
  · unfold sz at h
    rw [Nat.mod_eq_of_lt (by omega)]
    omega
include r0
theorem cnt_le {p : Nat} (hp : p < sz l) : cnt l p ≤ sz l ∧ 0 < cnt l p := by unfold cnt; unfold sz at *; split <;> omega
theorem wr_sz (i : Nat) : wr l i < sz l := by
  unfold wr sz
  split
  · omega
  · have := Nat.mod_lt (i - l.h.length) r0
    omega
theorem wr_nx (i : Nat) : wr l (i + 1) = nxP (sz l) l.h.length (wr l i) := by
  unfold nxP
  by_cases h : i < l.h.length
  · rw [wr_lt (by unfold sz; omega), wr_lt (show i < sz l by unfold sz; omega), if_pos (by unfold sz; omega)]
  · have e1 : wr l (i + 1) = l.h.length + (i + 1 - l.h.length) % l.r.length := by unfold wr; rw [if_neg (by omega)]
    have e2 : wr l i = l.h.length + (i - l.h.length) % l.r.length := by unfold wr; rw [if_neg h]
    have hm := Nat.mod_lt (i - l.h.length) r0
    rw [e1, e2, show i + 1 - l.h.length = (i - l.h.length) + 1 by omega, Nat.add_mod]
    unfold sz
    by_cases z : (i - l.h.length) % l.r.length + 1 < l.r.length
    · rw [if_pos (by omega)]
      by_cases w : l.r.length = 1
      · omega
      · rw [Nat.mod_eq_of_lt (show 1 < l.r.length by omega), Nat.mod_eq_of_lt z]
        omega
    · rw [if_neg (by omega)]
      by_cases w : l.r.length = 1
      · rw [w, Nat.mod_one]; rfl
      · rw [Nat.mod_eq_of_lt (show 1 < l.r.length by omega), show (i - l.h.length) % l.r.length + 1 = l.r.length by omega, Nat.mod_self]
        rfl
theorem pl_new {p m : Nat} (hp : p < sz l) (hm : m < cnt l p) : wr l (p + m) ∉ plL l p m := by
  unfold plL
  intro h
  obtain ⟨k, hk, e⟩ := List.mem_map.mp h
  rw [List.mem_range] at hk
  unfold cnt at hm
  split at hm
  · rw [wr_lt (by omega), wr_lt (by omega)] at e
    omega
  · rename_i hh
    unfold wr at e
    rw [if_neg (by omega), if_neg (by omega)] at e
    have e2 : (p + k - l.h.length) % l.r.length = (p + m - l.h.length) % l.r.length := by omega
    have d1 := Nat.mod_add_div (p + k - l.h.length) l.r.length
    have d2 := Nat.mod_add_div (p + m - l.h.length) l.r.length
    generalize hA : (p + k - l.h.length) / l.r.length = A at d1
    generalize hB : (p + m - l.h.length) / l.r.length = B at d2
    have lt : l.r.length * A < l.r.length * B := by omega
    have ab : A + 1 ≤ B := Nat.lt_of_mul_lt_mul_left lt
    have : l.r.length * (A + 1) ≤ l.r.length * B := Nat.mul_le_mul_left _ ab
    rw [Nat.mul_add] at this
    omega
theorem pl_end {p : Nat} (hp : p < sz l) : wr l (p + cnt l p) ∈ plL l p (cnt l p) := by
  unfold plL
  rw [List.mem_map]
  by_cases z : p ≤ l.h.length
  · have e : cnt l p = sz l - p := by unfold cnt; rw [if_pos z]
    refine ⟨l.h.length - p, ?_, ?_⟩
    · rw [List.mem_range, e]; unfold sz; omega
    · rw [e, show p + (l.h.length - p) = l.h.length by omega, show p + (sz l - p) = sz l by omega]
      unfold wr sz
      rw [if_neg (by omega),
          if_neg (by omega)]
      simp
  · have e : cnt l p = l.r.length := by unfold cnt; rw [if_neg z]
    refine ⟨0, by rw [List.mem_range, e]; exact r0, ?_⟩
    rw [e]
    unfold wr
    rw [if_neg (by omega), if_neg (by omega), show p + l.r.length - l.h.length = (p + 0 - l.h.length) + l.r.length by omega, Nat.add_mod_right]
theorem near2 (φ : Sen) {i j : Nat} (h : i ≤ j) (hi : i < sz l) : ∃ k, k < cnt l i ∧ k ≤ j - i ∧ (sat (row l) φ (i + k) ↔ sat (row l) φ j) := by
  unfold cnt
  split
  · rename_i z
    by_cases w : j < sz l
    · exact ⟨j - i, by omega, Nat.le_refl _, by rw [show i + (j - i) = j by omega]⟩
    · unfold sz at w hi ⊢
      have hm := Nat.mod_lt (j - l.h.length) r0
      have hd := Nat.mod_add_div (j - l.h.length) l.r.length
      have hl := Nat.mod_le (j - l.h.length) l.r.length
      refine ⟨l.h.length + (j - l.h.length) % l.r.length - i, by omega, by omega, ?_⟩
      have := sat_per r0 φ (i := l.h.length + (j - l.h.length) % l.r.length) (by omega) ((j - l.h.length) / l.r.length)
      rw [show l.h.length + (j - l.h.length) % l.r.length + l.r.length * ((j - l.h.length) / l.r.length) = j by omega] at this
      rw [show i + (l.h.length + (j - l.h.length) % l.r.length - i) = l.h.length + (j - l.h.length) % l.r.length by omega]
      exact this.symm
  · rename_i z
    have hm := Nat.mod_lt (j - i) r0
    have hd := Nat.mod_add_div (j - i) l.r.length
    have hl := Nat.mod_le (j - i) l.r.length
    refine ⟨(j - i) % l.r.length, hm, hl, ?_⟩
    have := sat_per r0 φ (i := i + (j - i) % l.r.length) (by omega) ((j - i) / l.r.length)
    rw [show i + (j - i) % l.r.length + l.r.length * ((j - i) / l.r.length) = j by omega] at this
    exact this.symm
theorem alw_pl {a : Sen} {p : Nat} (hp : p < sz l) : bsat l (.alw a) p = (List.range (cnt l p)).all fun k => bsat l a (p + k) := by
  rw [Bool.eq_iff_iff, bsat_iff r0, List.all_eq_true]
  simp only [sat, List.mem_range]
  constructor
  · exact fun h k _ => (bsat_iff r0 a _).mpr (h _ (by omega))
  · intro h j hj
    obtain ⟨k, k1, _, k3⟩ := near2 r0 a hj hp
    exact k3.mp ((bsat_iff r0 a _).mp (h k k1))
theorem atl_pl {a : Sen} {p : Nat} (hp : p < sz l) : bsat l (.atl a) p = (List.range (cnt l p)).any fun k => bsat l a (p + k) := by
  rw [Bool.eq_iff_iff, bsat_iff r0, List.any_eq_true]
  simp only [sat, List.mem_range]
  constructor
  · rintro ⟨j, hj, h⟩
    obtain ⟨k, k1, _, k3⟩ := near2 r0 a hj hp
    exact ⟨k, k1, (bsat_iff r0 a _).mpr (k3.mpr h)⟩
  · rintro ⟨k, _, h⟩
    exact ⟨_, by omega, (bsat_iff r0 a _).mp h⟩
theorem unt_pl {a b : Sen} {p : Nat} (hp : p < sz l) : bsat l (.unt a b) p = true ↔ ∃ k, k < cnt l p ∧ bsat l b (p + k) = true ∧ ∀ t, t < k → bsat l a (p + t) = true := by
  rw [bsat_iff r0]
  simp only [sat]
  constructor
  · rintro ⟨j, hj, h1, h2⟩
    obtain ⟨k, k1, k2, k3⟩ := near2 r0 b hj hp
    exact ⟨k, k1, (bsat_iff r0 b _).mpr (k3.mpr h1), fun t ht => (bsat_iff r0 a _).mpr (h2 _ (by omega) (by omega))⟩
  · rintro ⟨k, _, h1, h2⟩
    refine ⟨p + k, by omega, (bsat_iff r0 b _).mp h1, fun x x1 x2 => ?_⟩
    have := (bsat_iff r0 a _).mp (h2 (x - p) (by omega))
    rwa [show p + (x - p) = x by omega] at this
end
theorem plL_s {l : Lso (List Nat)} {p m : Nat} : plL l p (m + 1) = plL l p m ++ [wr l (p + m)] := by
  unfold plL
  rw [List.range_succ, List.map_append]
  rfl
section
variable {P : Prog} {L : Nat} {h : AH} {Q : D → AH → Prop} {X : Xc}
theorem places_i (hL : 1 ≤ L) (T : TN P) {l : Lso Itm} (r0 : 0 < l.r.length) (sl : sz l ≤ 100000) {p : Nat} (hp : p < sz l) (q : ∀ c, h c = none → Q (.loc c) (put h c (.lst (nL (plL l p (cnt l p)))))) : wC P L "_law_places" [lsD l, .int p] h Q X := by
  obtain ⟨n, rfl⟩ : ∃ n, L = n + 1 := ⟨L - 1, by omega⟩
  have sm : small62 (sz l : Int) = true := by simp [small62]; omega
  have es : (l.h.length : Int) + l.r.length = (sz l : Nat) := by unfold sz; omega
  obtain ⟨c1, c2⟩ := cnt_le r0 hp
  refine wC_i T.pl rfl ?_
  simp [-v_rB, c__law_places, List.replicate]
  rw [v_rB]
  simp [-v_rB]
  intro c hc
  rw [v_rB]
  simp [-v_rB, es, sm]
  refine for_f (fun i env h' => ∃ o, env = [some (lsD l), some (.int (wr l (p + min i (cnt l p)) : Nat)), some (.int (sz l : Nat)), some (.loc c), o] ∧ Sub h h' ∧ h' c = some (.lst (nL (plL l p (min i (cnt l p)))))) ⟨none, by simp [wr_lt hp], sub_put hc, by simp [put_eq, plL, nL]⟩ ?_ ?_
  · rintro i x env h' N hx ⟨o, rfl, sb, e⟩ hN
    simp
    rw [k_ninN e]
    by_cases z : i < cnt l p
    · rw [Nat.min_eq_left (by omega)] at e ⊢
      have nn := pl_new r0 hp z
      rw [Nat.min_eq_left (show i + 1 ≤ cnt l p by omega)] at hN
      have ln : (plL l p i).length = i := by simp [plL]
      simp [nn, e]
      rw [m_app e (by simp [nL, ln]; omega)]
      simp
      have we : p + (i + 1) = (p + i) + 1 := by omega
      rw [we, wr_nx r0] at hN
      have wl := wr_sz r0 (p + i)
      have fin : ∀ v : Nat, v = nxP (sz l) l.h.length (wr l (p + i)) → N [some (lsD l), some (.int v), some (.int (sz l : Nat)), some (.loc c), some x] (put h' c (.lst (nL (plL l p i) ++ [.int (wr l (p + i) : Nat)]))) := fun v hv => by
        refine hN _ _ ⟨_, by rw [hv], sb.put hc, ?_⟩
        rw [put_eq, plL_s]
        simp [nL]
      unfold nxP at fin
      by_cases w : wr l (p + i) + 1 < sz l
      · rw [if_pos w] at fin
        have w' : ¬ (wr l (p + i) : Int) + 1 = (sz l : Nat) := by omega
        simp [w']
        exact fin _ rfl
      · rw [if_neg w] at fin
        have w' : (wr l (p + i) : Int) + 1 = (sz l : Nat) := by omega
        simp [w']
        exact fin _ rfl
    · rw [Nat.min_eq_right (by omega)] at e ⊢
      rw [Nat.min_eq_right (by omega)] at hN
      have pe := pl_end r0 hp
      simp [pe]
      exact hN _ _ ⟨_, rfl, sb, e⟩
  · rintro env h' ⟨o, rfl, sb, e⟩
    rw [rngL_length, Nat.min_eq_right c1] at e
    simp
    refine ⟨put h c (.lst (nL (plL l p (cnt l p)))), fun x u hx => ?_, q c hc⟩
    by_cases z : x = c
    · subst z
      rw [put_eq] at hx
      rw [e, ← hx]
    · rw [put_ne z] at hx
      exact sb x u hx
end
end Las
end Py
namespace Py
open PySem (Str)
namespace Las
theorem rows_at {l : Lso Itm} {p : Nat} (hp : p < sz l) : gt (l.h ++ l.r) p = row l p := by
  by_cases z : p < l.h.length
  · rw [gt_app1 z, row_h z]
  · obtain ⟨k, rfl⟩ : ∃ k, p = l.h.length + k := ⟨p - l.h.length, by omega⟩
    have kr : k < l.r.length := by unfold sz at hp; omega
    rw [row_r, Nat.mod_eq_of_lt kr]
    unfold gt
    rw [List.getElem?_append_right (by omega), Nat.add_sub_cancel_left]
theorem row_mem {l : Lso Itm} {p : Nat} (hp : p < sz l) : row l p ∈ l.h ++ l.r := by
  rw [← rows_at hp]
  have : p < (l.h ++ l.r).length := by simpa [sz] using hp
  rw [gt_get this]
  exact List.getElem_mem _
section
variable {P : Prog} {L : Nat} {h : AH} {Q : D → AH → Prop} {X : Xc}
theorem true_i (T : TN P) {l : Lso Itm} (r0 : 0 < l.r.length) (sl : sz l ≤ 100000) {many : Nat} (hr : ∀ r ∈ l.h ++ l.r, r.length = many) (s : Sen) (ok : s.Ok many) {p : Nat} (hp : p < sz l) {L : Nat} (hL : s.dep + 1 ≤ L) {h : AH} {Q : D → AH → Prop} {X : Xc} (q : Q (.bl (bsat l s p)) h) : wC P L "_law_true_at" [s.d, lsD l, .int p] h Q X := by
  have es : l.h.length + l.r.length = sz l := rfl
  have oa : ∀ h' : AH, binD .add (.v (.tup (isD l.h))) (.v (.tup (isD l.r))) h' = some (.v (.tup (isD (l.h ++ l.r)))) := fun h' => by
    rw [o_addt (by simp; omega), isD_app]
  have rowp0 : ∀ p, p < sz l → atI (isD (l.h ++ l.r)) (p : Int) = some (.tup (nL (row l p))) := fun p hp => by
    rw [isD_at (by simpa [sz] using hp), rows_at hp]
  induction s generalizing p L h Q X with
  | tru =>
    obtain ⟨n, rfl⟩ : ∃ n, L = n + 1 := ⟨L - 1, by omega⟩
    have rowp := rowp0 p hp
    refine wC_i T.ta rfl ?_
    simp [c__law_true_at, List.replicate, oa, m1, Sen.d]
    exact someQ_i q
  | lig k =>
    obtain ⟨n, rfl⟩ : ∃ n, L = n + 1 := ⟨L - 1, by omega⟩
    have rowp := rowp0 p hp
    refine wC_i T.ta rfl ?_
    have kl : k < (row l p).length := by rw [hr _ (row_mem hp)]; exact ok
    simp [c__law_true_at, List.replicate, oa, m1, m2, Sen.d, rowp, nLs_at kl]
    refine someQ_i ?_
    have e : decide (((gt (row l p) k : Nat) : Int) = 1) = decide (gt (row l p) k = 1) := decide_eq_decide.mpr (by omega)
    rw [e]
    exact q
  | neg a iha =>
    obtain ⟨n, rfl⟩ : ∃ n, L = n + 1 := ⟨L - 1, by omega⟩
    have rowp := rowp0 p hp
    refine wC_i T.ta rfl ?_
    simp only [Sen.dep] at hL
    simp [c__law_true_at, List.replicate, oa, m1, m2, m3, Sen.d]
    refine iha ok hp (by omega) ?_
    try simp
    exact someQ_i q
  | con a b iha ihb =>
    obtain ⟨n, rfl⟩ : ∃ n, L = n + 1 := ⟨L - 1, by omega⟩
    have rowp := rowp0 p hp
    refine wC_i T.ta rfl ?_
    simp only [Sen.dep] at hL
    simp [c__law_true_at, List.replicate, oa, m1, m2, m3, m4, Sen.d]
    refine iha ok.1 hp (by omega) ?_
    simp only [bsat] at q
    cases z : bsat l a p <;> simp [z] at q ⊢
    · exact someQ_i q
    · exact ihb ok.2 hp (by omega) (someQ_i q)
  | dis a b iha ihb =>
    obtain ⟨n, rfl⟩ : ∃ n, L = n + 1 := ⟨L - 1, by omega⟩
    have rowp := rowp0 p hp
    refine wC_i T.ta rfl ?_
    simp only [Sen.dep] at hL
    simp [c__law_true_at, List.replicate, oa, m1, m2, m3, m4, m5, Sen.d]
    refine iha ok.1 hp (by omega) ?_
    simp only [bsat] at q
    cases z : bsat l a p <;> simp [z] at q ⊢
    · exact ihb ok.2 hp (by omega) (someQ_i q)
    · exact someQ_i q
  | alw a iha =>
    obtain ⟨n, rfl⟩ : ∃ n, L = n + 1 := ⟨L - 1, by omega⟩
    have rowp := rowp0 p hp
    refine wC_i T.ta rfl ?_
    simp only [Sen.dep] at hL
    simp [c__law_true_at, List.replicate, oa, m1, m2, m3, m4, m5, Sen.d]
    refine places_i (by omega) T r0 sl hp fun c hc => ?_
    simp [-v_rB, c_l (put_eq (h := h) (a := c) (o := .lst (nL (plL l p (cnt l p)))))]
    rw [alw_pl r0 hp] at q
    refine for_l (fun i env h' => ∃ o, env = [some (Sen.alw a).d, some (lsD l), some (.int p), some (.tup (isD (l.h ++ l.r))), o] ∧ h' = put h c (.lst (nL (plL l p (cnt l p)))) ∧ ∀ k, k < i → bsat l a (p + k) = true) ⟨none, rfl, rfl, fun k hk => by omega⟩ (fun i env h' _ z => by obtain ⟨_, _, z, _⟩ := z; rw [z]; exact put_eq) ?_ ?_
    · rintro i x env h' N hx ⟨o, rfl, rfl, al⟩ hN
      have hi : i < cnt l p := by
        have := (List.getElem?_eq_some_iff.mp hx).1
        simpa [nL, plL] using this
      have hx' : x = .int (wr l (p + i) : Nat) := by
        simp [nL, plL, hi] at hx
        exact hx.symm
      subst hx'
      simp [Sen.d, m6, m7, m8]
      refine iha ok (wr_sz r0 _) (by omega) ?_
      rw [bsat_wr r0]
      by_cases z : bsat l a (p + i) = true
      · simp [z]
        exact hN _ _ ⟨_, rfl, rfl, fun k hk => by
          by_cases w : k = i
          · rw [w]; exact z
          · exact al k (by omega)⟩
      · have zf : bsat l a (p + i) = false := by simpa using z
        simp [zf]
        refine someQ_s (sub_put hc) ?_
        have : ((List.range (cnt l p)).all fun k => bsat l a (p + k)) = false := by
          rw [List.all_eq_false]
          exact ⟨i, List.mem_range.mpr hi, by simpa using zf⟩
        rw [this] at q
        exact q
    · rintro env h' ⟨o, rfl, rfl, al⟩
      have ln : (nL (plL l p (cnt l p))).length = cnt l p := by simp [nL, plL]
      rw [ln] at al
      simp [Sen.d, m6]
      refine someQ_s (sub_put hc) ?_
      have : ((List.range (cnt l p)).all fun k => bsat l a (p + k)) = true := by
        rw [List.all_eq_true]
        exact fun k hk => al k (List.mem_range.mp hk)
      rw [this] at q
      exact q
  | atl a iha =>
    obtain ⟨n, rfl⟩ : ∃ n, L = n + 1 := ⟨L - 1, by omega⟩
    have rowp := rowp0 p hp
    refine wC_i T.ta rfl ?_
    simp only [Sen.dep] at hL
    simp [c__law_true_at, List.replicate, oa, m1, m2, m3, m4, m5, Sen.d]
    refine places_i (by omega) T r0 sl hp fun c hc => ?_
    simp [-v_rB, c_l (put_eq (h := h) (a := c) (o := .lst (nL (plL l p (cnt l p)))))]
    rw [atl_pl r0 hp] at q
    refine for_l (fun i env h' => ∃ o, env = [some (Sen.atl a).d, some (lsD l), some (.int p), some (.tup (isD (l.h ++ l.r))), o] ∧ h' = put h c (.lst (nL (plL l p (cnt l p)))) ∧ ∀ k, k < i → bsat l a (p + k) = false) ⟨none, rfl, rfl, fun k hk => by omega⟩ (fun i env h' _ z => by obtain ⟨_, _, z, _⟩ := z; rw [z]; exact put_eq) ?_ ?_
    · rintro i x env h' N hx ⟨o, rfl, rfl, al⟩ hN
      have hi : i < cnt l p := by
        have := (List.getElem?_eq_some_iff.mp hx).1
        simpa [nL, plL] using this
      have hx' : x = .int (wr l (p + i) : Nat) := by
        simp [nL, plL, hi] at hx
        exact hx.symm
      subst hx'
      simp [Sen.d, m6, m7, m8]
      refine iha ok (wr_sz r0 _) (by omega) ?_
      rw [bsat_wr r0]
      by_cases z : bsat l a (p + i) = true
      · simp [z]
        refine someQ_s (sub_put hc) ?_
        have : ((List.range (cnt l p)).any fun k => bsat l a (p + k)) = true := by
          rw [List.any_eq_true]
          exact ⟨i, List.mem_range.mpr hi, z⟩
        rw [this] at q
        exact q
      · have zf : bsat l a (p + i) = false := by simpa using z
        simp [zf]
        exact hN _ _ ⟨_, rfl, rfl, fun k hk => by
          by_cases w : k = i
          · rw [w]; exact zf
          · exact al k (by omega)⟩
    · rintro env h' ⟨o, rfl, rfl, al⟩
      have ln : (nL (plL l p (cnt l p))).length = cnt l p := by simp [nL, plL]
      rw [ln] at al
      simp [Sen.d, m6]
      refine someQ_s (sub_put hc) ?_
      have : ((List.range (cnt l p)).any fun k => bsat l a (p + k)) = false := by
        rw [List.any_eq_false]
        exact fun k hk => by simpa using al k (List.mem_range.mp hk)
      rw [this] at q
      exact q
  | unt a b iha ihb =>
    obtain ⟨n, rfl⟩ : ∃ n, L = n + 1 := ⟨L - 1, by omega⟩
    have rowp := rowp0 p hp
    refine wC_i T.ta rfl ?_
    simp only [Sen.dep] at hL
    simp [c__law_true_at, List.replicate, oa, m1, m2, m3, m4, m5, Sen.d]
    refine places_i (by omega) T r0 sl hp fun c hc => ?_
    simp [-v_rB, c_l (put_eq (h := h) (a := c) (o := .lst (nL (plL l p (cnt l p)))))]
    have up := unt_pl r0 (a := a) (b := b) hp
    refine for_l (fun i env h' => ∃ o, env = [some (Sen.unt a b).d, some (lsD l), some (.int p), some (.tup (isD (l.h ++ l.r))), o] ∧ h' = put h c (.lst (nL (plL l p (cnt l p)))) ∧ ∀ k, k < i → bsat l a (p + k) = true ∧ bsat l b (p + k) = false) ⟨none, rfl, rfl, fun k hk => by omega⟩ (fun i env h' _ z => by obtain ⟨_, _, z, _⟩ := z; rw [z]; exact put_eq) ?_ ?_
    · rintro i x env h' N hx ⟨o, rfl, rfl, al⟩ hN
      have hi : i < cnt l p := by
        have := (List.getElem?_eq_some_iff.mp hx).1
        simpa [nL, plL] using this
      have hx' : x = .int (wr l (p + i) : Nat) := by
        simp [nL, plL, hi] at hx
        exact hx.symm
      subst hx'
      simp [Sen.d, m6, m7, m8]
      refine ihb ok.2 (wr_sz r0 _) (by omega) ?_
      rw [bsat_wr r0]
      by_cases z : bsat l b (p + i) = true
      · simp [z]
        refine someQ_s (sub_put hc) ?_
        rw [up.mpr ⟨i, hi, z, fun t ht => (al t ht).1⟩] at q
        exact q
      · have zf : bsat l b (p + i) = false := by simpa using z
        simp [zf]
        refine iha ok.1 (wr_sz r0 _) (by omega) ?_
        rw [bsat_wr r0]
        by_cases y : bsat l a (p + i) = true
        · simp [y]
          exact hN _ _ ⟨_, rfl, rfl, fun k hk => by
            by_cases w : k = i
            · rw [w]; exact ⟨y, zf⟩
            · exact al k (by omega)⟩
        · have yf : bsat l a (p + i) = false := by simpa using y
          simp [yf]
          refine someQ_s (sub_put hc) ?_
          have : bsat l (.unt a b) p = false := by
            cases e : bsat l (.unt a b) p with
            | false => rfl
            | true =>
              obtain ⟨k, k1, k2, k3⟩ := up.mp e
              by_cases lt : k < i
              · rw [(al k lt).2] at k2; exact absurd k2 (by simp)
              · by_cases w : k = i
                · rw [w] at k2; exact absurd k2 z
                · rw [k3 i (by omega)] at yf; exact absurd yf (by simp)
          rw [this] at q
          exact q
    · rintro env h' ⟨o, rfl, rfl, al⟩
      have ln : (nL (plL l p (cnt l p))).length = cnt l p := by simp [nL, plL]
      rw [ln] at al
      simp [Sen.d, m6]
      refine someQ_s (sub_put hc) ?_
      have : bsat l (.unt a b) p = false := by
        cases e : bsat l (.unt a b) p with
        | false => rfl
        | true =>
          obtain ⟨k, k1, k2, k3⟩ := up.mp e
          rw [(al k k1).2] at k2; exact absurd k2 (by simp)
      rw [this] at q
      exact q
end
end Las
end Py
namespace Py
open PySem (Str)
namespace Las
def c__law_moment : Fn := ⟨3, 4, (.cons (.asg (.nm 3) (.call "_law_take" (.cons (.var 0) (.cons (.lit (.int 7)) .nil)))) (.cons (.ifs (.or (.and (.cmp .eq (.var 3) (.lit (.int 0))) (.cmp .lt (.var 2) (.lit (.int 2)))) (.and (.cmp .eq (.var 1) (.lit (.int 0))) (.cmp .lt (.var 2) (.lit (.int 2))))) (.cons (.ret (.tup (.cons (.lit (.str "true")) .nil))) .nil) .nil) (.cons (.ifs (.or (.cmp .lt (.var 3) (.lit (.int 4))) (.cmp .lt (.var 2) (.lit (.int 2)))) (.cons (.ifs (.cmp .eq (.var 1) (.lit (.int 0))) (.cons (.ret (.tup (.cons (.lit (.str "true")) .nil))) .nil) .nil) (.cons (.ret (.tup (.cons (.lit (.str "light")) (.cons (.call "_law_take" (.cons (.var 0) (.cons (.var 1) .nil))) .nil)))) .nil)) .nil) (.cons (.ifs (.cmp .eq (.var 3) (.lit (.int 4))) (.cons (.ret (.tup (.cons (.lit (.str "not")) (.cons (.call "_law_moment" (.cons (.var 0) (.cons (.var 1) (.cons (.bin .sub (.var 2) (.lit (.int 1))) .nil)))) .nil)))) .nil) .nil) (.cons (.ret (.tup (.cons (.ix (.lst (.cons (.lit (.str "and")) (.cons (.lit (.str "or")) .nil))) (.bin .sub (.var 3) (.lit (.int 5)))) (.cons (.call "_law_moment" (.cons (.var 0) (.cons (.var 1) (.cons (.bin .sub (.var 2) (.lit (.int 1))) .nil)))) (.cons (.call "_law_moment" (.cons (.var 0) (.cons (.var 1) (.cons (.bin .sub (.var 2) (.lit (.int 1))) .nil)))) .nil))))) .nil)))))⟩
def c__law_sentence : Fn := ⟨4, 5, (.cons (.ifs (.or (.cmp .eq (.var 3) (.lit (.int 0))) (.cmp .lt (.var 2) (.lit (.int 2)))) (.cons (.ret (.call "_law_moment" (.cons (.var 0) (.cons (.var 1) (.cons (.b2 .min (.var 2) (.lit (.int 2))) .nil))))) .nil) .nil) (.cons (.asg (.nm 4) (.call "_law_take" (.cons (.var 0) (.cons (.lit (.int 8)) .nil)))) (.cons (.ifs (.cmp .lt (.var 4) (.lit (.int 2))) (.cons (.ret (.tup (.cons (.lit (.str "always")) (.cons (.call "_law_sentence" (.cons (.var 0) (.cons (.var 1) (.cons (.bin .sub (.var 2) (.lit (.int 1))) (.cons (.bin .sub (.var 3) (.lit (.int 1))) .nil))))) .nil)))) .nil) .nil) (.cons (.ifs (.cmp .lt (.var 4) (.lit (.int 4))) (.cons (.ret (.tup (.cons (.lit (.str "atlast")) (.cons (.call "_law_sentence" (.cons (.var 0) (.cons (.var 1) (.cons (.bin .sub (.var 2) (.lit (.int 1))) (.cons (.bin .sub (.var 3) (.lit (.int 1))) .nil))))) .nil)))) .nil) .nil) (.cons (.ifs (.cmp .lt (.var 4) (.lit (.int 6))) (.cons (.ret (.tup (.cons (.lit (.str "until")) (.cons (.call "_law_sentence" (.cons (.var 0) (.cons (.var 1) (.cons (.bin .sub (.var 2) (.lit (.int 1))) (.cons (.bin .fdiv (.bin .sub (.var 3) (.lit (.int 1))) (.lit (.int 2))) .nil))))) (.cons (.call "_law_sentence" (.cons (.var 0) (.cons (.var 1) (.cons (.bin .sub (.var 2) (.lit (.int 1))) (.cons (.bin .fdiv (.bin .sub (.var 3) (.lit (.int 1))) (.lit (.int 2))) .nil))))) .nil))))) .nil) .nil) (.cons (.ifs (.cmp .eq (.var 4) (.lit (.int 6))) (.cons (.ret (.tup (.cons (.lit (.str "not")) (.cons (.call "_law_sentence" (.cons (.var 0) (.cons (.var 1) (.cons (.bin .sub (.var 2) (.lit (.int 1))) (.cons (.var 3) .nil))))) .nil)))) .nil) .nil) (.cons (.ret (.tup (.cons (.ix (.lst (.cons (.lit (.str "and")) (.cons (.lit (.str "or")) .nil))) (.call "_law_take" (.cons (.var 0) (.cons (.lit (.int 2)) .nil)))) (.cons (.call "_law_sentence" (.cons (.var 0) (.cons (.var 1) (.cons (.bin .sub (.var 2) (.lit (.int 1))) (.cons (.bin .fdiv (.var 3) (.lit (.int 2))) .nil))))) (.cons (.call "_law_sentence" (.cons (.var 0) (.cons (.var 1) (.cons (.bin .sub (.var 2) (.lit (.int 1))) (.cons (.bin .fdiv (.var 3) (.lit (.int 2))) .nil))))) .nil))))) .nil)))))))⟩
def c__law_lasso : Fn := ⟨3, 8, (.cons (.asg (.nm 3) (.comp (.nm 6) (.rng1 (.bin .add (.lit (.int 1)) (.call "_law_take" (.cons (.var 0) (.cons (.var 2) .nil))))) [5, 6] (.b1 .tup (.comp (.nm 7) (.rng1 (.var 1)) [5, 7] (.call "_law_take" (.cons (.var 0) (.cons (.lit (.int 2)) .nil))))))) (.cons (.asg (.nm 4) (.call "_law_take" (.cons (.var 0) (.cons (.b1 .len (.var 3)) .nil)))) (.cons (.ret (.tup (.cons (.b1 .tup (.sl (.var 3) .no (.so (.var 4)))) (.cons (.b1 .tup (.sl (.var 3) (.so (.var 4)) .no)) .nil)))) .nil)))⟩
structure TD (P : Prog) : Prop where
  tk : P.fn "_law_take" = some c__law_take
  mo : P.fn "_law_moment" = some c__law_moment
  se : P.fn "_law_sentence" = some c__law_sentence
  la : P.fn "_law_lasso" = some c__law_lasso
section
variable {P : Prog} {L : Nat} {h : AH} {Q : D → AH → Prop} {X : Xc}
theorem take_n (hL : 1 ≤ L) (hf : P.fn "_law_take" = some c__law_take) {a : Nat} {ds : List Int} {m : Nat} (hm : 0 < m) (e : h a = some (.lst (iL ds)))
    (q : ∀ (v : Nat) (ds' : List Int), v < m → Q (.int v) (put h a (.lst (iL ds')))) : wC P L "_law_take" [.loc a, .int m] h Q X := by
  obtain ⟨n, rfl⟩ : ∃ n, L = n + 1 := ⟨L - 1, by omega⟩
  refine take_i hf (by omega) e fun v ds' v0 v1 => ?_
  obtain ⟨k, rfl⟩ := Int.eq_ofNat_of_zero_le v0
  exact q k ds' (by omega)
theorem take_k (hL : 1 ≤ L) (hf : P.fn "_law_take" = some c__law_take) {h0 : AH} {g m : Nat} (k : Kd h0 g h) (hm : 0 < m) (q : ∀ (v : Nat) h', v < m → Kd h0 g h' → Sub (put h0 g (.lst [])) (put h' g (.lst [])) → Q (.int v) h') : wC P L "_law_take" [.loc g, .int m] h Q X := by
  obtain ⟨ds, e⟩ := k.dr
  refine take_n hL hf hm e fun v ds' hv => q v _ hv (k.take ds') ?_
  intro b o hb
  by_cases z : b = g
  · subst z; rw [put_eq] at hb ⊢; exact hb
  · rw [put_ne z] at hb
    rw [put_ne z, put_ne z]
    exact k.kp b o z hb
theorem mom_d (T : TD P) {many : Nat} (hm : 0 < many) : ∀ (d : Nat), 1 ≤ d → ∀ {L : Nat} {h0 h : AH} {g : Nat} {Q : D → AH → Prop} {X : Xc}, d + 1 ≤ L → Kd h0 g h → (∀ s h', Sen.Ok many s → s.dep ≤ d → Kd h0 g h' → Q s.d h') → wC P L "_law_moment" [.loc g, .int many, .int d] h Q X := by
  intro d
  induction d with
  | zero => intro h; omega
  | succ d ih =>
    intro _ L h0 h g Q X hL k q
    obtain ⟨n, rfl⟩ : ∃ n, L = n + 1 := ⟨L - 1, by omega⟩
    have m0 : ¬ many = 0 := by omega
    have ed : ((d + 1 : Nat) : Int) - 1 = (d : Nat) := by omega
    refine wC_i T.mo rfl ?_
    simp [-v_rB, c__law_moment, List.replicate]
    refine take_k (m := 7) (by omega) T.tk k (by omega) fun v h1 hv k1 _ => ?_
    rw [v_rB]
    by_cases d1 : d = 0
    · subst d1
      by_cases v0 : v = 0
      · subst v0
        simp [-v_rB]
        exact someQ_i (q .tru h1 trivial (Nat.le_refl _) k1)
      · by_cases v4 : (v : Int) < 4 <;> simp [v0, m0, v4] <;>
        refine take_k (by omega) T.tk k1 hm fun j h2 hj k2 _ => someQ_i (q (.lig j) h2 hj (Nat.le_refl _) k2)
    · have d2 : ¬ ((d : Int) + 1 < 2) := by omega
      have d3 : 1 ≤ d := by omega
      simp [-v_rB, d2]
      rw [v_rB]
      by_cases v4 : v < 4
      · have v4' : (v : Int) < 4 := by omega
        by_cases v0 : v = 0 <;> simp [v4', m0, v0] <;>
        refine take_k (by omega) T.tk k1 hm fun j h2 hj k2 _ => someQ_i (q (.lig j) h2 hj (by simp only [Sen.dep]; omega) k2)
      · have v4' : ¬ (v : Int) < 4 := by omega
        by_cases v5 : v = 4
        · subst v5
          simp [d2, m0]
          refine ih d3 (by omega) k1 fun s h2 sk sd k2 => ?_
          try simp
          exact someQ_i (q (.neg s) h2 sk (by simp only [Sen.dep]; omega) k2)
        · have v5' : ¬ (v : Int) = 4 := by omega
          have ev : v = 5 ∨ v = 6 := by omega
          simp [v4', v5', d2, m0]
          rcases ev with rfl | rfl
          · simp
            refine ih d3 (by omega) k1 fun s h2 sk sd k2 => ?_
            try simp
            refine ih d3 (by omega) k2 fun t h3 tk td k3 => ?_
            try simp
            exact someQ_i (q (.con s t) h3 ⟨sk, tk⟩ (by simp only [Sen.dep]; omega) k3)
          · simp
            refine ih d3 (by omega) k1 fun s h2 sk sd k2 => ?_
            try simp
            refine ih d3 (by omega) k2 fun t h3 tk td k3 => ?_
            try simp
            exact someQ_i (q (.dis s t) h3 ⟨sk, tk⟩ (by simp only [Sen.dep]; omega) k3)
theorem sen_d (T : TD P) {many : Nat} (hm : 0 < many) : ∀ (d : Nat), 1 ≤ d → ∀ {t L : Nat} {h0 h : AH} {g : Nat} {Q : D → AH → Prop} {X : Xc}, d + 3 ≤ L → Kd h0 g h → (∀ s h', Sen.Ok many s → s.dep ≤ d → Kd h0 g h' → Q s.d h') → wC P L "_law_sentence" [.loc g, .int many, .int d, .int t] h Q X := by
  intro d
  induction d with
  | zero => intro h; omega
  | succ d ih =>
    intro _ t L h0 h g Q X hL k q
    obtain ⟨n, rfl⟩ : ∃ n, L = n + 1 := ⟨L - 1, by omega⟩
    refine wC_i T.se rfl ?_
    by_cases c : t = 0 ∨ d = 0
    · have mn : (if (2 : Int) < (d : Int) + 1 then (2 : Int) else (d : Int) + 1) = ((min 2 (d + 1) : Nat) : Int) := by split <;> omega
      have key : wC P n "_law_moment" [.loc g, .int many, .int ((min 2 (d + 1) : Nat) : Int)] h (someQ Q) (someX X) := mom_d T hm (min 2 (d + 1)) (by omega) (by omega) k fun s h' sk sd k' => someQ_i (q s h' sk (by omega) k')
      have c' : ¬ t = 0 → ((d : Int) + 1 < 2) := fun z => by omega
      by_cases t0 : t = 0
      · subst t0
        simp [c__law_sentence, List.replicate, mn]
        exact key
      · simp [c__law_sentence, List.replicate, mn, t0, c' t0]
        exact key
    · have t0 : ¬ t = 0 := fun z => c (.inl z)
      have d0 : ¬ ((d : Int) + 1 < 2) := by omega
      have d3 : 1 ≤ d := by omega
      obtain ⟨u1, e1⟩ : ∃ u : Nat, (t : Int) - 1 = u := ⟨t - 1, by omega⟩
      obtain ⟨u2, e2⟩ : ∃ u : Nat, (u1 : Int) / 2 = u := ⟨u1 / 2, by omega⟩
      obtain ⟨u3, e3⟩ : ∃ u : Nat, (t : Int) / 2 = u := ⟨t / 2, by omega⟩
      simp [-v_rB, c__law_sentence, List.replicate, t0, d0]
      rw [v_rB]
      simp [-v_rB]
      refine take_k (m := 8) (by omega) T.tk k (by omega) fun v h1 hv k1 _ => ?_
      rw [v_rB]
      by_cases v2 : v < 2
      · have w : (v : Int) < 2 := by omega
        simp [w, e1]
        refine ih d3 (by omega) k1 fun s h2 sk sd k2 => ?_
        try simp
        exact someQ_i (q (.alw s) h2 sk (by simp only [Sen.dep]; omega) k2)
      · have w2 : ¬ (v : Int) < 2 := by omega
        simp [-v_rB, w2]
        rw [v_rB]
        by_cases v4 : v < 4
        · have w : (v : Int) < 4 := by omega
          simp [w, e1]
          refine ih d3 (by omega) k1 fun s h2 sk sd k2 => ?_
          try simp
          exact someQ_i (q (.atl s) h2 sk (by simp only [Sen.dep]; omega) k2)
        · have w4 : ¬ (v : Int) < 4 := by omega
          simp [-v_rB, w4]
          rw [v_rB]
          by_cases v6 : v < 6
          · have w : (v : Int) < 6 := by omega
            simp [w, e1, e2]
            refine ih d3 (by omega) k1 fun s h2 sk sd k2 => ?_
            try simp [e1, e2]
            refine ih d3 (by omega) k2 fun u h3 uk ud k3 => ?_
            try simp
            exact someQ_i (q (.unt s u) h3 ⟨sk, uk⟩ (by simp only [Sen.dep]; omega) k3)
          · have w6 : ¬ (v : Int) < 6 := by omega
            simp [-v_rB, w6]
            rw [v_rB]
            by_cases v7 : v = 6
            · subst v7
              simp
              refine ih d3 (by omega) k1 fun s h2 sk sd k2 => ?_
              try simp
              exact someQ_i (q (.neg s) h2 sk (by simp only [Sen.dep]; omega) k2)
            · have w7 : ¬ (v : Int) = 6 := by omega
              simp [w7]
              refine take_k (m := 2) (by omega) T.tk k1 (by omega) fun v h2 hv k2 _ => ?_
              have ev : v = 0 ∨ v = 1 := by omega
              rcases ev with rfl | rfl
              · simp [e3]
                refine ih d3 (by omega) k2 fun s h3 sk sd k3 => ?_
                try simp [e3]
                refine ih d3 (by omega) k3 fun u h4 uk ud k4 => ?_
                try simp
                exact someQ_i (q (.con s u) h4 ⟨sk, uk⟩ (by simp only [Sen.dep]; omega) k4)
              · simp [e3]
                refine ih d3 (by omega) k2 fun s h3 sk sd k3 => ?_
                try simp [e3]
                refine ih d3 (by omega) k3 fun u h4 uk ud k4 => ?_
                try simp
                exact someQ_i (q (.dis s u) h4 ⟨sk, uk⟩ (by simp only [Sen.dep]; omega) k4)
end
end Las
end Py
namespace Py
open PySem (Str)
namespace Las
/-- a lasso of lights -/
structure LOk (many size : Nat) (l : Lso Itm) : Prop where
  r0 : 0 < l.r.length
  sz : sz l ≤ size
  rw : ∀ r ∈ l.h ++ l.r, r.length = many
section
variable {P : Prog} {L : Nat} {h : AH} {Q : D → AH → Prop} {X : Xc}
theorem lasso_i (hL : 2 ≤ L) (T : TD P) {many size : Nat} (hm : many ≤ 1000) (hs : 0 < size) (hs2 : size ≤ 1000) {h0 : AH} {g : Nat} (hg : h0 g ≠ none) (k : Kd h0 g h) (q : ∀ l h', LOk many size l → Kd h0 g h' → Q (lsD l) h') : wC P L "_law_lasso" [.loc g, .int many, .int size] h Q X := by
  obtain ⟨n, rfl⟩ : ∃ n, L = n + 1 := ⟨L - 1, by omega⟩
  have s1 : small62 (many : Int) = true := by simp [small62]; omega
  refine wC_i T.la rfl ?_
  simp [-v_rB, c__law_lasso, List.replicate]
  refine take_k (by omega) T.tk k hs fun v h1 hv k1 _ => ?_
  have s2 : small62 (1 + (v : Int)) = true := by simp [small62]; omega
  have e2 : (1 + (v : Int)).toNat = v + 1 := by omega
  simp [-v_rB, s2, e2]
  refine comp_by (fun i acc h' => Kd h0 g h' ∧ ∃ rows : List Itm, rows.length = i ∧ (∀ r ∈ rows, r.length = many) ∧ acc = isD rows) ⟨k1, [], rfl, by simp, rfl⟩ (fun _ _ _ _ _ => trivial) ?_ ?_
  · rintro i x acc h' N hx ⟨k2, rows, rl, rm, rfl⟩ hN
    obtain ⟨hi, rfl⟩ := rngL_at hx
    simp [wipe, s1]
    refine comp_by (fun i acc h' => Kd h0 g h' ∧ ∃ xs : List Nat, xs.length = i ∧ acc = nL xs) ⟨k2, [], rfl, rfl⟩ (fun _ _ _ _ _ => trivial) ?_ ?_
    · rintro j y acc h' N hy ⟨k3, xs, xl, rfl⟩ hN
      obtain ⟨hj, rfl⟩ := rngL_at hy
      simp [wipe]
      refine take_k (m := 2) (by omega) T.tk k3 (by omega) fun w h4 hw k4 _ => ?_
      refine ⟨by simp [xl]; omega, hN _ _ ⟨k4, xs ++ [w], by simp [xl], by simp [nL]⟩⟩
    · rintro acc h' ⟨k3, xs, xl, rfl⟩
      simp only [v_fixi, rngL_length] at xl
      refine ⟨by omega, hN _ _ ⟨k3, rows ++ [xs], by simp [rl], fun r hr => ?_, by simp [isD]⟩⟩
      rw [List.mem_append, List.mem_singleton] at hr
      rcases hr with hr | rfl
      · exact rm r hr
      · exact xl
  · rintro acc h' ⟨k2, rows, rl, rm, rfl⟩
    simp only [v_fixi, rngL_length] at rl
    intro c hc
    obtain ⟨c0, cg⟩ := k2.free hg hc
    rw [v_rB]
    simp [-v_rB, n_len_l (put_eq (h := h') (a := c) (o := .lst (isD rows))), rl]
    have k3 := k2.own (o := .lst (isD rows)) c0 cg
    obtain ⟨ds, e⟩ := k3.dr
    refine take_n (m := v + 1) (by omega) T.tk (by omega) e fun w ds' hw => ?_
    have ec : put (put h' c (.lst (isD rows))) g (.lst (iL ds')) c = some (.lst (isD rows)) := by rw [put_ne cg, put_eq]
    simp [sl_l ec, cutT, cutDr, isT, isDr]
    refine someQ_i (q ⟨rows.take w, rows.drop w⟩ _ ⟨?_, ?_, fun r hr => ?_⟩ (k3.take ds'))
    · simp; omega
    · unfold Las.sz
      simp; omega
    · simp only [List.take_append_drop] at hr
      exact rm r hr
end
end Las
end Py
namespace Py
open PySem (Str)
namespace Las
def c__law_like : Fn := ⟨2, 6, (.cons (.asg (.tp (.cons (.nm 2) (.cons (.nm 3) .nil))) (.var 1)) (.cons (.asg (.nm 4) (.lst (.cons (.tup (.cons (.bin .add (.var 2) (.var 3)) (.cons (.var 3) .nil))) (.cons (.tup (.cons (.var 2) (.cons (.bin .add (.var 3) (.var 3)) .nil))) (.cons (.tup (.cons (.bin .add (.var 2) (.sl (.var 3) .no (.so (.lit (.int 1))))) (.cons (.bin .add (.sl (.var 3) (.so (.lit (.int 1))) .no) (.sl (.var 3) .no (.so (.lit (.int 1))))) .nil))) .nil))))) (.cons (.asg (.nm 5) (.call "_law_take" (.cons (.var 0) (.cons (.b1 .len (.var 3)) .nil)))) (.cons (.ret (.bin .add (.var 4) (.lst (.cons (.tup (.cons (.var 2) (.cons (.bin .add (.bin .add (.sl (.var 3) .no (.so (.var 5))) (.sl (.var 3) (.so (.var 5)) (.so (.bin .add (.var 5) (.lit (.int 1)))))) (.sl (.var 3) (.so (.var 5)) .no)) .nil))) (.cons (.tup (.cons (.sl (.var 2) (.so (.lit (.int 1))) .no) (.cons (.var 3) .nil))) (.cons (.tup (.cons (.var 2) (.cons (.sls (.var 3) .no .no (-1)) .nil))) .nil)))))) .nil))))⟩
def c__law_is_right : Fn := ⟨1, 7, (.cons (.asg (.nm 1) (.call "_law_least" (.cons (.var 0) .nil))) (.cons (.ifs (.or (.not (.call "_law_same" (.cons (.call "least_lasso" (.cons (.var 0) .nil)) (.cons (.var 1) .nil)))) (.or (.not (.call "_law_same" (.cons (.call "least_lasso" (.cons (.var 0) .nil)) (.cons (.var 1) .nil)))) (.not (.call "_law_is_thinned" (.cons (.var 0) (.cons (.call "thinned_lasso" (.cons (.var 0) .nil)) .nil)))))) (.cons (.ret (.lit (.bl false))) .nil) .nil) (.cons (.asg (.nm 2) (.call "_law_unrolled" (.cons (.var 0) (.cons (.lit (.int 30)) .nil)))) (.cons (.ifs (.or (.not (.call "_law_same" (.cons (.b1 .tup (.comp (.nm 6) (.rng1 (.lit (.int 30))) [5, 6] (.call "item_of_lasso" (.cons (.var 0) (.cons (.var 6) .nil))))) (.cons (.var 2) .nil)))) (.not (.call "_law_same" (.cons (.call "thinned_lasso" (.cons (.var 1) .nil)) (.cons (.call "thinned_lasso" (.cons (.var 0) .nil)) .nil))))) (.cons (.ret (.lit (.bl false))) .nil) .nil) (.cons (.for_ (.nm 3) (.seq (.lst (.cons (.lit (.int 0)) (.cons (.lit (.int 1)) (.cons (.b1 .len (.ix (.var 0) (.lit (.int 0)))) (.cons (.bin .add (.b1 .len (.ix (.var 0) (.lit (.int 0)))) (.lit (.int 1))) (.cons (.lit (.int 9)) .nil))))))) (.cons (.asg (.nm 4) (.call "begun_at_place" (.cons (.var 0) (.cons (.var 3) .nil)))) (.cons (.ifs (.or (.cmp .ne (.call "_law_unrolled" (.cons (.var 4) (.cons (.lit (.int 20)) .nil))) (.sl (.call "_law_unrolled" (.cons (.var 0) (.cons (.bin .add (.lit (.int 20)) (.var 3)) .nil))) (.so (.var 3)) .no)) (.not (.call "_law_same" (.cons (.var 4) (.cons (.call "_law_least" (.cons (.var 4) .nil)) .nil))))) (.cons (.ret (.lit (.bl false))) .nil) .nil) .nil))) (.cons (.ret (.lit (.bl true))) .nil))))))⟩
def c__law_is_true : Fn := ⟨2, 7, (.cons (.asg (.nm 2) (.bin .add (.b1 .len (.ix (.var 0) (.lit (.int 0)))) (.b1 .len (.ix (.var 0) (.lit (.int 1)))))) (.cons (.asg (.nm 3) (.b1 .tup (.comp (.nm 6) (.rng1 (.var 2)) [5, 6] (.b1 .int (.call "_law_true_at" (.cons (.var 1) (.cons (.var 0) (.cons (.var 6) .nil)))))))) (.cons (.ifs (.or (.not (.call "_law_same" (.cons (.call "truths_along" (.cons (.var 1) (.cons (.var 0) .nil))) (.cons (.var 3) .nil)))) (.not (.call "_law_same" (.cons (.call "holds_along" (.cons (.var 1) (.cons (.var 0) .nil))) (.cons (.cmp .eq (.ix (.var 3) (.lit (.int 0))) (.lit (.int 1))) .nil))))) (.cons (.ret (.lit (.bl false))) .nil) .nil) (.cons (.asg (.nm 4) (.call "thinned_lasso" (.cons (.var 0) .nil))) (.cons (.ret (.and (.call "_law_same" (.cons (.call "holds_along" (.cons (.var 1) (.cons (.var 4) .nil))) (.cons (.cmp .eq (.ix (.var 3) (.lit (.int 0))) (.lit (.int 1))) .nil))) (.cmp .eq (.call "_law_true_at" (.cons (.var 1) (.cons (.var 4) (.cons (.lit (.int 0)) .nil)))) (.cmp .eq (.ix (.var 3) (.lit (.int 0))) (.lit (.int 1)))))) .nil)))))⟩
section
variable {P : Prog} {L : Nat} {h : AH} {Q : D → AH → Prop} {X : Xc}
theorem same_n (hf : P.fn "_law_same" = some c__law_same) {d : D} (j : Nat) (hL : j + 1 ≤ L) (hs : sm j d = true) (q : Q (.bl true) h) : wC P L "_law_same" [d, d] h Q X := by
  obtain ⟨n, rfl⟩ : ∃ n, L = n + j + 1 := ⟨L - j - 1, by omega⟩
  exact same_i hf hs q
theorem sm_is {xs : List Itm} (hl : xs.length ≤ 16777216) (hr : ∀ r ∈ xs, r.length ≤ 16777216) : sm 2 (.tup (isD xs)) = true := by
  simp only [sm, isD_len, hl, decide_true, Bool.true_and, List.all_eq_true]
  intro d hd
  obtain ⟨r, hr', rfl⟩ := List.mem_map.mp hd
  rw [← nL_iL]
  exact sm_iL (by simpa using hr r hr')
theorem sm_ls {l : Lso Itm} (h1 : l.h.length ≤ 16777216) (h2 : l.r.length ≤ 16777216) (hr : ∀ r ∈ l.h ++ l.r, r.length ≤ 16777216) : sm 3 (lsD l) = true := by
  have a := sm_is h1 fun r h => hr r (List.mem_append_left _ h)
  have b := sm_is h2 fun r h => hr r (List.mem_append_right _ h)
  show (decide (2 ≤ 16777216) && (sm 2 (.tup (isD l.h)) && (sm 2 (.tup (isD l.r)) && true))) = true
  rw [a, b]; rfl
theorem mem_row {l : Lso Itm} {r : Itm} (h : r ∈ l.h ++ l.r) : ∃ i, row l i = r := by
  obtain ⟨i, hi, e⟩ :=
      List.mem_iff_getElem.mp h
  refine ⟨i, ?_⟩
  rw [← rows_at (by simpa [sz] using hi), gt_get hi, e]
theorem row_mem' {l : Lso Itm} (r0 : 0 < l.r.length) (i : Nat) : row l i ∈ l.h ++ l.r := by
  by_cases z : i < sz l
  · exact row_mem z
  · obtain ⟨k, rfl⟩ : ∃ k, i = l.h.length + k := ⟨i - l.h.length, by unfold sz at z; omega⟩
    have m := Nat.mod_lt k r0
    rw [row_r, gt_get m]
    exact List.mem_append_right _ (List.getElem_mem _)
/-- lassos of items of the same row, or of some of it -/
theorem rows_of {l m : Lso Itm} (r0 : 0 < l.r.length) {many : Nat} (hl : ∀ r ∈ l.h ++ l.r, r.length = many) (e : ∀ i, ∃ j, row m i = row l j) : ∀ r ∈ m.h ++ m.r, r.length = many := fun r hr => by
  obtain ⟨i, rfl⟩ := mem_row hr
  obtain ⟨j, e⟩ := e i
  rw [e]
  exact hl _ (row_mem' r0 j)
theorem least_lok {l : Lso Itm} {many size : Nat} (k : LOk many size l) : LOk many size (least l) := by
  have ll := least_len k.r0
  refine ⟨(least_ok k.r0).r, ?_, rows_of k.r0 k.rw fun i => ⟨i, least_row k.r0 i⟩⟩
  have := k.sz
  unfold sz at *
  omega
theorem beg_lok {l : Lso Itm} {many size : Nat} (k : LOk many size l) (p : Nat) : LOk many size (begL l p) := by
  have ll := begL_r k.r0 p
  have r0 := k.r0
  refine ⟨by omega, ?_, rows_of k.r0 k.rw fun i => ⟨p + i, begL_row k.r0 p i⟩⟩
  have := k.sz
  unfold sz at *
  omega
theorem thin_lok {l : Lso Itm} {many size : Nat} (k : LOk many size l) : LOk many (size + size) (thinL l) := by
  obtain ⟨c, C⟩ := cm_ex k.r0
  have t := thin_le (l.h ++ l.r)
  have g := gain_le (lastD default l.r) l.r
  have r0 := k.r0
  refine ⟨thinL_r k.r0, ?_, rows_of k.r0 k.rw fun i => ?_⟩
  · have := k.sz
    unfold sz thinL at *
    simp only [List.length_append] at t
    split
    · simp; omega
    · simp; omega
  · obtain ⟨j, rfl⟩ := C.j i
    exact ⟨j, C.e j⟩
theorem like_i (hL : 2 ≤ L) (T : TD P) (hf : P.fn "_law_like" = some c__law_like) {many : Nat} {l : Lso Itm} (k : LOk many 6 l) {h0 : AH} {g : Nat} (hg : h0 g ≠ none) (kd : Kd h0 g h) (q : ∀ (ls : List (Lso Itm)) c h', (∀ m ∈ ls, LOk many 12 m) → ls.length ≤ 6 → h' c = some (.lst (ls.map lsD)) → Kd h0 g h' → Q (.loc c) h') : wC P L "_law_like" [.loc g, lsD l] h Q X := by
  obtain ⟨n, rfl⟩ : ∃ n, L = n + 1 := ⟨L - 1, by omega⟩
  have r0 := k.r0
  have ks := k.sz
  unfold sz at ks
  have b : l.h.length + l.r.length ≤ 6 := ks
  have c1 : ∀ xs : List Itm, cut (isD xs) none (some 1) = isD (xs.take 1) := fun xs => by rw [← isT]; exact cutT (isD xs) 1
  have c2 : ∀ xs : List Itm, cut (isD xs) (some 1) none = isD xs.tail := fun xs => by
    rw [show cut (isD xs) (some 1) none = (isD xs).drop 1 from cutDr (isD xs) 1, isDr, List.drop_one]
  have oa : ∀ (xs ys : List Itm) (h : AH), xs.length + ys.length ≤ 100 → binD .add (.v (.tup (isD xs))) (.v (.tup (isD ys))) h = some (.v (.tup (isD (xs ++ ys)))) := fun xs ys h b => by
    rw [o_addt (by simp; omega), isD_app]
  refine wC_i hf rfl ?_
  simp [-v_rB, c__law_like, List.replicate]
  rw [v_rB]
  simp [-v_rB]
  rw [oa _ _ _ (by omega)]
  simp [-v_rB]
  rw [oa _ _ _ (by omega)]
  simp [-v_rB, c1, c2]
  rw [oa _ _ _ (by simp; omega)]
  simp [-v_rB]
  rw [oa _ _ _ (by simp; omega)]
  simp [-v_rB]
  intro c hc
  obtain ⟨c0, cg⟩ := kd.free hg hc
  rw [v_rB]
  simp [-v_rB]
  generalize hl1 : [(⟨l.h ++ l.r, l.r⟩ : Lso Itm), ⟨l.h, l.r ++ l.r⟩, ⟨l.h ++ l.r.take 1, l.r.tail ++ l.r.take 1⟩] = l1
  have hx : [D.tup [D.tup (isD (l.h ++ l.r)), D.tup (isD l.r)], D.tup [D.tup (isD l.h), D.tup (isD (l.r ++ l.r))], D.tup [D.tup (isD (l.h ++ l.r.take 1)), D.tup (isD (l.r.tail ++ l.r.take 1))]] = l1.map lsD := by rw [← hl1]; rfl
  rw [hx]
  have kd2 := kd.own (o := .lst (l1.map lsD)) c0 cg
  obtain ⟨ds, e⟩ := kd2.dr
  refine take_n (m := l.r.length) (by omega) T.tk r0 e fun at' ds' ha => ?_
  have ea : (at' : Int) + 1 = ((at' + 1 : Nat) : Int) := by omega
  have cB : cut (isD l.r) (some (at' : Int)) (some ((at' + 1 : Nat) : Int)) = isD ((l.r.drop at').take 1) := by
    rw [cutB _ (by simp; omega) (by omega), isDr, isT]
    congr 2
    omega
  have cT : cut (isD l.r) none (some (at' : Int)) = isD (l.r.take at') := by rw [cutT, isT]
  have cD : cut (isD l.r) (some (at' : Int)) none = isD (l.r.drop at') := by rw [cutDr, isDr]
  rw [v_rB]
  simp [-Int.natCast_add, ea, cB, cT, cD, c2]
  rw [oa _ _ _ (by simp; omega)]
  simp
  rw [oa _ _ _ (by simp; omega)]
  simp
  rw [sls_t (by simp; omega), show (isD l.r).reverse = isD l.r.reverse by simp [isD]]
  have ec : put (put h c (.lst (l1.map lsD))) g (.lst (iL ds')) c = some (.lst (l1.map lsD)) := by rw [put_ne cg, put_eq]
  have l1l : l1.length = 3 := by rw [← hl1]; rfl
  simp
  rw [o_addlo ec (by simp [l1l])]
  simp
  intro d hd
  have kd3 := kd2.take ds'
  obtain ⟨d0, dg⟩ := kd3.free hg hd
  generalize hl2 : [(⟨l.h, l.r.take at' ++ ((l.r.drop at').take 1 ++ l.r.drop at')⟩ : Lso Itm), ⟨l.h.tail, l.r⟩, ⟨l.h, l.r.reverse⟩] = l2
  have hy : [D.tup [D.tup (isD l.h), D.tup (isD (l.r.take at' ++ ((l.r.drop at').take 1 ++ l.r.drop at')))], D.tup [D.tup (isD l.h.tail), D.tup (isD l.r)], D.tup [D.tup (isD l.h), D.tup (isD l.r.reverse)]] = l2.map lsD := by rw [← hl2]; rfl
  have l2l : l2.length = 3 := by rw [← hl2]; rfl
  rw [hy, ← List.map_append]
  refine someQ_i (q (l1 ++ l2) d _ (fun m hm => ?_) (by simp [l1l, l2l]) put_eq (kd3.own d0 dg _))
  have mem : ∀ xs : List Itm, (∀ r ∈ xs, r ∈ l.h ∨ r ∈ l.r) → ∀ r ∈ xs, r.length = many := fun xs hx r hr => k.rw r (List.mem_append.mpr (hx r hr))
  rw [← hl1, ← hl2] at hm
  simp only [List.mem_append, List.mem_cons, List.not_mem_nil, or_false] at hm
  rcases hm with (rfl | rfl | rfl) | (rfl | rfl | rfl)
  · refine ⟨r0, by unfold Las.sz; simp; omega, mem _ fun r hr => ?_⟩
    simp only [List.mem_append] at hr
    grind
  · refine ⟨by simp; omega, by unfold Las.sz; simp; omega, mem _ fun r hr => ?_⟩
    simp only [List.mem_append] at hr
    grind
  · refine ⟨by simp; omega, by unfold Las.sz; simp; omega, mem _ fun r hr => ?_⟩
    simp only [List.mem_append] at hr
    have a1 := List.mem_of_mem_take (i := 1) (a := r) (l := l.r)
    have a2 := List.mem_of_mem_tail (a := r) (l := l.r)
    grind
  · refine ⟨by simp; omega, by unfold Las.sz; simp; omega, mem _ fun r hr => ?_⟩
    simp only [List.mem_append] at hr
    have a1 := List.mem_of_mem_take (i := at') (a := r) (l := l.r)
    have a2 := List.mem_of_mem_drop (i := at') (a := r) (l := l.r)
    have a3 := List.mem_of_mem_take (i := 1) (a := r) (l := l.r.drop at')
    grind
  · refine ⟨r0, by unfold Las.sz; simp; omega, mem _ fun r hr => ?_⟩
    simp only [List.mem_append] at hr
    have a2 := List.mem_of_mem_tail (a := r) (l := l.h)
    grind
  · refine ⟨by simp; omega, by unfold Las.sz; simp; omega, mem _ fun r hr => ?_⟩
    simp only [List.mem_append, List.mem_reverse] at hr
    grind
end
end Las
end Py
namespace Py
open PySem (Str)
namespace Las
section
variable {P : Prog} {L : Nat} {h : AH} {Q : D → AH → Prop} {X : Xc}
theorem un_drop {f g : Nat → Itm} {n p : Nat} (h : ∀ i, g i = f (p + i)) : (un f (n + p)).drop p = un g n := by
  unfold un
  rw [← List.map_drop]
  apply List.ext_getElem?
  intro i
  by_cases hi : i < n
  · simp [hi, h, show p + i < n + p by omega]
  · rw [List.getElem?_eq_none (by simp; omega), List.getElem?_eq_none (by simp; omega)]
theorem right_i (hL : 6 ≤ L) (T : TL P) (M : TM P) (hf : P.fn "_law_is_right" = some c__law_is_right) (hs : P.fn "_law_same" = some c__law_same) {many : Nat} (hm : many ≤ 1000) {l : Lso Itm} (k : LOk many 12 l) (q : Q (.bl true) h) : wC P L "_law_is_right" [lsD l] h Q X := by
  obtain ⟨n, rfl⟩ : ∃ n, L = n + 1 := ⟨L - 1, by omega⟩
  have r0 := k.r0
  have ks : l.h.length + l.r.length ≤ 12 := k.sz
  have kl := least_lok k
  have kls : (least l).h.length + (least l).r.length ≤ 12 := kl.sz
  have smL : ∀ {m : Lso Itm} {z : Nat}, LOk many z m → z ≤ 1000 → sm 3 (lsD m) = true := fun {m z} km hz => by
    have := km.sz
    unfold sz at this
    exact sm_ls (by omega) (by omega) fun r hr => by rw [km.rw r hr]; omega
  have kt := thin_lok k
  have te : least (thinL (least l)) = least (thinL l) := (least_same (thinL_r kl.r0) kt.r0).mpr fun j => thin_same kl.r0 r0 (least_row r0) j
  have s30 : small62 30 = true := by decide
  refine wC_i hf rfl ?_
  simp [-v_rB, c__law_is_right, List.replicate]
  refine lleast_i (by omega) M r0 (by omega) ?_
  rw [v_rB]
  simp [-v_rB]
  refine least_i (by omega) T r0 (by omega) (by omega) ?_
  refine same_n hs 3 (by omega) (smL kl (by omega)) ?_
  simp [-v_rB]
  refine least_i (by omega) T r0 (by omega) (by omega) ?_
  refine same_n hs 3 (by omega) (smL kl (by omega)) ?_
  simp [-v_rB]
  refine thinl_i (by omega) T r0 (by omega) (by omega) ?_
  refine lthd_i (by omega) M r0 (by omega) ?_
  simp [-v_rB]
  rw [v_rB]
  simp [-v_rB]
  refine unr_i (m := 30) (by omega) M r0 (by omega) ?_
  rw [v_rB]
  simp [-v_rB, s30]
  refine comp_m (fun x => .tup (nL (row l (dI x).toNat))) trivial (by simp) (fun x hx k2 hk2 => ?_) ?_
  · obtain ⟨c, hc, rfl⟩ := rngL_mem hx
    simp [wipe]
    refine item_i (by omega) T r0 ?_
    simpa using hk2
  have e30 : (rngL 0 30).map (fun x => D.tup (nL (row l (dI x).toNat))) = isD (un (row l) 30) := by
    unfold rngL isD un
    rw [List.map_map,
        List.map_map]
    apply List.map_congr_left
    intro i _
    simp
  rw [v_fixi, e30]
  refine same_n hs 2 (by omega) (sm_is (by simp [un]) fun r hr => ?_) ?_
  · unfold un at hr
    obtain ⟨i, _, rfl⟩ := List.mem_map.mp hr
    rw [k.rw _ (row_mem' r0 i)]
    omega
  simp [-v_rB]
  refine thinl_i (by omega) T kl.r0 (by omega) (by omega) ?_
  try simp [-v_rB]
  refine thinl_i (by omega) T r0 (by omega) (by omega) ?_
  rw [te]
  refine same_n hs 3 (by omega) (smL (least_lok kt) (by omega)) ?_
  simp [-v_rB]
  rw [v_rB]
  simp [-v_rB]
  have ei : [D.int 0, D.int 1, D.int (l.h.length : Int), D.int ((l.h.length : Int) + 1), D.int 9] = nL [0, 1, l.h.length, l.h.length + 1, 9] := by simp [nL]
  rw [ei]
  refine for_f (fun i env h' => h' = h ∧ ∃ o p, env = [some (lsD l), some (lsD (least l)), some (.tup (isD (un (row l) 30))), p, o, none, none]) ⟨rfl, _, _, rfl⟩ ?_ ?_
  · rintro i x env h' N hx ⟨rfl, o, p', rfl⟩ hN
    obtain ⟨p, hp, rfl⟩ := nL_mem (List.mem_of_getElem? hx)
    have p20 : p ≤ 20 := by
      simp only [List.mem_cons, List.not_mem_nil, or_false] at hp
      omega
    have kb := beg_lok k p
    have kbl := least_lok kb
    have kbs : (least (begL l p)).h.length + (least (begL l p)).r.length ≤ 12 := kbl.sz
    have ep : (20 : Int) + p = ((20 + p : Nat) : Int) := by omega
    simp [-v_rB]
    refine begun_i (by omega) T r0 (by omega) (by omega) ?_
    rw [v_rB]
    simp [-v_rB]
    refine unr_i (m := 20) (by omega) M kbl.r0 (by omega) ?_
    simp [-v_rB, -Int.natCast_add, ep]
    refine unr_i (by omega) M r0 (by omega) ?_
    simp [-v_rB, -Int.natCast_add, cutDr, isDr]
    rw [un_drop (g := row (least (begL l p))) fun i => by rw [least_row kb.r0, begL_row r0], neI]
    simp [-v_rB]
    refine lleast_i (by omega) M kbl.r0 (by omega) ?_
    have el : least (least (begL l p)) = least (begL l p) := (least_same kbl.r0 kb.r0).mpr fun i => least_row kb.r0 i
    rw [el]
    refine same_n hs 3 (by omega) (smL kbl (by omega)) ?_
    simp
    exact hN _ _ ⟨rfl, _, _, rfl⟩
  · rintro env h' ⟨rfl, o, p', rfl⟩
    simp
    exact someQ_i q
theorem gt_map {α β : Type} [Inhabited α] [Inhabited β] [DecidableEq α] [DecidableEq β] {f : α → β} {xs : List α} {i : Nat} (h : i < xs.length) : gt (xs.map f) i = f (gt xs i) := by
  rw [gt_get (by simpa using h), gt_get h, List.getElem_map]
theorem istrue_i (T : TL P) (S : TS P) (B : TB P) (N : TN P) (ha : P.fn "holds_along" = some c_holds_along) (hf : P.fn "_law_is_true" = some c__law_is_true) (hs : P.fn "_law_same" = some c__law_same) {many : Nat} (hm : many ≤ 1000) {l : Lso Itm} (k : LOk many 12 l) {s : Sen} (ok : s.Ok many) (hd : s.dep ≤ 20) (hL : s.dep + 6 ≤ L) (q : Q (.bl true) h) : wC P L "_law_is_true" [lsD l, s.d] h Q X := by
  obtain ⟨n, rfl⟩ : ∃ n, L = n + 1 := ⟨L - 1, by omega⟩
  have r0 := k.r0
  have ks : l.h.length + l.r.length ≤ 12 := k.sz
  have d1 : 1 ≤ s.dep := by cases s <;> simp only [Sen.dep] <;> omega
  have es : (l.h.length : Int) + l.r.length = (sz l : Nat) := by unfold sz; omega
  have sl : sz l ≤ 12 := k.sz
  have s0 : 0 < sz l := by unfold sz; omega
  have sm12 : small62 (sz l : Int) = true := by simp [small62]; omega
  have kt := least_lok (thin_lok k)
  have kts : (least (thinL l)).h.length + (least (thinL l)).r.length ≤ 24 := kt.sz
  have tsl : sz (least (thinL l)) ≤ 24 := kt.sz
  have ts0 : 0 < sz (least (thinL l)) := by unfold sz; have := kt.r0; omega
  have same : bsat (least (thinL l)) s 0 = bsat l s 0 := by
    rw [Bool.eq_iff_iff, bsat_iff kt.r0, bsat_iff r0]
    obtain ⟨c, C⟩ := cm_ex r0
    rw [sat_cm C s 0, C.z]
    exact sat_shift s fun j => by rw [Nat.zero_add]; exact least_row (thinL_r r0) j
  refine wC_i hf rfl ?_
  simp [-v_rB, c__law_is_true, List.replicate, es]
  rw [v_rB]
  simp [-v_rB, sm12]
  refine comp_m (fun x => .int ((if bsat l s (dI x).toNat then 1 else 0 : Nat) : Nat)) trivial (by simp; omega) (fun x hx k2 hk2 => ?_) ?_
  · obtain ⟨c, hc, rfl⟩ := rngL_mem hx
    simp [wipe]
    refine true_i N r0 (by omega) k.rw s ok hc (by omega) ?_
    simp at hk2 ⊢
    cases z : bsat l s c <;> simpa [z] using hk2
  have ed : (rngL 0 (sz l)).map (fun x => D.int ((if bsat l s (dI x).toNat then 1 else 0 : Nat) : Nat)) = nL ((tabl l s).map fun b => if b then 1 else 0) := by
    unfold rngL nL tabl
    rw [List.map_map, List.map_map, List.map_map]
    apply List.map_congr_left
    intro i _
    simp only [Function.comp, Int.zero_add, dI_int, Int.toNat_natCast]
  simp only [v_fixi, Int.toNat_natCast, ed]
  have d0 : atI (nL ((tabl l s).map fun b => if b then 1 else 0)) 0 = some (.int ((if bsat l s 0 then 1 else 0 : Nat) : Nat)) := by
    have := nLs_at (xs := (tabl l s).map fun b => if b then 1 else 0) (i := 0) (by simp [tabl_len]; exact s0)
    rw [show ((0 : Nat) : Int) = 0 from rfl] at this
    rw [this, gt_map (by rw [tabl_len]; exact s0), tabl_at s0]
  have e1 : decide (((if bsat l s 0 then 1 else 0 : Nat) : Int) = 1) = bsat l s 0 := by cases bsat l s 0 <;> rfl
  rw [v_rB]
  simp [-v_rB, -List.map_map]
  refine along_i S B r0 (by omega) k.rw ok (by omega) hd ?_
  refine same_n hs 1 (by omega) ?_ ?_
  · rw [← nL_iL]
    exact sm_iL (by simp [tabl_len]; omega)
  simp [-v_rB, -List.map_map]
  refine holds_i S B ha r0 (by omega) k.rw ok (by omega) hd ?_
  simp only [v_ix, v_cmp, v_var, v_lit, v_lkS, v_lk0, gd_some, x_t, d0, k_eqi, e1, rv_v, v_esc, v_esn]
  refine same_n hs 1 (by omega) rfl ?_
  simp [-v_rB]
  rw [v_rB]
  simp [-v_rB]
  refine thinl_i (by omega) T r0 (by omega) (by omega) ?_
  rw [v_rB]
  simp
  refine holds_i S B ha kt.r0 (by omega) kt.rw ok (by omega) hd ?_
  simp only [v_ix, v_cmp, v_var, v_lit, v_lkS, v_lk0, gd_some, x_t, d0, k_eqi, e1, rv_v, v_esc, v_esn, same]
  refine same_n hs 1 (by omega) rfl ?_
  simp
  refine true_i (p := 0) N kt.r0 (by omega) kt.rw s ok ts0 (by omega) ?_
  simp only [v_ix, v_cmp, v_var, v_lit, v_lkS, v_lk0, gd_some, x_t, d0, k_eqi, e1, rv_v, v_esc, v_esn, same, k_eqb]
  simp
  exact someQ_i q
end
end Las
end Py
namespace Py
open PySem (Str)
namespace Gue
open Las
instance : Inhabited Sen := ⟨.tru⟩
/-! ### what fits, goes on, is met -/
def fitB (t : Tn) (ts : List Bool) (b : Nat) : Bool := match t with
  | .alw => gt ts 0 || decide (b = 0)
  | .atl => !gt ts 0 || decide (b = 1)
  | _ => if gt ts 1 = true then decide (b = 1) else gt ts 0 || decide (b = 0)
def nextB (t : Tn) (ts : List Bool) (b : Nat) : Bool := match t with
  | .alw => gt ts 0 && decide (b = 1)
  | .atl => gt ts 0 || decide (b = 1)
  | _ => gt ts 1 || (gt ts 0 && decide (b = 1))
def metB (t : Tn) (ts : List Bool) (b : Nat) : Bool := match t with
  | .alw => decide (b = 1) || !gt ts 0
  | .atl => decide (b = 0) || gt ts 0
  | _ => decide (b = 0) || gt ts 1
def tls (l : Itm) (ps : List Sen) (bs : List Nat) (s : Sen) : List Bool := s.ps.map (told l ps bs)
def bN (b : Bool) : Nat := if b then 1 else 0
def fitK (l : Itm) (ps : List Sen) (bs : List Nat) (k : Nat) : Bool := fitB (gt ps k).hd (tls l ps bs (gt ps k)) (gt bs k)
def nextK (l : Itm) (ps : List Sen) (bs later : List Nat) (k : Nat) : Bool := decide (bN (nextB (gt ps k).hd (tls l ps bs (gt ps k)) (gt later k)) = gt bs k)
def metK (l : Itm) (ps : List Sen) (bs : List Nat) (k : Nat) : Bool := metB (gt ps k).hd (tls l ps bs (gt ps k)) (gt bs k)
def GFit (l : Itm) (ps : List Sen) (bs : List Nat) : Bool := (List.range ps.length).all (fitK l ps bs)
def GNext (l : Itm) (ps : List Sen) (bs later : List Nat) : Bool := (List.range ps.length).all (nextK l ps bs later)
/-- bits, so many -/
def Bt (m : Nat) (bs : List Nat) : Prop := bs.length = m ∧ ∀ b ∈ bs, b < 2
theorem Bt.at {m : Nat} {bs : List Nat} (h : Bt m bs) (k : Nat) : gt bs k < 2 := by
  by_cases z : k < bs.length
  · rw [gt_get z]; exact h.2 _ (List.getElem_mem _)
  · unfold gt
    rw [List.getElem?_eq_none
        (by omega)]
    decide
/-- the time parts of a sentence, or the like -/
structure Pt (ps : List Sen) : Prop where
  nd : ps.Nodup
  tm : ∀ s ∈ ps, s.isT = true
  cl : ∀ s ∈ ps, ∀ a ∈ s.ps, ∀ x ∈ allS a, x.isT = true → x ∈ ps
  dp : ∀ s ∈ ps, s.dep ≤ 20
theorem allS_tr : ∀ (s : Sen) {x y : Sen}, x ∈ allS s → y ∈ allS x → y ∈ allS s := by
  have key : ∀ (n : Nat) (s : Sen), s.dep ≤ n → ∀ {x y : Sen}, x ∈ allS s → y ∈ allS x → y ∈ allS s := by
    intro n
    induction n with
    | zero => intro s h; cases s <;> simp only [Sen.dep] at h <;> omega
    | succ n ih =>
      intro s h x y hx hy
      rw [allS_ps, List.mem_append, List.mem_singleton] at hx
      rcases hx with hx | rfl
      · rw [List.mem_flatten] at hx
        obtain ⟨L, hL, hx⟩ := hx
        obtain ⟨a, ha, rfl⟩ := List.mem_map.mp hL
        have := ps_dep ha
        exact allS_sub ha (ih a (by omega) hx hy)
      · exact hy
  exact fun s => key s.dep s (Nat.le_refl _)
theorem tp_nodup (s : Sen) : (tpL s).Nodup := by
  have key : ∀ (xs acc : List Sen), acc.Nodup → (xs.foldl tpAdd acc).Nodup := by
    intro xs
    induction xs with
    | nil => exact fun acc h => h
    | cons x r ih =>
      intro acc h
      refine ih _ ?_
      unfold tpAdd
      split
      · rename_i z
        rw [List.nodup_append]
        refine ⟨h, by simp, fun a ha b hb => ?_⟩
        rw [List.mem_singleton] at hb
        subst hb
        exact fun e => z.2 (e ▸ ha)
      · exact h
  exact key _ _ List.nodup_nil
theorem tp_pt {s : Sen} (hd : s.dep ≤ 20) : Pt (tpL s) := by
  refine ⟨tp_nodup s, fun x hx => (tpL_mem.mp hx).2, fun x hx a ha y hy ht => tpL_mem.mpr ⟨allS_tr s (tpL_mem.mp hx).1 (allS_sub ha hy), ht⟩, fun x hx => ?_⟩
  have := allS_dep s x (tpL_mem.mp hx).1
  omega
section
variable {ps : List Sen} (T : Pt ps)
theorem idx_gt {ps : List Sen} (nd : ps.Nodup) {k : Nat} (hk : k < ps.length) : ps.idxOf (gt ps k) = k := by
  rw [gt_get hk]
  exact List.Nodup.idxOf_getElem nd k hk
theorem gt_idx {ps : List Sen} {s : Sen} (h : s ∈ ps) : gt ps (ps.idxOf s) = s ∧ ps.idxOf s < ps.length := by
  have hl := List.idxOf_lt_length_of_mem h
  refine ⟨?_, hl⟩
  rw [gt_get hl]
  exact List.getElem_idxOf hl
theorem gt_memP {ps : List Sen} {k : Nat} (hk : k < ps.length) : gt ps k ∈ ps := by
  rw [gt_get hk]; exact List.getElem_mem _
include T
theorem told_k {l : Itm} {bs : List Nat} {k : Nat} (hk : k < ps.length) : told l ps bs (gt ps k) = decide (gt bs k = 1) := by
  rw [told_t (T.tm _ (gt_memP hk)), idx_gt T.nd hk]
end
/-! ### guesses along a lasso -/
section
variable {l : Lso Itm} (r0 : 0 < l.r.length)
theorem alw_un {a g : Nat → Bool} {r h : Nat} (pa : ∀ i, h ≤ i → a (i + r) = a i) (pg : ∀ i, h ≤ i → g (i + r) = g i) (r0 : 0 < r) (st : ∀ i, g i = (a i && g (i + 1))) (fr : ∃ t, t < r ∧ (g (h + t) = true ∨ a (h + t) = false)) (i : Nat) : g i = true ↔ ∀ j, i ≤ j → a j = true := by
  have mul : ∀ (f : Nat → Bool), (∀ i, h ≤ i → f (i + r) = f i) → ∀ k i, h ≤ i → f (i + r * k) = f i := fun f pf k => by
    induction k with
    | zero => intro i _; rfl
    | succ k ih => intro i hi; rw [Nat.mul_add, Nat.mul_one, ← Nat.add_assoc, pf _ (by omega), ih i hi]
  constructor
  · intro h1 j hj
    have key : ∀ d, g (i + d) = true := by
      intro d
      induction d with
      | zero => exact h1
      | succ d ih =>
        rw [st, Bool.and_eq_true] at ih
        exact ih.2
    have := key (j - i)
    rw [show i + (j - i) = j by omega, st, Bool.and_eq_true] at this
    exact this.1
  · intro h1
    cases e : g i with
    | true => rfl
    | false =>
      have key : ∀ d, g (i + d) = false := by
        intro d
        induction d with
        | zero => exact e
        | succ d ih =>
          rw [st, h1 _ (by omega), Bool.true_and] at ih
          exact ih
      obtain ⟨t, ht, f⟩ := fr
      have le : i ≤ h + t + r * i := by
        have := Nat.le_mul_of_pos_left i r0
        omega
      have k1 := key (h + t + r * i - i)
      rw [show i + (h + t + r * i - i) = h + t + r * i by omega, mul g pg i _ (by omega)] at k1
      have k2 := h1 _ le
      rw [mul a pa i _ (by omega)] at k2
      rw [k1, k2] at f
      rcases f with f | f <;> exact absurd f (by simp)
theorem unt_un {a b g : Nat → Bool} {r h : Nat} (pb : ∀ i, h ≤ i → b (i + r) = b i) (pg : ∀ i, h ≤ i → g (i + r) = g i) (r0 : 0 < r) (st : ∀ i, g i = (b i || (a i && g (i + 1)))) (fr : ∃ t, t < r ∧ (g (h + t) = false ∨ b (h + t) = true)) (i : Nat) : g i = true ↔ ∃ j, i ≤ j ∧ b j = true ∧ ∀ k, i ≤ k → k < j → a k = true := by
  have mul : ∀ (f : Nat → Bool), (∀ i, h ≤ i → f (i + r) = f i) → ∀ k i, h ≤ i → f (i + r * k) = f i := fun f pf k => by
    induction k with
    | zero => intro i _; rfl
    | succ k ih => intro i hi; rw [Nat.mul_add, Nat.mul_one, ← Nat.add_assoc, pf _ (by omega), ih i hi]
  constructor
  · intro h1
    refine Classical.byContradiction fun no => ?_
    have key : ∀ d, g (i + d) = true ∧ (∀ k, i ≤ k → k < i + d → a k = true) := by
      intro d
      induction d with
      | zero => exact ⟨h1, fun k k1 k2 => by omega⟩
      | succ d ih =>
        have nb : b (i + d) = false := by
          cases e : b (i + d) with
          | false => rfl
          | true => exact absurd ⟨i + d, by omega, e, ih.2⟩ no
        have s := ih.1
        rw [st, nb, Bool.false_or, Bool.and_eq_true] at s
        refine ⟨s.2, fun k k1 k2 => ?_⟩
        by_cases z : k = i + d
        · rw [z]; exact s.1
        · exact ih.2 k k1 (by omega)
    obtain ⟨t, ht, f⟩ := fr
    have le : i ≤ h + t + r * i := by
      have := Nat.le_mul_of_pos_left i r0
      omega
    have k1 := key (h + t + r * i - i)
    rw [show i + (h + t + r * i - i) = h + t + r * i by omega] at k1
    have g1 := k1.1
    rw [mul g pg i _ (by omega)] at g1
    rcases f with f | f
    · rw [f] at g1; exact absurd g1 (by simp)
    · rw [← mul b pb i _ (by omega)] at f
      exact no ⟨_, le, f, k1.2⟩
  · rintro ⟨j, hj, hb, ha⟩
    have key : ∀ d, d ≤ j - i → g (j - d) = true := by
      intro d
      induction d with
      | zero => intro _; rw [st, Nat.sub_zero, hb, Bool.true_or]
      | succ d ih =>
        intro hd
        rw [st, show j - (d + 1) + 1 = j - d by omega, ih (by omega), ha (j - (d + 1)) (by omega) (by omega)]
        simp
    have := key (j - i) (Nat.le_refl _)
    rwa [show j - (j - i) = i by omega] at this
end
end Gue
end Py
namespace Py
open PySem (Str)
namespace Gue
open Las
/-- the true bits at a place -/
def trow (l : Lso Itm) (ps : List Sen) (i : Nat) : List Nat := ps.map fun s => bN (bsat l s i)
def TG (l : Lso Itm) (ps : List Sen) : Lso Itm := ⟨(List.range l.h.length).map (trow l ps), (List.range l.r.length).map fun i => trow l ps (l.h.length + i)⟩
/-- guesses that fit, go on and are fair -/
structure JG (l : Lso Itm) (ps : List Sen) (G : Lso Itm) : Prop where
  go : ∀ i, i < sz l → GFit (row l i) ps (row G i) = true ∧ GNext (row l i) ps (row G i) (row G (i + 1)) = true
  fr : ∀ k, k < ps.length → ∃ t, t < l.r.length ∧ metK (row l (l.h.length + t)) ps (row G (l.h.length + t)) k = true
theorem bN_1 (b : Bool) : (bN b = 1) = (b = true) := by cases b <;> simp [bN]
theorem bN_lt (b : Bool) : bN b < 2 := by cases b <;> decide
theorem trow_at {l : Lso Itm} {ps : List Sen} {i k : Nat} (hk : k < ps.length) : gt (trow l ps i) k = bN (bsat l (gt ps k) i) := by
  unfold trow
  rw [gt_get (by simpa using hk), gt_get hk, List.getElem_map]
theorem trow_bt {l : Lso Itm} {ps : List Sen} {i : Nat} : Bt ps.length (trow l ps i) := by
  refine ⟨by simp [trow], fun b hb => ?_⟩
  obtain ⟨s, _, rfl⟩ := List.mem_map.mp hb
  exact bN_lt _
section
variable {l G : Lso Itm} (r0 : 0 < l.r.length) (hh : G.h.length = l.h.length) (hr : G.r.length = l.r.length) {ps : List Sen} (T : Pt ps)
include r0 in
theorem sat_pr (φ : Sen) (i : Nat) (hi : l.h.length ≤ i) : bsat l φ (i + l.r.length) = bsat l φ i := by
  rw [Bool.eq_iff_iff, bsat_iff r0, bsat_iff r0]
  have := sat_per r0 φ hi 1
  rwa [Nat.mul_one] at this
include r0 hh hr
theorem row_wr (i : Nat) : row G (wr l i) = row G i := by
  unfold wr
  split
  · rfl
  · rename_i z
    obtain ⟨k, rfl⟩ : ∃ k, i = l.h.length + k := ⟨i - l.h.length, by omega⟩
    have m := Nat.mod_lt k r0
    rw [Nat.add_sub_cancel_left, ← hh, row_r, row_r, hr, Nat.mod_mod]
theorem row_wn (i : Nat) : row G (wr l i + 1) = row G (i + 1) := by
  have e : wr l (wr l i + 1) = wr l (i + 1) := by
    rw [wr_nx r0, wr_nx r0, wr_lt (wr_sz r0 i)]
  rw [← row_wr r0 hh hr (wr l i + 1), e, row_wr r0 hh hr]
theorem JG.all (J : JG l ps G) (i : Nat) : GFit (row l i) ps (row G i) = true ∧ GNext (row l i) ps (row G i) (row G (i + 1)) = true := by
  have := J.go (wr l i) (wr_sz r0 i)
  rw [row_wr r0 hh hr, row_wn r0 hh hr, row_wr r0 (G := l) rfl rfl] at this
  exact this
include T
/-- told by guesses is what is true -/
theorem JG.val (J : JG l ps G) (φ : Sen) : (∀ x ∈ allS φ, x.isT = true → x ∈ ps) → ∀ i, told (row l i) ps (row G i) φ = bsat l φ i := by
  have time : ∀ s ∈ ps, (∀ a ∈ s.ps, ∀ i, told (row l i) ps (row G i) a = bsat l a i) → ∀ i, told (row l i) ps (row G i) s = bsat l s i := by
    intro s hs ih
    obtain ⟨gi, il⟩ := gt_idx hs
    have st := T.tm s hs
    generalize ps.idxOf s = k at gi il
    have tk : ∀ i, told (row l i) ps (row G i) s = decide (gt (row G i) k = 1) := fun i => by rw [← gi, told_k T il]
    have gp : ∀ i, l.h.length ≤ i → decide (gt (row G (i + l.r.length)) k = 1) = decide (gt (row G i) k = 1) := fun i hi => by
      have := row_per (l := G) i (by omega)
      rw [hr] at this
      rw [this]
    have nx : ∀ i, bN (nextB s.hd (s.ps.map fun a => bsat l a i) (gt (row G (i + 1)) k)) = gt (row G i) k := fun i => by
      have := (J.all r0 hh hr i).2
      rw [GNext, List.all_eq_true] at this
      have := this k (List.mem_range.mpr il)
      rw [nextK, decide_eq_true_iff, gi] at this
      rw [← this]
      congr 2
      unfold tls
      apply List.map_congr_left
      intro a ha
      exact (ih a ha i).symm
    have nx' : ∀ i, decide (gt (row G i) k = 1) = nextB s.hd (s.ps.map fun a => bsat l a i) (gt (row G (i + 1)) k) := fun i => by
      rw [← nx i, Bool.eq_iff_iff, decide_eq_true_iff, bN_1]
    obtain ⟨t, ht, f⟩ := J.fr k il
    rw [metK, gi, tls, show s.ps.map (told (row l (l.h.length + t)) ps (row G (l.h.length + t))) = s.ps.map fun a => bsat l a (l.h.length + t) from List.map_congr_left fun a ha => ih a ha _] at f
    intro i
    rw [tk, Bool.eq_iff_iff, bsat_iff r0]
    have n01 : ∀ i, decide (gt (row G i) k = 0) = true → decide (gt (row G i) k = 1) = false := fun i h => by
      rw [decide_eq_true_iff] at h
      rw [h]; rfl
    cases s with
    | alw a =>
      simp only [Sen.hd, Sen.ps, List.map_cons, List.map_nil, nextB, metB] at nx' f
      simp only [sat]
      rw [alw_un (a := bsat l a) (g := fun i => decide (gt (row G i) k = 1)) (sat_pr r0 a) gp r0 nx' ⟨t, ht, by simpa [gt] using f⟩ i]
      exact ⟨fun h j hj => (bsat_iff r0 a j).mp (h j hj), fun h j hj => (bsat_iff r0 a j).mpr (h j hj)⟩
    | atl a =>
      simp only [Sen.hd, Sen.ps, List.map_cons, List.map_nil, nextB, metB] at nx' f
      simp only [sat]
      rw [unt_un (a := fun _ => true) (b := bsat l a) (g := fun i => decide (gt (row G i) k = 1)) (sat_pr r0 a) gp r0 (fun i => by rw [nx' i]; simp [gt]) ⟨t, ht, ?_⟩ i]
      · constructor
        · rintro ⟨j, h1, h2, _⟩; exact ⟨j, h1, (bsat_iff r0 a j).mp h2⟩
        · rintro ⟨j, h1, h2⟩; exact ⟨j, h1, (bsat_iff r0 a j).mpr h2, fun _ _ _ => rfl⟩
      · rw [Bool.or_eq_true] at f
        exact f.imp (n01 _) (by simp [gt])
    | unt a b =>
      simp only [Sen.hd, Sen.ps, List.map_cons, List.map_nil, nextB, metB] at nx' f
      simp only [sat]
      rw [unt_un (a := bsat l a) (b := bsat l b) (g := fun i => decide (gt (row G i) k = 1)) (sat_pr r0 b) gp r0 (fun i => by rw [nx' i]; simp [gt]) ⟨t, ht, ?_⟩ i]
      · constructor
        · rintro ⟨j, h1, h2, h3⟩; exact ⟨j, h1, (bsat_iff r0 b j).mp h2, fun k k1 k2 => (bsat_iff r0 a k).mp (h3 k k1 k2)⟩
        · rintro ⟨j, h1, h2, h3⟩; exact ⟨j, h1, (bsat_iff r0 b j).mpr h2, fun k k1 k2 => (bsat_iff r0 a k).mpr (h3 k k1 k2)⟩
      · rw [Bool.or_eq_true] at f
        exact f.imp (n01 _) (by simp [gt])
    | _ => simp [Sen.isT] at st
  have key : ∀ (n : Nat) (φ : Sen), φ.dep ≤ n → (∀ x ∈ allS φ, x.isT = true → x ∈ ps) → ∀ i, told (row l i) ps (row G i) φ = bsat l φ i := by
    intro n
    induction n with
    | zero => intro φ h; cases φ <;> simp only [Sen.dep] at h <;> omega
    | succ n ih =>
      intro φ h hp i
      have sub : ∀ a ∈ φ.ps, ∀ i, told (row l i) ps (row G i) a = bsat l a i := fun a ha i => ih a (by have := ps_dep ha; omega) (fun x hx => hp x (allS_sub ha hx)) i
      by_cases ht : φ.isT = true
      · exact time φ (hp φ (allS_self φ) ht) sub i
      · cases φ with
        | tru => rfl
        | lig k => rfl
        | neg a => simp only [told, bsat]; rw [sub a (by simp [Sen.ps])]
        | con a b => simp only [told, bsat]; rw [sub a (by simp [Sen.ps]), sub b (by simp [Sen.ps])]
        | dis a b => simp only [told, bsat]; rw [sub a (by simp [Sen.ps]), sub b (by simp [Sen.ps])]
        | _ => exact absurd rfl ht
  exact key φ.dep φ (Nat.le_refl _)
theorem JG.rows (J : JG l ps G) (hb : ∀ i, Bt ps.length (row G i)) (i : Nat) : row G i = trow l ps i := by
  refine gt_ext ((hb i).1.trans trow_bt.1.symm) fun k hk => ?_
  rw [(hb i).1] at hk
  rw [trow_at hk]
  have m := gt_memP hk
  have v := J.val r0 hh hr T (gt ps k) (fun x hx ht => by
    rw [allS_ps, List.mem_append, List.mem_singleton] at hx
    rcases hx with hx | rfl
    · rw [List.mem_flatten] at hx
      obtain ⟨L, hL, hx⟩ := hx
      obtain ⟨a, ha, rfl⟩ := List.mem_map.mp hL
      exact T.cl _ m a ha x hx ht
    · exact m) i
  rw [told_k T hk] at v
  rw [← v]
  have := (hb i).at k
  unfold bN
  by_cases z : gt (row G i) k = 1
  · rw [if_pos (by simpa using z), z]
  · rw [if_neg (by simpa using z)]; omega
omit hh hr in
theorem TG.told (G : Lso Itm) (e : ∀ i, row G i = trow l ps i) (φ : Sen) : (∀ x ∈ allS φ, x.isT = true → x ∈ ps) → ∀ i, Las.told (row l i) ps (row G i) φ = bsat l φ i := by
  have key : ∀ (n : Nat) (φ : Sen), φ.dep ≤ n → (∀ x ∈ allS φ, x.isT = true → x ∈ ps) → ∀ i, Las.told (row l i) ps (row G i) φ = bsat l φ i := by
    intro n
    induction n with
    | zero => intro φ h; cases φ <;> simp only [Sen.dep] at h <;> omega
    | succ n ih =>
      intro φ h hp i
      have sub : ∀ a ∈ φ.ps, ∀ i, Las.told (row l i) ps (row G i) a = bsat l a i := fun a ha i => ih a (by have := ps_dep ha; omega) (fun x hx => hp x (allS_sub ha hx)) i
      by_cases ht : φ.isT = true
      · have m := hp φ (allS_self φ) ht
        obtain ⟨gi, il⟩ := gt_idx m
        rw [told_t ht, e i, trow_at il, gi, Bool.eq_iff_iff, decide_eq_true_iff, bN_1]
      · cases φ with
        | tru => rfl
        | lig k => rfl
        | neg a => simp only [Las.told, bsat]; rw [sub a (by simp [Sen.ps])]
        | con a b => simp only [Las.told, bsat]; rw [sub a (by simp [Sen.ps]), sub b (by simp [Sen.ps])]
        | dis a b => simp only [Las.told, bsat]; rw [sub a (by simp [Sen.ps]), sub b (by simp [Sen.ps])]
        | _ => exact absurd rfl ht
  exact key φ.dep φ (Nat.le_refl _)
omit hh hr in
theorem TG.judge (G : Lso Itm) (e : ∀ i, row G i = trow l ps i) : JG l ps G := by
  have tl : ∀ k, k < ps.length → ∀ i, tls (row l i) ps (row G i) (gt ps k) = (gt ps k).ps.map fun a => bsat l a i := fun k hk i => by
    unfold tls
    exact List.map_congr_left fun a ha => TG.told r0 T G e a (fun x hx => T.cl _ (gt_memP hk) a ha x hx) i
  refine ⟨fun i hi => ⟨?_, ?_⟩, fun k hk => ?_⟩
  · rw [GFit, List.all_eq_true]
    intro k hk
    rw [List.mem_range] at hk
    have st := T.tm _ (gt_memP hk)
    rw [fitK, tl k hk, e, trow_at hk]
    generalize gt ps k = s at st
    cases s with
    | alw a =>
      have := alw_rec r0 a i
      simp only [Sen.hd, Sen.ps, List.map_cons, List.map_nil, fitB, this]
      cases bsat l a i <;> cases bsat l (.alw a) (i + 1) <;> rfl
    | atl a =>
      have := unt_rec r0 .tru a i
      rw [← atl_unt r0, ← atl_unt r0] at this
      simp only [Sen.hd, Sen.ps, List.map_cons, List.map_nil, fitB, this]
      cases bsat l a i <;> cases bsat l (.atl a) (i + 1) <;> rfl
    | unt a b =>
      have := unt_rec r0 a b i
      simp only [Sen.hd, Sen.ps, List.map_cons, List.map_nil, fitB, this]
      cases bsat l a i <;> cases bsat l b i <;> cases bsat l (.unt a b) (i + 1) <;> rfl
    | _ => simp [Sen.isT] at st
  · rw [GNext, List.all_eq_true]
    intro k hk
    rw [List.mem_range] at hk
    have st := T.tm _ (gt_memP hk)
    rw [nextK, tl k hk, e, e, trow_at hk, trow_at hk]
    generalize gt ps k = s at st
    cases s with
    | alw a =>
      have := alw_rec r0 a i
      simp only [Sen.hd, Sen.ps, List.map_cons, List.map_nil, nextB, this]
      cases bsat l a i <;> cases bsat l (.alw a) (i + 1) <;> rfl
    | atl a =>
      have := unt_rec r0 .tru a i
      rw [← atl_unt r0, ← atl_unt r0] at this
      simp only [Sen.hd, Sen.ps, List.map_cons, List.map_nil, nextB, this]
      cases bsat l a i <;> cases bsat l (.atl a) (i + 1) <;> rfl
    | unt a b =>
      have := unt_rec r0 a b i
      simp only [Sen.hd, Sen.ps, List.map_cons, List.map_nil, nextB, this]
      cases bsat l a i <;> cases bsat l b i <;> cases bsat l (.unt a b) (i + 1) <;> rfl
    | _ => simp [Sen.isT] at st
  · have st := T.tm _ (gt_memP hk)
    have te : ∀ i, tls (row l i) ps (trow l ps i) (gt ps k) = (gt ps k).ps.map fun a => bsat l a i := fun i => by rw [← e]; exact tl k hk i
    simp only [metK, e, te, trow_at hk]
    generalize gt ps k = s at st
    refine Classical.byContradiction fun no => ?_
    have no' := fun t (ht : t < l.r.length) => fun h => no ⟨t, ht, h⟩
    cases s with
    | alw a =>
      simp only [Sen.hd, Sen.ps, List.map_cons, List.map_nil, metB, Bool.or_eq_true, decide_eq_true_iff, bN_1] at no'
      have n0 := fun t ht => no' t ht
      have : bsat l (.alw a) l.h.length = true := by
        rw [← alw_h r0, vv_a]
        intro t ht
        have e2 : sz l - l.h.length = l.r.length := by unfold sz; omega
        rw [e2] at ht
        cases z : bsat l a (l.h.length + t) with
        | true => rfl
        | false => exact absurd (.inr (by simp [gt, z])) (n0 t ht)
      have := n0 0 r0
      rw [Nat.add_zero] at this
      exact this (.inl (by assumption))
    | atl a =>
      simp only [Sen.hd, Sen.ps, List.map_cons, List.map_nil, metB, Bool.or_eq_true, decide_eq_true_iff] at no'
      have n1 : ∀ t, t < l.r.length → bsat l a (l.h.length + t) = false := fun t ht => by
        cases z : bsat l a (l.h.length + t) with
        | false => rfl
        | true => exact absurd (.inr (by simp [gt, z])) (no' t ht)
      have n2 : bsat l (.atl a) l.h.length = false := by
        rw [atl_unt r0, ← unt_h r0]
        cases z : vv (fU (bsat l .tru) (bsat l a)) false (sz l - l.h.length) l.h.length with
        | false => rfl
        | true =>
          obtain ⟨k, k1, k2, _⟩ := (vv_u _ _).mp z
          have e2 : sz l - l.h.length = l.r.length := by unfold sz; omega
          rw [n1 k (by omega)] at k2
          exact absurd k2 (by simp)
      have := no' 0 r0
      rw [Nat.add_zero, n2] at this
      exact this (.inl rfl)
    | unt a b =>
      simp only [Sen.hd, Sen.ps, List.map_cons, List.map_nil, metB, Bool.or_eq_true, decide_eq_true_iff] at no'
      have n1 : ∀ t, t < l.r.length → bsat l b (l.h.length + t) = false := fun t ht => by
        cases z : bsat l b (l.h.length + t) with
        | false => rfl
        | true => exact absurd (.inr (by simp [gt, z])) (no' t ht)
      have n2 : bsat l (.unt a b) l.h.length = false := by
        rw [← unt_h r0]
        cases z : vv (fU (bsat l a) (bsat l b)) false (sz l - l.h.length) l.h.length with
        | false => rfl
        | true =>
          obtain ⟨k, k1, k2, _⟩ := (vv_u _ _).mp z
          have e2 : sz l - l.h.length = l.r.length := by unfold sz; omega
          rw [n1 k (by omega)] at k2
          exact absurd k2 (by simp)
      have := no' 0 r0
      rw [Nat.add_zero, n2] at this
      exact this (.inl rfl)
    | _ => simp [Sen.isT] at st
end
theorem TG_row {l : Lso Itm} (r0 : 0 < l.r.length) {ps : List Sen} (i : Nat) : row (TG l ps) i = trow l ps i := by
  have tw : ∀ j, trow l ps (wr l j) = trow l ps j := fun j => by
    unfold trow
    exact List.map_congr_left fun s _ => by rw [bsat_wr r0]
  rw [← row_wr (l := l) (G := TG l ps) r0 (by simp [TG]) (by simp [TG]), ← tw]
  have lt := wr_sz r0 i
  generalize wr l i = j at lt
  by_cases z : j < l.h.length
  · rw [row_h (by simpa [TG] using z)]
    simp [TG, gt, z]
  · obtain ⟨k, rfl⟩ : ∃ k, j = l.h.length + k := ⟨j - l.h.length, by omega⟩
    have hk : k < l.r.length := by unfold sz at lt; omega
    have := row_r (l := TG l ps) k
    rw [show (TG l ps).h.length = l.h.length by simp [TG], show (TG l ps).r.length = l.r.length by simp [TG], Nat.mod_eq_of_lt hk] at this
    rw [this]
    simp [TG, gt, hk]
theorem rows_eq {A B : Lso Itm} (h1 : A.h.length = B.h.length) (h2 : A.r.length = B.r.length) (h : ∀ i, i < sz A → row A i = row B i) : A = B := by
  rw [lso_of (l := A), lso_of (l := B), ← h1, ← h2]
  congr 1
  · rw [un_eq]
    exact fun i hi => h i (by unfold sz; omega)
  · apply List.map_congr_left
    intro i hi
    rw [List.mem_range] at hi
    exact h _ (by unfold sz; omega)
/-- just the true guesses are judged right -/
theorem judge_iff {l G : Lso Itm} (r0 : 0 < l.r.length) (hh : G.h.length = l.h.length) (hr : G.r.length = l.r.length) {ps : List Sen} (T : Pt ps) (hb : ∀ r ∈ G.h ++ G.r, Bt ps.length r) : JG l ps G ↔ G = TG l ps := by
  constructor
  · intro J
    have hb' : ∀ i, Bt ps.length (row G i) := fun i => hb _ (row_mem' (by omega) i)
    exact rows_eq (by rw [hh]; simp [TG]) (by rw [hr]; simp [TG]) fun i _ => by rw [TG_row r0, J.rows r0 hh hr T hb' i]
  · rintro rfl
    exact TG.judge r0 T _ fun i => TG_row r0 i
end Gue
end Py
namespace Py
open PySem (Str)
namespace Gue
open Las
/-! ### where lights stay -/
theorem stay1 {t : Tn} (h : t = .alw ∨ t = .atl ∨ t = .unt) {ts : List Bool} {b c : Nat} (hb : b < 2) (hc : c < 2) (f1 : fitB t ts b = true) (f2 : fitB t ts c = true) (n : bN (nextB t ts c) = b) : c = b := by
  have b2 : b = 0 ∨ b = 1 := by omega
  have c2 : c = 0 ∨ c = 1 := by omega
  rcases h with rfl | rfl | rfl <;> simp only [fitB, nextB] at f1 f2 n <;> rcases b2 with rfl | rfl <;> rcases c2 with rfl | rfl <;> first | rfl | (exfalso; revert f1 f2 n; cases gt ts 0 <;> cases gt ts 1 <;> decide)
theorem stay2 {t : Tn} (h : t = .alw ∨ t = .atl ∨ t = .unt) {ts : List Bool} {b : Nat} (hb : b < 2) (f1 : fitB t ts b = true) : bN (nextB t ts b) = b := by
  have b2 : b = 0 ∨ b = 1 := by omega
  rcases h with rfl | rfl | rfl <;> simp only [fitB, nextB] at f1 ⊢ <;> rcases b2 with rfl | rfl <;> revert f1 <;> cases gt ts 0 <;> cases gt ts 1 <;> decide
theorem isT_hd {s : Sen} (h : s.isT = true) : s.hd = .alw ∨ s.hd = .atl ∨ s.hd = .unt := by
  cases s <;> simp [Sen.isT] at h <;> simp [Sen.hd]
section
variable {ps : List Sen} (T : Pt ps) {l : Itm} {g : List Nat}
include T
theorem self_next (bg : Bt ps.length g) (fg : GFit l ps g = true) : GNext l ps g g = true := by
  rw [GFit, List.all_eq_true] at fg
  rw [GNext, List.all_eq_true]
  intro k hk
  have f := fg k hk
  rw [List.mem_range] at hk
  rw [nextK, decide_eq_true_iff]
  exact stay2 (isT_hd (T.tm _ (gt_memP hk))) (bg.at k) f
theorem only_self {o : List Nat} (bg : Bt ps.length g) (bo : Bt ps.length o) (fg : GFit l ps g = true) (fo : GFit l ps o = true) (n : GNext l ps g o = true) : o = g := by
  rw [GFit, List.all_eq_true] at fg fo
  rw [GNext, List.all_eq_true] at n
  have time : ∀ k, k < ps.length → (∀ a ∈ (gt ps k).ps, told l ps o a = told l ps g a) → gt o k = gt g k := fun k hk ih => by
    have f1 := fg k (List.mem_range.mpr hk)
    have f2 := fo k (List.mem_range.mpr hk)
    have nn := n k (List.mem_range.mpr hk)
    rw [nextK, decide_eq_true_iff] at nn
    have e : tls l ps o (gt ps k) = tls l ps g (gt ps k) := List.map_congr_left ih
    rw [fitK, e] at f2
    exact stay1 (isT_hd (T.tm _ (gt_memP hk))) (bg.at k) (bo.at k) f1 f2 nn
  have key : ∀ (m : Nat) (φ : Sen), φ.dep ≤ m → (∀ x ∈ allS φ, x.isT = true → x ∈ ps) → told l ps o φ = told l ps g φ := by
    intro m
    induction m with
    | zero => intro φ h; cases φ <;> simp only [Sen.dep] at h <;> omega
    | succ m ih =>
      intro φ h hp
      have sub : ∀ a ∈ φ.ps, told l ps o a = told l ps g a := fun a ha => ih a (by have := ps_dep ha; omega) (fun x hx => hp x (allS_sub ha hx))
      by_cases ht : φ.isT = true
      · obtain ⟨gi, il⟩ := gt_idx (hp φ (allS_self φ) ht)
        rw [told_t ht, told_t ht, time _ il (by rw [gi]; exact sub)]
      · cases φ with
        | tru => rfl
        | lig k => rfl
        | neg a => simp only [told]; rw [sub a (by simp [Sen.ps])]
        | con a b => simp only [told]; rw [sub a (by simp [Sen.ps]), sub b (by simp [Sen.ps])]
        | dis a b => simp only [told]; rw [sub a (by simp [Sen.ps]), sub b (by simp [Sen.ps])]
        | _ => exact absurd rfl ht
  refine gt_ext (bo.1.trans bg.1.symm) fun k hk => ?_
  rw [bo.1] at hk
  exact time k hk fun a ha => key a.dep a (Nat.le_refl _) fun x hx => T.cl _ (gt_memP hk) a ha x hx
end
/-! ### rows of bits -/
def bitsL : Nat → List (List Nat)
  | 0 => [[]]
  | m + 1 => (bitsL m).flatMap fun r => [r ++ [0], r ++ [1]]
theorem bits_mem : ∀ (m : Nat) (bs : List Nat), bs ∈ bitsL m ↔ Bt m bs
  | 0, bs => by
    simp only [bitsL, List.mem_singleton]
    constructor
    · rintro rfl; exact ⟨rfl, by simp⟩
    · rintro ⟨h, _⟩; exact List.length_eq_zero_iff.mp h
  | m + 1, bs => by
    simp only [bitsL, List.mem_flatMap, List.mem_cons, List.not_mem_nil, or_false]
    constructor
    · rintro ⟨r, hr, h⟩
      have b := (bits_mem m r).mp hr
      rcases h with rfl | rfl
      · refine ⟨by simp [b.1], fun x hx => ?_⟩
        rw [List.mem_append, List.mem_singleton] at hx
        rcases hx with hx | rfl
        · exact b.2 x hx
        · decide
      · refine ⟨by simp [b.1], fun x hx => ?_⟩
        rw [List.mem_append, List.mem_singleton] at hx
        rcases hx with hx | rfl
        · exact b.2 x hx
        · decide
    · rintro ⟨h1, h2⟩
      rcases List.eq_nil_or_concat bs with rfl | ⟨r, x, e⟩
      · simp at h1
      · rw [List.concat_eq_append] at e
        subst e
        refine ⟨r, (bits_mem m r).mpr ⟨by simpa using h1, fun y hy => h2 y (List.mem_append_left _ hy)⟩, ?_⟩
        have := h2 x (by simp)
        have x2 : x = 0 ∨ x = 1 := by omega
        rcases x2 with rfl | rfl
        · exact .inl rfl
        · exact .inr rfl
theorem bits_nd : ∀ m, (bitsL m).Nodup
  | 0 => by simp [bitsL]
  | m + 1 => by
    have ih := bits_nd m
    unfold bitsL List.Nodup
    rw [List.pairwise_flatMap]
    refine ⟨fun r _ => by simp, ih.imp fun {a b} hab x hx y hy => ?_⟩
    simp only [List.mem_cons, List.not_mem_nil, or_false] at hx hy
    intro e
    have l1 : x.take a.length = a ∧ x.length = a.length + 1 := by rcases hx with rfl | rfl <;> simp
    have l2 : y.take b.length = b ∧ y.length = b.length + 1 := by rcases hy with rfl | rfl <;> simp
    have : a.length = b.length := by have := congrArg List.length e; omega
    exact hab (by rw [← l1.1, ← l2.1, e, this])
theorem bits_len : ∀ m, (bitsL m).length = 2 ^ m
  | 0 => rfl
  | m + 1 => by
    have := bits_len m
    have key : ∀ (xs : List (List Nat)), (xs.flatMap fun r => [r ++ [0], r ++ [1]]).length = 2 * xs.length := by
      intro xs
      induction xs with
      | nil => rfl
      | cons x r ih => rw [List.flatMap_cons, List.length_append, ih]; simp; omega
    rw [bitsL, key, this, Nat.pow_succ]; omega
theorem filter_one {α : Type} {xs : List α} {g : α} {p : α → Bool} (nd : xs.Nodup) (hg : g ∈ xs) (h : ∀ x ∈ xs, p x = true ↔ x = g) : xs.filter p = [g] := by
  induction xs with
  | nil => simp at hg
  | cons x r ih =>
    rw [List.nodup_cons] at nd
    by_cases z : x = g
    · subst z
      rw [List.filter_cons, if_pos ((h x (List.mem_cons_self)).mpr rfl)]
      congr 1
      rw [List.filter_eq_nil_iff]
      intro y hy e
      have := (h y (List.mem_cons_of_mem _ hy)).mp e
      rw [this] at hy
      exact nd.1 hy
    · rw [List.filter_cons, if_neg (fun e => z ((h x (List.mem_cons_self)).mp e))]
      exact ih nd.2 ((List.mem_cons.mp hg).resolve_left (fun e => z e.symm)) fun y hy => h y (List.mem_cons_of_mem _ hy)
/-! ### time parts, one after the other -/
theorem tp_filter : ∀ (xs acc ys : List Sen), xs.foldl tpAdd (acc ++ ys.filter fun y => !decide (y ∈ acc)) = acc ++ (xs.foldl tpAdd ys).filter fun y => !decide (y ∈ acc)
  | [], acc, ys => rfl
  | x :: r, acc, ys => by
    rw [List.foldl_cons, List.foldl_cons, ← tp_filter r]
    congr 1
    unfold tpAdd
    by_cases ht : x.isT = true
    · by_cases ha : x ∈ acc
      · rw [if_neg (fun z => z.2 (List.mem_append_left _ ha))]
        split
        · rw [List.filter_append]
          simp [ha]
        · rfl
      · by_cases hy : x ∈ ys
        · rw [if_neg (fun z => z.2 (List.mem_append_right _ (List.mem_filter.mpr ⟨hy, by simp [ha]⟩))), if_neg (fun z => z.2 hy)]
        · have nm : x ∉ acc ++ ys.filter fun y => !decide (y ∈ acc) := fun z => by
            rw [List.mem_append, List.mem_filter] at z
            rcases z with z | z
            · exact ha z
            · exact hy z.1
          rw [if_pos ⟨ht, nm⟩, if_pos ⟨ht, hy⟩, List.filter_append]
          simp [ha]
    · rw [if_neg (fun z => ht z.1), if_neg (fun z => ht z.1)]
theorem tp_step (xs acc : List Sen) : xs.foldl tpAdd acc = acc ++ (xs.foldl tpAdd []).filter fun y => !decide (y ∈ acc) := by
  have := tp_filter xs acc []
  simpa using this
end Gue
end Py
namespace Py
open PySem (Str)
/-- a comprehension with a word, over rows of our own -/
theorem compi_g {α : Type} {P : Prog} {n : Nat} {t : Tg} {own : List Nat} {c e : Ex} {env : Env} {s : Src} {h : AH} {Q : List D → AH → Prop} (g r : α → D) (p : α → Bool) (xs : List α) (hs0 : s.items = xs.map g) (hc : s.chk h) (hl : xs.length ≤ 16777216)
    (hs : ∀ a ∈ xs, ∀ k : Option D → AH → Prop, k (if p a = true then some (r a) else none) h → wTg t (g a) (wipe env own) h fun e2 h3 => wX (wC P n) P.gl c e2 h3 (fun b h4 => gd (tru b h4) fun b => if b = true then wX (wC P n) P.gl e e2 h4 (fun x h5 => rv x h5 fun d h6 => k (some d) h6) noX else k none h4) noX) (hq : Q ((xs.filter p).map r) h) : CompiG (wC P n) P.gl t own c e env s h Q := by
  refine compi_by (fun i acc h' => h = h' ∧ acc = ((xs.take i).filter p).map r) ⟨rfl, by simp⟩ (fun i acc h' _ z => z.1 ▸ hc) ?_ ?_
  · rintro i x acc h' N hx ⟨rfl, rfl⟩ hN
    rw [hs0, List.getElem?_map, Option.map_eq_some_iff] at hx
    obtain ⟨a, ha, rfl⟩ := hx
    have il := (List.getElem?_eq_some_iff.mp ha).1
    have al : (((xs.take i).filter p).map r).length < 16777216 := by
      have := List.length_filter_le p (xs.take i)
      rw [List.length_take] at this
      rw [List.length_map]; omega
    rw [take_snoc ha, List.filter_append, List.map_append] at hN
    refine hs a (List.mem_of_getElem? ha) (fun o h' => match o with | some d => (((xs.take i).filter p).map r).length < 16777216 ∧ N (((xs.take i).filter p).map r ++ [d]) h' | none => N (((xs.take i).filter p).map r) h') ?_
    cases z : p a
    · have : ([a].filter p).map r = [] := by simp [z]
      rw [this, List.append_nil] at hN
      exact hN _ _ ⟨rfl, rfl⟩
    · have : ([a].filter p).map r = [r a] := by simp [z]
      rw [this] at hN
      exact ⟨al, hN _ _ ⟨rfl, rfl⟩⟩
  · rintro acc h' ⟨rfl, rfl⟩
    rw [hs0, List.length_map, List.take_length]
    exact hq
namespace Gue
open Las
def c_rows_of_bits : Fn := ⟨1, 6, (.cons (.asg (.nm 1) (.lst (.cons (.tup .nil) .nil))) (.cons (.for_ (.nm 2) (.rng1 (.var 0)) (.cons (.asg (.nm 1) (.comp2 (.nm 4) (.seq (.var 1)) [3, 4, 5] (.nm 5) (.seq (.tup (.cons (.lit (.int 0)) (.cons (.lit (.int 1)) .nil)))) [5] (.bin .add (.var 4) (.tup (.cons (.var 5) .nil))))) .nil)) (.cons (.ret (.var 1)) .nil)))⟩
def c_told_parts : Fn := ⟨4, 6, (.cons (.ret (.comp (.nm 5) (.seq (.sl (.var 0) (.so (.lit (.int 1))) .no)) [4, 5] (.call "told_by_bits" (.cons (.var 5) (.cons (.var 1) (.cons (.var 2) (.cons (.var 3) .nil))))))) .nil)⟩
def c_told_of_all : Fn := ⟨3, 5, (.cons (.ret (.comp (.nm 4) (.seq (.var 0)) [3, 4] (.call "told_parts" (.cons (.var 4) (.cons (.var 1) (.cons (.var 0) (.cons (.var 2) .nil))))))) .nil)⟩
def c_does_part_fit : Fn := ⟨3, 3, (.cons (.ifs (.cmp .eq (.ix (.var 0) (.lit (.int 0))) (.lit (.str "always"))) (.cons (.ret (.or (.ix (.var 1) (.lit (.int 0))) (.cmp .eq (.var 2) (.lit (.int 0))))) .nil) .nil) (.cons (.ifs (.cmp .eq (.ix (.var 0) (.lit (.int 0))) (.lit (.str "atlast"))) (.cons (.ret (.or (.not (.ix (.var 1) (.lit (.int 0)))) (.cmp .eq (.var 2) (.lit (.int 1))))) .nil) .nil) (.cons (.ret (.ite (.ix (.var 1) (.lit (.int 1))) (.cmp .eq (.var 2) (.lit (.int 1))) (.or (.ix (.var 1) (.lit (.int 0))) (.cmp .eq (.var 2) (.lit (.int 0)))))) .nil)))⟩
def c_do_parts_fit : Fn := ⟨3, 6, (.cons (.asg (.nm 3) (.call "told_of_all" (.cons (.var 0) (.cons (.var 1) (.cons (.var 2) .nil))))) (.cons (.ret (.b1 .all (.comp (.nm 5) (.rng1 (.b1 .len (.var 0))) [4, 5] (.call "does_part_fit" (.cons (.ix (.var 0) (.var 5)) (.cons (.ix (.var 3) (.var 5)) (.cons (.ix (.var 2) (.var 5)) .nil))))))) .nil))⟩
def c_does_guess_fit : Fn := ⟨3, 3, (.cons (.ret (.call "do_parts_fit" (.cons (.call "time_parts" (.cons (.var 0) .nil)) (.cons (.var 1) (.cons (.var 2) .nil))))) .nil)⟩
def c_bit_by_next : Fn := ⟨3, 3, (.cons (.ifs (.cmp .eq (.ix (.var 0) (.lit (.int 0))) (.lit (.str "always"))) (.cons (.ret (.b1 .int (.and (.ix (.var 1) (.lit (.int 0))) (.cmp .eq (.var 2) (.lit (.int 1)))))) .nil) .nil) (.cons (.ifs (.cmp .eq (.ix (.var 0) (.lit (.int 0))) (.lit (.str "atlast"))) (.cons (.ret (.b1 .int (.or (.ix (.var 1) (.lit (.int 0))) (.cmp .eq (.var 2) (.lit (.int 1)))))) .nil) .nil) (.cons (.ret (.b1 .int (.or (.ix (.var 1) (.lit (.int 1))) (.and (.ix (.var 1) (.lit (.int 0))) (.cmp .eq (.var 2) (.lit (.int 1))))))) .nil)))⟩
def c_do_parts_go_on : Fn := ⟨4, 6, (.cons (.ret (.b1 .all (.comp (.nm 5) (.rng1 (.b1 .len (.var 0))) [4, 5] (.cmp .eq (.call "bit_by_next" (.cons (.ix (.var 0) (.var 5)) (.cons (.ix (.var 1) (.var 5)) (.cons (.ix (.var 3) (.var 5)) .nil)))) (.ix (.var 2) (.var 5)))))) .nil)⟩
def c_does_guess_go_on : Fn := ⟨4, 5, (.cons (.asg (.nm 4) (.call "time_parts" (.cons (.var 0) .nil))) (.cons (.ret (.call "do_parts_go_on" (.cons (.var 4) (.cons (.call "told_of_all" (.cons (.var 4) (.cons (.var 1) (.cons (.var 2) .nil)))) (.cons (.var 2) (.cons (.var 3) .nil)))))) .nil))⟩
def c_guesses_for_parts : Fn := ⟨2, 4, (.cons (.ret (.compi (.nm 3) (.seq (.call "rows_of_bits" (.cons (.b1 .len (.var 0)) .nil))) [2, 3] (.call "do_parts_fit" (.cons (.var 0) (.cons (.var 1) (.cons (.var 3) .nil)))) (.var 3))) .nil)⟩
def c_fitting_guesses : Fn := ⟨2, 2, (.cons (.ret (.b1 .tup (.call "guesses_for_parts" (.cons (.call "time_parts" (.cons (.var 0) .nil)) (.cons (.var 1) .nil))))) .nil)⟩
def c_is_condition_met : Fn := ⟨4, 6, (.cons (.asg (.nm 4) (.call "time_parts" (.cons (.var 0) .nil))) (.cons (.asg (.nm 5) (.call "told_parts" (.cons (.ix (.var 4) (.var 1)) (.cons (.var 2) (.cons (.var 4) (.cons (.var 3) .nil)))))) (.cons (.ifs (.cmp .eq (.ix (.ix (.var 4) (.var 1)) (.lit (.int 0))) (.lit (.str "always"))) (.cons (.ret (.or (.cmp .eq (.ix (.var 3) (.var 1)) (.lit (.int 1))) (.not (.ix (.var 5) (.lit (.int 0)))))) .nil) .nil) (.cons (.ret (.or (.cmp .eq (.ix (.var 3) (.var 1)) (.lit (.int 0))) (.ix (.var 5) (.neg (.lit (.int 1)))))) .nil))))⟩
def c_guesses_along : Fn := ⟨2, 9, (.cons (.asg (.nm 2) (.comp (.nm 6) (.seq (.call "time_parts" (.cons (.var 0) .nil))) [5, 6] (.call "truths_along" (.cons (.var 6) (.cons (.var 1) .nil))))) (.cons (.asg (.nm 3) (.b1 .len (.ix (.var 1) (.lit (.int 0))))) (.cons (.asg (.nm 4) (.comp (.nm 7) (.rng1 (.bin .add (.var 3) (.b1 .len (.ix (.var 1) (.lit (.int 1)))))) [5, 7] (.b1 .tup (.comp (.nm 8) (.seq (.var 2)) [5, 8] (.ix (.var 8) (.var 7)))))) (.cons (.ret (.tup (.cons (.b1 .tup (.sl (.var 4) .no (.so (.var 3)))) (.cons (.b1 .tup (.sl (.var 4) (.so (.var 3)) .no)) .nil)))) .nil))))⟩
def c_do_guesses_go : Fn := ⟨3, 6, (.cons (.for_ (.nm 3) (.rng1 (.bin .add (.b1 .len (.ix (.var 1) (.lit (.int 0)))) (.b1 .len (.ix (.var 1) (.lit (.int 1)))))) (.cons (.asg (.tp (.cons (.nm 4) (.cons (.nm 5) .nil))) (.tup (.cons (.call "item_of_lasso" (.cons (.var 1) (.cons (.var 3) .nil))) (.cons (.call "item_of_lasso" (.cons (.var 2) (.cons (.var 3) .nil))) .nil)))) (.cons (.ifs (.not (.call "does_guess_fit" (.cons (.var 0) (.cons (.var 4) (.cons (.var 5) .nil))))) (.cons (.ret (.lit (.bl false))) .nil) .nil) (.cons (.ifs (.not (.call "does_guess_go_on" (.cons (.var 0) (.cons (.var 4) (.cons (.var 5) (.cons (.call "item_of_lasso" (.cons (.var 2) (.cons (.bin .add (.var 3) (.lit (.int 1))) .nil))) .nil)))))) (.cons (.ret (.lit (.bl false))) .nil) .nil) .nil)))) (.cons (.ret (.lit (.bl true))) .nil))⟩
def c_is_ring_fair : Fn := ⟨3, 6, (.cons (.for_ (.nm 3) (.rng1 (.b1 .len (.call "time_parts" (.cons (.var 0) .nil)))) (.cons (.ifs (.not (.b1 .any (.comp (.nm 5) (.rng1 (.b1 .len (.var 1))) [4, 5] (.call "is_condition_met" (.cons (.var 0) (.cons (.var 3) (.cons (.ix (.var 1) (.var 5)) (.cons (.ix (.var 2) (.var 5)) .nil)))))))) (.cons (.ret (.lit (.bl false))) .nil) .nil) .nil)) (.cons (.ret (.lit (.bl true))) .nil))⟩
def c_judge_guesses : Fn := ⟨3, 3, (.cons (.ifs (.or (.cmp .ne (.b1 .len (.ix (.var 2) (.lit (.int 0)))) (.b1 .len (.ix (.var 1) (.lit (.int 0))))) (.cmp .ne (.b1 .len (.ix (.var 2) (.lit (.int 1)))) (.b1 .len (.ix (.var 1) (.lit (.int 1)))))) (.cons (.ret (.lit (.bl false))) .nil) .nil) (.cons (.ret (.and (.call "do_guesses_go" (.cons (.var 0) (.cons (.var 1) (.cons (.var 2) .nil)))) (.call "is_ring_fair" (.cons (.var 0) (.cons (.ix (.var 1) (.lit (.int 1))) (.cons (.ix (.var 2) (.lit (.int 1))) .nil)))))) .nil))⟩
def c__law_inner : Fn := ⟨1, 1, (.cons (.ifs (.cmp .inn (.ix (.var 0) (.lit (.int 0))) (.tup (.cons (.lit (.str "true")) (.cons (.lit (.str "light")) .nil)))) (.cons (.ret (.tup .nil)) .nil) .nil) (.cons (.ret (.sl (.var 0) (.so (.lit (.int 1))) .no)) .nil))⟩
def c__law_times : Fn := ⟨1, 5, (.cons (.asg (.nm 1) (.lst .nil)) (.cons (.for_ (.nm 2) (.seq (.call "_law_inner" (.cons (.var 0) .nil))) (.cons (.asg (.nm 1) (.bin .add (.var 1) (.compi (.nm 4) (.seq (.call "_law_times" (.cons (.var 2) .nil))) [3, 4] (.cmp .nin (.var 4) (.var 1)) (.var 4)))) .nil)) (.cons (.ifs (.and (.cmp .inn (.ix (.var 0) (.lit (.int 0))) (.tup (.cons (.lit (.str "always")) (.cons (.lit (.str "atlast")) (.cons (.lit (.str "until")) .nil))))) (.cmp .nin (.var 0) (.var 1))) (.cons (.expr (.mt .append (.var 1) (.cons (.var 0) .nil))) .nil) .nil) (.cons (.ret (.var 1)) .nil))))⟩
def c__law_now : Fn := ⟨4, 4, (.cons (.ifs (.cmp .eq (.ix (.var 0) (.lit (.int 0))) (.lit (.str "true"))) (.cons (.ret (.lit (.bl true))) .nil) .nil) (.cons (.ifs (.cmp .eq (.ix (.var 0) (.lit (.int 0))) (.lit (.str "light"))) (.cons (.ret (.cmp .eq (.ix (.var 1) (.ix (.var 0) (.lit (.int 1)))) (.lit (.int 1)))) .nil) .nil) (.cons (.ifs (.cmp .inn (.ix (.var 0) (.lit (.int 0))) (.tup (.cons (.lit (.str "always")) (.cons (.lit (.str "atlast")) (.cons (.lit (.str "until")) .nil))))) (.cons (.ret (.cmp .eq (.ix (.var 3) (.mt .index (.var 2) (.cons (.var 0) .nil))) (.lit (.int 1)))) .nil) .nil) (.cons (.ifs (.cmp .eq (.ix (.var 0) (.lit (.int 0))) (.lit (.str "not"))) (.cons (.ret (.not (.call "_law_now" (.cons (.ix (.var 0) (.lit (.int 1))) (.cons (.var 1) (.cons (.var 2) (.cons (.var 3) .nil))))))) .nil) .nil) (.cons (.ifs (.cmp .eq (.ix (.var 0) (.lit (.int 0))) (.lit (.str "and"))) (.cons (.ret (.and (.call "_law_now" (.cons (.ix (.var 0) (.lit (.int 1))) (.cons (.var 1) (.cons (.var 2) (.cons (.var 3) .nil))))) (.call "_law_now" (.cons (.ix (.var 0) (.lit (.int 2))) (.cons (.var 1) (.cons (.var 2) (.cons (.var 3) .nil))))))) .nil) .nil) (.cons (.ret (.or (.call "_law_now" (.cons (.ix (.var 0) (.lit (.int 1))) (.cons (.var 1) (.cons (.var 2) (.cons (.var 3) .nil))))) (.call "_law_now" (.cons (.ix (.var 0) (.lit (.int 2))) (.cons (.var 1) (.cons (.var 2) (.cons (.var 3) .nil))))))) .nil))))))⟩
def c__law_bits : Fn := ⟨1, 5, (.cons (.asg (.nm 1) (.lst (.cons (.tup .nil) .nil))) (.cons (.for_ (.nm 2) (.rng1 (.var 0)) (.cons (.asg (.nm 3) (.lst .nil)) (.cons (.for_ (.nm 4) (.seq (.var 1)) (.cons (.asg (.nm 3) (.bin .add (.var 3) (.lst (.cons (.bin .add (.var 4) (.tup (.cons (.lit (.int 0)) .nil))) (.cons (.bin .add (.var 4) (.tup (.cons (.lit (.int 1)) .nil))) .nil))))) .nil)) (.cons (.asg (.nm 1) (.var 3)) .nil)))) (.cons (.ret (.var 1)) .nil)))⟩
def c__law_fits : Fn := ⟨3, 7, (.cons (.for_ (.nm 3) (.rng1 (.b1 .len (.var 0))) (.cons (.asg (.nm 4) (.comp (.nm 6) (.seq (.sl (.ix (.var 0) (.var 3)) (.so (.lit (.int 1))) .no)) [5, 6] (.call "_law_now" (.cons (.var 6) (.cons (.var 1) (.cons (.var 0) (.cons (.var 2) .nil))))))) (.cons (.ifs (.and (.cmp .eq (.ix (.ix (.var 0) (.var 3)) (.lit (.int 0))) (.lit (.str "always"))) (.and (.cmp .eq (.ix (.var 2) (.var 3)) (.lit (.int 1))) (.not (.ix (.var 4) (.lit (.int 0)))))) (.cons (.ret (.lit (.bl false))) .nil) .nil) (.cons (.ifs (.and (.cmp .eq (.ix (.ix (.var 0) (.var 3)) (.lit (.int 0))) (.lit (.str "atlast"))) (.and (.cmp .eq (.ix (.var 2) (.var 3)) (.lit (.int 0))) (.ix (.var 4) (.lit (.int 0))))) (.cons (.ret (.lit (.bl false))) .nil) .nil) (.cons (.ifs (.and (.cmp .eq (.ix (.ix (.var 0) (.var 3)) (.lit (.int 0))) (.lit (.str "until"))) (.or (.and (.cmp .eq (.ix (.var 2) (.var 3)) (.lit (.int 0))) (.ix (.var 4) (.lit (.int 1)))) (.and (.cmp .eq (.ix (.var 2) (.var 3)) (.lit (.int 1))) (.and (.not (.ix (.var 4) (.lit (.int 0)))) (.not (.ix (.var 4) (.lit (.int 1)))))))) (.cons (.ret (.lit (.bl false))) .nil) .nil) .nil))))) (.cons (.ret (.lit (.bl true))) .nil))⟩
def c__law_goes_on : Fn := ⟨4, 9, (.cons (.for_ (.nm 4) (.rng1 (.b1 .len (.var 0))) (.cons (.asg (.nm 5) (.comp (.nm 8) (.seq (.sl (.ix (.var 0) (.var 4)) (.so (.lit (.int 1))) .no)) [7, 8] (.call "_law_now" (.cons (.var 8) (.cons (.var 1) (.cons (.var 0) (.cons (.var 2) .nil))))))) (.cons (.asg (.nm 6) (.and (.ix (.var 5) (.lit (.int 0))) (.cmp .eq (.ix (.var 3) (.var 4)) (.lit (.int 1))))) (.cons (.ifs (.cmp .eq (.ix (.ix (.var 0) (.var 4)) (.lit (.int 0))) (.lit (.str "atlast"))) (.cons (.asg (.nm 6) (.or (.ix (.var 5) (.lit (.int 0))) (.cmp .eq (.ix (.var 3) (.var 4)) (.lit (.int 1))))) .nil) .nil) (.cons (.ifs (.cmp .eq (.ix (.ix (.var 0) (.var 4)) (.lit (.int 0))) (.lit (.str "until"))) (.cons (.asg (.nm 6) (.or (.ix (.var 5) (.lit (.int 1))) (.and (.ix (.var 5) (.lit (.int 0))) (.cmp .eq (.ix (.var 3) (.var 4)) (.lit (.int 1)))))) .nil) .nil) (.cons (.ifs (.cmp .ne (.ix (.var 2) (.var 4)) (.b1 .int (.var 6))) (.cons (.ret (.lit (.bl false))) .nil) .nil) .nil)))))) (.cons (.ret (.lit (.bl true))) .nil))⟩
def c__law_met : Fn := ⟨4, 7, (.cons (.asg (.nm 4) (.comp (.nm 6) (.seq (.sl (.ix (.var 0) (.var 1)) (.so (.lit (.int 1))) .no)) [5, 6] (.call "_law_now" (.cons (.var 6) (.cons (.var 2) (.cons (.var 0) (.cons (.var 3) .nil))))))) (.cons (.ifs (.cmp .eq (.ix (.ix (.var 0) (.var 1)) (.lit (.int 0))) (.lit (.str "always"))) (.cons (.ret (.or (.cmp .eq (.ix (.var 3) (.var 1)) (.lit (.int 1))) (.not (.ix (.var 4) (.lit (.int 0)))))) .nil) .nil) (.cons (.ret (.or (.cmp .eq (.ix (.var 3) (.var 1)) (.lit (.int 0))) (.ix (.var 4) (.bin .sub (.b1 .len (.var 4)) (.lit (.int 1)))))) .nil)))⟩
def c__law_is_rule_right : Fn := ⟨3, 10, (.cons (.for_ (.nm 3) (.seq (.call "_law_bits" (.cons (.var 2) .nil))) (.cons (.asg (.nm 5) (.compi (.nm 4) (.seq (.call "_law_bits" (.cons (.b1 .len (.var 1)) .nil))) [9, 4] (.call "_law_fits" (.cons (.var 1) (.cons (.var 3) (.cons (.var 4) .nil)))) (.var 4))) (.cons (.ifs (.not (.call "_law_same" (.cons (.call "fitting_guesses" (.cons (.var 0) (.cons (.var 3) .nil))) (.cons (.b1 .tup (.var 5)) .nil)))) (.cons (.ret (.lit (.bl false))) .nil) .nil) (.cons (.for_ (.nm 4) (.seq (.call "_law_bits" (.cons (.b1 .len (.var 1)) .nil))) (.cons (.ifs (.not (.call "_law_same" (.cons (.call "does_guess_fit" (.cons (.var 0) (.cons (.var 3) (.cons (.var 4) .nil)))) (.cons (.cmp .inn (.var 4) (.var 5)) .nil)))) (.cons (.ret (.lit (.bl false))) .nil) .nil) (.cons (.for_ (.nm 6) (.rng1 (.b1 .len (.var 1))) (.cons (.ifs (.not (.call "_law_same" (.cons (.call "is_condition_met" (.cons (.var 0) (.cons (.var 6) (.cons (.var 3) (.cons (.var 4) .nil))))) (.cons (.call "_law_met" (.cons (.var 1) (.cons (.var 6) (.cons (.var 3) (.cons (.var 4) .nil))))) .nil)))) (.cons (.ret (.lit (.bl false))) .nil) .nil) .nil)) .nil))) (.cons (.for_ (.nm 4) (.seq (.var 5)) (.cons (.for_ (.nm 7) (.seq (.call "_law_bits" (.cons (.b1 .len (.var 1)) .nil))) (.cons (.ifs (.not (.call "_law_same" (.cons (.call "does_guess_go_on" (.cons (.var 0) (.cons (.var 3) (.cons (.var 4) (.cons (.var 7) .nil))))) (.cons (.call "_law_goes_on" (.cons (.var 1) (.cons (.var 3) (.cons (.var 4) (.cons (.var 7) .nil))))) .nil)))) (.cons (.ret (.lit (.bl false))) .nil) .nil) .nil)) (.cons (.asg (.nm 8) (.compi (.nm 7) (.seq (.var 5)) [9, 7] (.call "does_guess_go_on" (.cons (.var 0) (.cons (.var 3) (.cons (.var 4) (.cons (.var 7) .nil))))) (.var 7))) (.cons (.ifs (.or (.cmp .ne (.var 8) (.lst (.cons (.var 4) .nil))) (.cmp .ne (.b1 .len (.compi (.nm 7) (.seq (.var 5)) [9, 7] (.call "_law_goes_on" (.cons (.var 1) (.cons (.var 3) (.cons (.var 4) (.cons (.var 7) .nil))))) (.var 7))) (.lit (.int 1)))) (.cons (.ret (.lit (.bl false))) .nil) .nil) .nil)))) .nil))))) (.cons (.ret (.lit (.bl true))) .nil))⟩
def c__law_is_fair_row : Fn := ⟨3, 10, (.cons (.asg (.nm 3) (.bin .add (.ix (.var 1) (.lit (.int 0))) (.ix (.var 1) (.lit (.int 1))))) (.cons (.asg (.nm 4) (.bin .add (.ix (.var 2) (.lit (.int 0))) (.ix (.var 2) (.lit (.int 1))))) (.cons (.asg (.nm 5) (.b1 .len (.ix (.var 1) (.lit (.int 0))))) (.cons (.for_ (.nm 6) (.rng1 (.b1 .len (.var 3))) (.cons (.asg (.nm 7) (.ite (.cmp .eq (.bin .add (.var 6) (.lit (.int 1))) (.b1 .len (.var 3))) (.ix (.var 4) (.var 5)) (.ix (.var 4) (.bin .add (.var 6) (.lit (.int 1)))))) (.cons (.ifs (.or (.not (.call "_law_fits" (.cons (.var 0) (.cons (.ix (.var 3) (.var 6)) (.cons (.ix (.var 4) (.var 6)) .nil))))) (.not (.call "_law_goes_on" (.cons (.var 0) (.cons (.ix (.var 3) (.var 6)) (.cons (.ix (.var 4) (.var 6)) (.cons (.var 7) .nil))))))) (.cons (.ret (.lit (.bl false))) .nil) .nil) .nil))) (.cons (.for_ (.nm 8) (.rng1 (.b1 .len (.var 0))) (.cons (.ifs (.cmp .eq (.b1 .len (.compi (.nm 6) (.rng2 (.var 5) (.b1 .len (.var 3))) [9, 6] (.call "_law_met" (.cons (.var 0) (.cons (.var 8) (.cons (.ix (.var 3) (.var 6)) (.cons (.ix (.var 4) (.var 6)) .nil))))) (.var 6))) (.lit (.int 0))) (.cons (.ret (.lit (.bl false))) .nil) .nil) .nil)) (.cons (.ret (.lit (.bl true))) .nil))))))⟩
def c__law_truths : Fn := ⟨2, 7, (.cons (.asg (.nm 2) (.b1 .len (.ix (.var 1) (.lit (.int 0))))) (.cons (.asg (.nm 3) (.lst .nil)) (.cons (.for_ (.nm 4) (.rng1 (.bin .add (.var 2) (.b1 .len (.ix (.var 1) (.lit (.int 1)))))) (.cons (.expr (.mt .append (.var 3) (.cons (.b1 .tup (.comp (.nm 6) (.seq (.var 0)) [5, 6] (.b1 .int (.call "_law_true_at" (.cons (.var 6) (.cons (.var 1) (.cons (.var 4) .nil))))))) .nil))) .nil)) (.cons (.ret (.tup (.cons (.b1 .tup (.sl (.var 3) .no (.so (.var 2)))) (.cons (.b1 .tup (.sl (.var 3) (.so (.var 2)) .no)) .nil)))) .nil))))⟩
def c__law_is_right : Fn := ⟨3, 15, (.cons (.asg (.nm 3) (.call "_law_times" (.cons (.var 1) .nil))) (.cons (.asg (.nm 4) (.call "_law_truths" (.cons (.var 3) (.cons (.var 2) .nil)))) (.cons (.ifs (.or (.not (.call "_law_same" (.cons (.call "guesses_along" (.cons (.var 1) (.cons (.var 2) .nil))) (.cons (.var 4) .nil)))) (.or (.isc true (.call "judge_guesses" (.cons (.var 1) (.cons (.var 2) (.cons (.var 4) .nil)))) (.bl true)) (.not (.call "_law_is_fair_row" (.cons (.var 3) (.cons (.var 2) (.cons (.var 4) .nil))))))) (.cons (.ret (.lit (.bl false))) .nil) .nil) (.cons (.asg (.nm 5) (.bin .add (.ix (.var 4) (.lit (.int 0))) (.ix (.var 4) (.lit (.int 1))))) (.cons (.asg (.nm 6) (.b1 .len (.ix (.var 2) (.lit (.int 0))))) (.cons (.for_ (.nm 7) (.rng1 (.lit (.int 4))) (.cons (.ifs (.cmp .gt (.b1 .len (.var 3)) (.lit (.int 0))) (.cons (.asg (.tp (.cons (.nm 8) (.cons (.nm 9) .nil))) (.tup (.cons (.call "_law_take" (.cons (.var 0) (.cons (.b1 .len (.var 5)) .nil))) (.cons (.call "_law_take" (.cons (.var 0) (.cons (.b1 .len (.var 3)) .nil))) .nil)))) (.cons (.asg (.nm 10) (.bin .add (.bin .add (.sl (.var 5) .no (.so (.var 8))) (.tup (.cons (.bin .add (.bin .add (.sl (.ix (.var 5) (.var 8)) .no (.so (.var 9))) (.tup (.cons (.bin .sub (.lit (.int 1)) (.ix (.ix (.var 5) (.var 8)) (.var 9))) .nil))) (.sl (.ix (.var 5) (.var 8)) (.so (.bin .add (.var 9) (.lit (.int 1)))) .no)) .nil))) (.sl (.var 5) (.so (.bin .add (.var 8) (.lit (.int 1)))) .no))) (.cons (.ifs (.isc true (.call "judge_guesses" (.cons (.var 1) (.cons (.var 2) (.cons (.tup (.cons (.sl (.var 10) .no (.so (.var 6))) (.cons (.sl (.var 10) (.so (.var 6)) .no) .nil))) .nil)))) (.bl false)) (.cons (.ret (.lit (.bl false))) .nil) .nil) .nil))) .nil) .nil)) (.cons (.ifs (.cmp .lt (.bin .mul (.b1 .len (.var 3)) (.b1 .len (.var 5))) (.lit (.int 7))) (.cons (.asg (.nm 11) (.lst .nil)) (.cons (.for_ (.nm 12) (.seq (.call "_law_bits" (.cons (.bin .mul (.b1 .len (.var 3)) (.b1 .len (.var 5))) .nil))) (.cons (.asg (.nm 13) (.b1 .tup (.comp (.nm 9) (.rng1 (.b1 .len (.var 5))) [14, 9] (.sl (.var 12) (.so (.bin .mul (.var 9) (.b1 .len (.var 3)))) (.so (.bin .mul (.bin .add (.var 9) (.lit (.int 1))) (.b1 .len (.var 3)))))))) (.cons (.ifs (.call "judge_guesses" (.cons (.var 1) (.cons (.var 2) (.cons (.tup (.cons (.sl (.var 13) .no (.so (.var 6))) (.cons (.sl (.var 13) (.so (.var 6)) .no) .nil))) .nil)))) (.cons (.expr (.mt .append (.var 11) (.cons (.var 13) .nil))) .nil) .nil) .nil))) (.cons (.ifs (.cmp .ne (.var 11) (.lst (.cons (.var 5) .nil))) (.cons (.ret (.lit (.bl false))) .nil) .nil) .nil))) .nil) (.cons (.ret (.and (.isc false (.call "judge_guesses" (.cons (.var 1) (.cons (.var 2) (.cons (.tup (.cons (.bin .add (.ix (.var 4) (.lit (.int 0))) (.ix (.var 4) (.lit (.int 1)))) (.cons (.ix (.var 4) (.lit (.int 1))) .nil))) .nil)))) (.bl false)) (.isc false (.call "judge_guesses" (.cons (.var 1) (.cons (.var 2) (.cons (.tup (.cons (.ix (.var 4) (.lit (.int 0))) (.cons (.bin .add (.ix (.var 4) (.lit (.int 1))) (.ix (.var 4) (.lit (.int 1)))) .nil))) .nil)))) (.bl false)))) .nil))))))))⟩
def c_law : Fn := ⟨1, 12, (.cons (.asg (.nm 1) (.call "_law_draws" (.cons (.var 0) (.cons (.lit (.int 260)) .nil)))) (.cons (.asg (.nm 2) (.bin .add (.lit (.int 1)) (.call "_law_take" (.cons (.var 1) (.cons (.lit (.int 2)) .nil))))) (.cons (.for_ (.nm 3) (.rng1 (.lit (.int 3))) (.cons (.asg (.nm 4) (.call "_law_sentence" (.cons (.var 1) (.cons (.var 2) (.cons (.lit (.int 4)) (.cons (.bin .add (.lit (.int 1)) (.var 3)) .nil)))))) (.cons (.ifs (.not (.call "_law_is_rule_right" (.cons (.var 4) (.cons (.call "_law_times" (.cons (.var 4) .nil)) (.cons (.var 2) .nil))))) (.cons (.ret (.lit (.bl false))) .nil) .nil) (.cons (.ifs (.not (.call "_law_is_right" (.cons (.var 1) (.cons (.var 4) (.cons (.call "_law_lasso" (.cons (.var 1) (.cons (.var 2) (.cons (.ix (.lst (.cons (.lit (.int 5)) (.cons (.lit (.int 3)) (.cons (.lit (.int 2)) .nil)))) (.var 3)) .nil)))) .nil))))) (.cons (.ret (.lit (.bl false))) .nil) .nil) .nil)))) (.cons (.asg (.tp (.cons (.nm 5) (.cons (.nm 6) .nil))) (.tup (.cons (.tup (.cons (.lit (.str "light")) (.cons (.lit (.int 0)) .nil))) (.cons (.tup (.cons (.lit (.str "light")) (.cons (.lit (.int 1)) .nil))) .nil)))) (.cons (.asg (.nm 4) (.tup (.cons (.lit (.str "always")) (.cons (.tup (.cons (.lit (.str "or")) (.cons (.tup (.cons (.lit (.str "not")) (.cons (.var 5) .nil))) (.cons (.tup (.cons (.lit (.str "atlast")) (.cons (.var 6) .nil))) .nil)))) .nil)))) (.cons (.asg (.nm 7) (.tup (.cons (.tup (.cons (.tup (.cons (.lit (.int 1)) (.cons (.lit (.int 0)) .nil))) .nil)) (.cons (.tup (.cons (.tup (.cons (.lit (.int 0)) (.cons (.lit (.int 1)) .nil))) (.cons (.tup (.cons (.lit (.int 0)) (.cons (.lit (.int 0)) .nil))) .nil))) .nil)))) (.cons (.ifs (.or (.not (.call "_law_same" (.cons (.call "guesses_along" (.cons (.var 4) (.cons (.var 7) .nil))) (.cons (.tup (.cons (.tup (.cons (.tup (.cons (.lit (.int 1)) (.cons (.lit (.int 1)) .nil))) .nil)) (.cons (.tup (.cons (.tup (.cons (.lit (.int 1)) (.cons (.lit (.int 1)) .nil))) (.cons (.tup (.cons (.lit (.int 1)) (.cons (.lit (.int 1)) .nil))) .nil))) .nil))) .nil)))) (.isc true (.call "judge_guesses" (.cons (.var 4) (.cons (.var 7) (.cons (.tup (.cons (.tup (.cons (.tup (.cons (.lit (.int 1)) (.cons (.lit (.int 1)) .nil))) .nil)) (.cons (.tup (.cons (.tup (.cons (.lit (.int 1)) (.cons (.lit (.int 1)) .nil))) (.cons (.tup (.cons (.lit (.int 0)) (.cons (.lit (.int 1)) .nil))) .nil))) .nil))) .nil)))) (.bl false))) (.cons (.ret (.lit (.bl false))) .nil) .nil) (.cons (.asg (.nm 8) (.tup (.cons (.tup .nil) (.cons (.tup (.cons (.tup (.cons (.lit (.int 1)) (.cons (.lit (.int 0)) .nil))) .nil)) .nil)))) (.cons (.asg (.nm 9) (.comp (.nm 11) (.seq (.call "_law_bits" (.cons (.lit (.int 2)) .nil))) [10, 11] (.call "judge_guesses" (.cons (.var 4) (.cons (.var 8) (.cons (.tup (.cons (.tup .nil) (.cons (.tup (.cons (.var 11) .nil)) .nil))) .nil)))))) (.cons (.ifs (.not (.call "_law_same" (.cons (.b1 .tup (.var 9)) (.cons (.tup (.cons (.lit (.bl true)) (.cons (.lit (.bl false)) (.cons (.lit (.bl false)) (.cons (.lit (.bl false)) .nil))))) .nil)))) (.cons (.ret (.lit (.bl false))) .nil) .nil) (.cons (.ret (.and (.call "_law_same" (.cons (.call "fitting_guesses" (.cons (.var 4) (.cons (.tup (.cons (.lit (.int 1)) (.cons (.lit (.int 0)) .nil))) .nil))) (.cons (.tup (.cons (.tup (.cons (.lit (.int 0)) (.cons (.lit (.int 0)) .nil))) (.cons (.tup (.cons (.lit (.int 1)) (.cons (.lit (.int 0)) .nil))) (.cons (.tup (.cons (.lit (.int 1)) (.cons (.lit (.int 1)) .nil))) .nil)))) .nil))) (.and (.call "_law_is_right" (.cons (.var 1) (.cons (.var 4) (.cons (.var 8) .nil)))) (.call "_law_is_right" (.cons (.var 1) (.cons (.tup (.cons (.lit (.str "until")) (.cons (.var 5) (.cons (.var 6) .nil)))) (.cons (.tup (.cons (.tup (.cons (.tup (.cons (.lit (.int 1)) (.cons (.lit (.int 0)) .nil))) .nil)) (.cons (.tup (.cons (.tup (.cons (.lit (.int 1)) (.cons (.lit (.int 1)) .nil))) .nil)) .nil))) .nil))))))) .nil)))))))))))⟩
structure TQ (P : Prog) : Prop where
  inn : P.fn "_law_inner" = some c__law_inner
  tm : P.fn "_law_times" = some c__law_times
  now : P.fn "_law_now" = some c__law_now
  bits : P.fn "_law_bits" = some c__law_bits
structure TF (P : Prog) : Prop extends TQ P where
  fits : P.fn "_law_fits" = some c__law_fits
  go : P.fn "_law_goes_on" = some c__law_goes_on
  met : P.fn "_law_met" = some c__law_met
section
variable {P : Prog} {L : Nat} {h : AH} {Q : D → AH → Prop} {X : Xc}
theorem sen_cut {s : Sen} (h1 : s.hd ≠ .tru) (h2 : s.hd ≠ .lig) (h : AH) : slD (.v s.d) (some 1) none h = some (.v (.tup (sL s.ps))) := by
  have c1 : ∀ (x : D) (xs : List D), cut (x :: xs) (some 1) none = xs := fun x xs => by
    have := cutDr (x :: xs) 1
    simpa using this
  cases s <;> simp [Sen.hd] at h1 h2 <;> simp [Sen.d, c1, sL, Sen.ps]
theorem inner_i (hL : 1 ≤ L) (T : TQ P) {s : Sen} (q : Q (.tup (sL s.ps)) h) : wC P L "_law_inner" [s.d] h Q X := by
  obtain ⟨n, rfl⟩ : ∃ n, L = n + 1 := ⟨L - 1, by omega⟩
  refine wC_i T.inn rfl ?_
  have c1 : ∀ (x : D) (xs : List D), cut (x :: xs) (some 1) none = xs := fun x xs => by
    have := cutDr (x :: xs) 1
    simpa using this
  cases s <;> simp [c__law_inner, List.replicate, Sen.d, Las.m1, Las.m2, in_tn, c1] <;> exact someQ_i q
theorem times_i (T : TQ P) (s : Sen) {L : Nat} (hL : s.dep + 1 ≤ L) (hd : s.dep ≤ 20) {h : AH} {Q : D → AH → Prop} {X : Xc} (q : ∀ a, h a = none → Q (.loc a) (put h a (.lst (sL (tpL s))))) : wC P L "_law_times" [s.d] h Q X := by
  obtain ⟨n, rfl⟩ : ∃ n, L = n + 1 := ⟨L - 1, by omega⟩
  have al := allS_len s
  have pw : 2 ^ s.dep ≤ 2 ^ 20 := Nat.pow_le_pow_right (by decide) hd
  have d1 : 1 ≤ s.dep := by cases s <;> simp only [Sen.dep] <;> omega
  have hh : ∀ h' : AH, cmpD .inn (.v (.str (tn s.hd))) (.v (.tup [.str (tn .alw), .str (tn .atl), .str (tn .unt)])) h' = some s.isT := fun h' => in_heads
  refine wC_i T.tm rfl ?_
  simp [-v_rB, c__law_times, List.replicate]
  intro a ha
  rw [v_rB]
  simp [-v_rB]
  refine inner_i (by omega) T ?_
  simp [-v_rB]
  have tl : ∀ i, ((((s.ps.take i).map allS).flatten).foldl tpAdd []).length ≤ 2 ^ 20 := fun i => by
    have l1 := fl_take (s := s) (i := i)
    have l2 := tp_take (xs := ((s.ps.take i).map allS).flatten) (i := (((s.ps.take i).map allS).flatten).length)
    rw [List.take_length] at l2
    omega
  have mem40 : ∀ i, ∀ x ∈ (((s.ps.take i).map allS).flatten).foldl tpAdd [], x.dep ≤ 40 := fun i x hx => by
    rw [tp_mem] at hx
    have hx := (hx.resolve_left (by simp)).1
    rw [List.mem_flatten] at hx
    obtain ⟨L, hL, hx⟩ := hx
    obtain ⟨p, hp, rfl⟩ := List.mem_map.mp hL
    have := allS_dep p x hx
    have := ps_dep (List.mem_of_mem_take hp)
    omega
  refine for_f (fun i env h' => ∃ o b, env = [some s.d, some (.loc b), o, none, none] ∧ h b = none ∧ Sub h h' ∧ h' b = some (.lst (sL ((((s.ps.take i).map allS).flatten).foldl tpAdd [])))) ⟨none, a, rfl, ha, sub_put ha, by simp [Las.put_eq, sL]⟩ ?_ ?_
  · rintro i x env h' N hx ⟨o, b, rfl, hb, sb, e⟩ hN
    unfold sL at hx
    rw [List.getElem?_map, Option.map_eq_some_iff] at hx
    obtain ⟨p, hp, rfl⟩ := hx
    have pm := List.mem_of_getElem? hp
    have pd := ps_dep pm
    simp
    refine times_i T p (by omega) (by omega) fun c hc => ?_
    have ne : b ≠ c := fun z => by rw [← z, e] at hc; exact absurd hc (by simp)
    have e2 : put h' c (.lst (sL (tpL p))) b = some (.lst (sL ((((s.ps.take i).map allS).flatten).foldl tpAdd []))) := by rw [Las.put_ne ne, e]
    simp [c_l (Las.put_eq (h := h') (a := c) (o := .lst (sL (tpL p))))]
    have tlp := tp_len (s := p)
    have alp := allS_len p
    have pw2 : 2 ^ p.dep ≤ 2 ^ 20 := Nat.pow_le_pow_right (by decide) (by omega)
    refine compi_g Sen.d Sen.d (fun x => !decide (x ∈ (((s.ps.take i).map allS).flatten).foldl tpAdd [])) (tpL p) rfl Las.put_eq (by omega) (fun x hx k hk => ?_) ?_
    · have xd : x.dep ≤ 40 := by
        have := allS_dep p x (tpL_mem.mp hx).1
        omega
      have m40 := mem40 i
      revert hk e2 m40
      generalize (((s.ps.take i).map allS).flatten).foldl tpAdd [] = acc
      intro e2 hk m40
      simp [wipe]
      rw [k_ninS e2 m40 xd]
      simp
      by_cases z : x ∈ acc
      · simp [z] at hk ⊢
        exact hk
      · simp [z] at hk ⊢
        exact hk
    · have st := tp_step (allS p) ((((s.ps.take i).map allS).flatten).foldl tpAdd [])
      have tn := tl (i + 1)
      rw [take_snoc hp] at tn hN
      simp only [List.map_append, List.map_cons, List.map_nil, List.flatten_append, List.flatten_cons, List.flatten_nil, List.append_nil, List.foldl_append] at tn hN
      rw [st] at tn hN
      rw [List.length_append] at tn
      rw [o_addlo e2 (by rw [sL_len, List.length_map]; exact Nat.le_trans tn (by decide))]
      simp
      intro d hd'
      have hdc : h' d = none := sub_no (sub_put hc) hd'
      refine hN _ _ ⟨_, d, rfl, sub_no sb hdc, ?_, ?_⟩
      · exact (fun x u hx => (sub_put hd') _ _ ((sub_put hc) _ _ (sb _ _ hx)))
      · rw [Las.put_eq]
        simp [sL, tpL]
  · rintro env h' ⟨o, b, rfl, hb, sb, e⟩
    rw [sL_len, List.take_length] at e
    have tl2 := tl s.ps.length
    have m40 := mem40 s.ps.length
    rw [List.take_length] at tl2 m40
    have fin : tpL s = tpAdd (((s.ps.map allS).flatten).foldl tpAdd []) s := by
      unfold tpL
      rw [allS_ps, List.foldl_append]
      rfl
    generalize ((s.ps.map allS).flatten).foldl tpAdd [] = acc at e fin tl2 m40
    have qq : ∀ h2, Sub h h2 → h2 b = some (.lst (sL (tpL s))) → someQ Q (.loc b) h2 := fun h2 s2 e2 => by
      refine ⟨put h b (.lst (sL (tpL s))), fun x u hx => ?_, q b hb⟩
      by_cases z : x = b
      · subst z; rw [Las.put_eq] at hx; rw [e2, ← hx]
      · rw [Las.put_ne z] at hx; exact s2 x u hx
    simp [m6, m7, m8, hh]
    by_cases ht : s.isT = true
    · simp [ht]
      rw [k_ninS e m40 (by omega)]
      by_cases hm : s ∈ acc
      · simp [hm]
        unfold tpAdd at fin
        rw [if_neg (fun z => z.2 hm)] at fin
        exact qq h' sb (by rw [fin]; exact e)
      · simp [hm, e]
        rw [m_app e (by rw [sL_len]; omega)]
        simp
        unfold tpAdd at fin
        rw [if_pos ⟨ht, hm⟩] at fin
        exact qq _ (sb.put hb) (by rw [Las.put_eq, fin]; simp [sL])
    · have hf : s.isT = false := by simpa using ht
      simp [hf]
      unfold tpAdd at fin
      rw [if_neg (fun z => ht z.1)] at fin
      exact qq h' sb (by rw [fin]; exact e)
termination_by s.dep
end
end Gue
end Py
namespace Py
open PySem (Str)
namespace Gue
open Las
/-- what is told with: time parts, lights and bits -/
structure Cx (ps : List Sen) (l : Itm) (bs : List Nat) (d : Nat) : Prop where
  T : Pt ps
  ok : ∀ s ∈ ps, s.Ok l.length
  bt : Bt ps.length bs
  dp : ∀ s ∈ ps, s.dep ≤ d
  ln : ps.length ≤ 100000
theorem sL_at {ps : List Sen} {k : Nat} (hk : k < ps.length) : atI (sL ps) (k : Int) = some (gt ps k).d := atN (by simp [sL, List.getElem?_eq_getElem hk, gt_get hk])
theorem gtI {bs : List Nat} {k j : Nat} : ((gt bs k : Nat) : Int) = (j : Int) ↔ gt bs k = j := by omega
section
variable {P : Prog} {L : Nat} {h : AH} {Q : D → AH → Prop} {X : Xc}
theorem m_idxl {ps : List Sen} {s : Sen} {h : AH} {p : Nat} (e : h p = some (.lst (sL ps))) (hs : s ∈ ps) (hp : ∀ x ∈ ps, x.dep ≤ 40) : mtD .index (.v (.loc p)) [s.d] h = some (.v (.int (ps.idxOf s)), h) := by
  have := m_idx (h := h) hs hp
  unfold mtD at this ⊢
  simp only [s_tupV] at this
  simp only [s_locV e]
  exact this
theorem q_idxl {xs : List D} {h : AH} {p : Nat} (e : h p = some (.lst xs)) : mtChk .index (.v (.loc p)) h = true := by simp [mtChk, s_locV e]
theorem lnow_i (T : TQ P) (s : Sen) {l : Itm} {ps : List Sen} {bs : List Nat} (ok : s.Ok l.length) (hp : ∀ x ∈ allS s, x.isT = true → x ∈ ps) (hb : ps.length = bs.length) (hd : ∀ x ∈ ps, x.dep ≤ 40) {L : Nat} (hL : s.dep ≤ L) {p : Nat} {h : AH} (ep : h p = some (.lst (sL ps))) {Q : D → AH → Prop} {X : Xc} (q : Q (.bl (told l ps bs s)) h) : wC P L "_law_now" [s.d, .tup (nL l), .loc p, .tup (nL bs)] h Q X := by
  have hh : ∀ (t : Tn) (h' : AH), cmpD .inn (.v (.str (tn t))) (.v (.tup [.str (tn .alw), .str (tn .atl), .str (tn .unt)])) h' = some (decide (t = .alw ∨ t = .atl ∨ t = .unt)) := fun t h' => by
    rw [in_tn (by simp)]
    cases t <;> simp
  have time : ∀ (s : Sen) (n : Nat) (h : AH) (Q : D → AH → Prop) (X : Xc), h p = some (.lst (sL ps)) → s.isT = true → s ∈ ps → Q (.bl (told l ps bs s)) h → wC P (n + 1) "_law_now" [s.d, .tup (nL l), .loc p, .tup (nL bs)] h Q X := by
    intro s n h Q X ep ht sp q
    refine wC_i T.now rfl ?_
    have il := List.idxOf_lt_length_of_mem sp
    rw [told_t ht] at q
    have n1 : s.hd ≠ .tru := fun z => by cases s <;> simp [Sen.hd] at z <;> simp [Sen.isT] at ht
    have n2 : s.hd ≠ .lig := fun z => by cases s <;> simp [Sen.hd] at z <;> simp [Sen.isT] at ht
    have h3 := isT_hd ht
    simp [c__law_now, List.replicate, Las.m1, Las.m2, Las.m6, Las.m7, Las.m8, n1, n2, hh, h3, m_idxl ep sp hd, q_idxl ep]
    rw [nLs_at (by omega)]
    simp
    refine someQ_i ?_
    have e : decide (((gt bs (ps.idxOf s) : Nat) : Int) = 1) = decide (gt bs (ps.idxOf s) = 1) := decide_eq_decide.mpr (by omega)
    rw [e]
    exact q
  induction s generalizing L h Q X with
  | tru =>
    obtain ⟨n, rfl⟩ : ∃ n, L = n + 1 := ⟨L - 1, by simp only [Sen.dep] at hL; omega⟩
    refine wC_i T.now rfl ?_
    simp [c__law_now, List.replicate, Las.m1, Sen.d]
    exact someQ_i q
  | lig k =>
    obtain ⟨n, rfl⟩ : ∃ n, L = n + 1 := ⟨L - 1, by simp only [Sen.dep] at hL; omega⟩
    refine wC_i T.now rfl ?_
    have e0 := nLs_at (xs := l) (i := k) ok
    simp [c__law_now, List.replicate, Las.m1, Las.m2, Sen.d, e0]
    refine someQ_i ?_
    have e : decide (((gt l k : Nat) : Int) = 1) = decide (gt l k = 1) := decide_eq_decide.mpr (by omega)
    rw [e]
    exact q
  | neg a iha =>
    simp only [Sen.dep] at hL
    obtain ⟨n, rfl⟩ : ∃ n, L = n + 1 := ⟨L - 1, by omega⟩
    refine wC_i T.now rfl ?_
    simp [c__law_now, List.replicate, Las.m1, Las.m2, Las.m3, Las.m6, Las.m7, Las.m8, Sen.d, hh]
    refine iha ok (fun x hx => hp x (allS_sub (a := a) (by simp [Sen.ps]) hx)) (by omega) ep ?_
    simp only [t_bl, gd_some, rv_v]
    exact someQ_i q
  | con a b iha ihb =>
    simp only [Sen.dep] at hL
    obtain ⟨n, rfl⟩ : ∃ n, L = n + 1 := ⟨L - 1, by omega⟩
    refine wC_i T.now rfl ?_
    simp [c__law_now, List.replicate, Las.m1, Las.m2, Las.m3, Las.m4, Las.m6, Las.m7, Las.m8, Sen.d, hh]
    refine iha ok.1 (fun x hx => hp x (allS_sub (a := a) (by simp [Sen.ps]) hx)) (by omega) ep ?_
    simp only [told] at q
    cases z : told l ps bs a <;> simp [z] at q ⊢
    · exact someQ_i q
    · exact ihb ok.2 (fun x hx => hp x (allS_sub (a := b) (by simp [Sen.ps]) hx)) (by omega) ep (someQ_i q)
  | dis a b iha ihb =>
    simp only [Sen.dep] at hL
    obtain ⟨n, rfl⟩ : ∃ n, L = n + 1 := ⟨L - 1, by omega⟩
    refine wC_i T.now rfl ?_
    simp [c__law_now, List.replicate, Las.m1, Las.m2, Las.m3, Las.m4, Las.m6, Las.m7, Las.m8, Sen.d, hh]
    refine iha ok.1 (fun x hx => hp x (allS_sub (a := a) (by simp [Sen.ps]) hx)) (by omega) ep ?_
    simp only [told] at q
    cases z : told l ps bs a <;> simp [z] at q ⊢
    · exact ihb ok.2 (fun x hx => hp x (allS_sub (a := b) (by simp [Sen.ps]) hx)) (by omega) ep (someQ_i q)
    · exact someQ_i q
  | alw a _ =>
    obtain ⟨n, rfl⟩ : ∃ n, L = n + 1 := ⟨L - 1, by simp only [Sen.dep] at hL; omega⟩
    exact time _ n h Q X ep rfl (hp _ (allS_self _) rfl) q
  | atl a _ =>
    obtain ⟨n, rfl⟩ : ∃ n, L = n + 1 := ⟨L - 1, by simp only [Sen.dep] at hL; omega⟩
    exact time _ n h Q X ep rfl (hp _ (allS_self _) rfl) q
  | unt a b _ _ =>
    obtain ⟨n, rfl⟩ : ∃ n, L = n + 1 := ⟨L - 1, by simp only [Sen.dep] at hL; omega⟩
    exact time _ n h Q X ep rfl (hp _ (allS_self _) rfl) q
theorem app2 {r : List Nat} {b : Nat} (h : AH) (hl : r.length ≤ 100000) : binD .add (.v (.tup (nL r))) (.v (.tup [.int b])) h = some (.v (.tup (nL (r ++ [b])))) := by
  rw [o_addt (by simp [nL]; omega)]
  simp [nL]
def rwsD (xs : List (List Nat)) : List D := xs.map fun r => .tup (nL r)
@[simp] theorem rwsD_len (xs : List (List Nat)) : (rwsD xs).length = xs.length := by simp [rwsD]
theorem bits_s (m : Nat) : bitsL (m + 1) = (bitsL m).flatMap fun r => [r ++ [0], r ++ [1]] := rfl
theorem lbits_i (hL : 1 ≤ L) (T : TQ P) {m : Nat} (hm : m ≤ 20) (q : ∀ a, h a = none → Q (.loc a) (put h a (.lst (rwsD (bitsL m))))) : wC P L "_law_bits" [.int m] h Q X := by
  obtain ⟨n, rfl⟩ : ∃ n, L = n + 1 := ⟨L - 1, by omega⟩
  have sm : small62 (m : Int) = true := by simp [small62]; omega
  refine wC_i T.bits rfl ?_
  simp [-v_rB, c__law_bits, List.replicate]
  intro a ha
  rw [v_rB]
  simp [-v_rB, sm]
  refine for_f (fun i env h' => ∃ o2 o3 o4 b, env = [some (.int m), some (.loc b), o2, o3, o4] ∧ h b = none ∧ Sub h h' ∧ h' b = some (.lst (rwsD (bitsL i)))) ⟨none, none, none, a, rfl, ha, sub_put ha, by rw [Las.put_eq]; rfl⟩ ?_ ?_
  · rintro i x env h' N hx ⟨o2, o3, o4, b, rfl, hb, sb, e⟩ hN
    have il : i < m := by
      have := (List.getElem?_eq_some_iff.mp hx).1
      simpa using this
    have p2 : (bitsL i).length ≤ 1048576 := by
      rw [bits_len]
      exact Nat.le_trans (Nat.pow_le_pow_right (by decide) (show i ≤ 20 by omega)) (by decide)
    simp [-v_rB]
    intro c hc
    have ne : b ≠ c := fun z => by rw [← z, e] at hc; exact absurd hc (by simp)
    rw [v_rB]
    simp [-v_rB, c_l (show put h' c (.lst []) b = _ by rw [Las.put_ne ne]; exact e)]
    refine for_l (fun j env h2 => ∃ o4 c, env = [some (.int m), some (.loc b), some x, some (.loc c), o4] ∧ h' c = none ∧ Sub h' h2 ∧ h2 c = some (.lst (rwsD (((bitsL i).take j).flatMap fun r => [r ++ [0], r ++ [1]])))) ⟨o4, c, rfl, hc, sub_put hc, by rw [Las.put_eq]; rfl⟩ (fun j env h2 _ z => by obtain ⟨_, _, _, _, z, _⟩ := z; exact z _ _ e) ?_ ?_
    · rintro j y env h2 N2 hy ⟨o4, c, rfl, hc, sb2, e2⟩ hN2
      unfold rwsD at hy
      rw [List.getElem?_map, Option.map_eq_some_iff] at hy
      obtain ⟨r, hr, rfl⟩ := hy
      have rb := (bits_mem i r).mp (List.mem_of_getElem? hr)
      have fl : (((bitsL i).take j).flatMap fun r => [r ++ [0], r ++ [1]]).length ≤ 2097152 := by
        have key : ∀ (xs : List (List Nat)), (xs.flatMap fun r => [r ++ [0], r ++ [1]]).length = 2 * xs.length := by
          intro xs
          induction xs with
          | nil => rfl
          | cons x r ih => rw [List.flatMap_cons, List.length_append, ih]; simp; omega
        rw [key, List.length_take]
        omega
      have a0 := app2 (r := r) (b := 0) h2 (by rw [rb.1]; omega)
      have a1 := app2 (r := r) (b := 1) h2 (by rw [rb.1]; omega)
      simp only [Int.natCast_zero, Int.natCast_one] at a0 a1
      simp [a0, a1]
      rw [o_addlo e2 (by rw [rwsD_len]; simp only [List.length_cons, List.length_nil]; omega)]
      simp
      intro d hd
      refine hN2 _ _ ⟨_, d, rfl, sub_no sb2 hd, fun b u z => sub_put hd _ _ (sb2 _ _ z), ?_⟩
      rw [Las.put_eq, take_snoc hr, List.flatMap_append]
      simp [rwsD]
    · rintro env h2 ⟨o4, c, rfl, hc, sb2, e2⟩
      rw [rwsD_len, List.take_length, ← bits_s] at e2
      simp
      exact hN _ _ ⟨_, _, _, c, rfl, sub_no sb hc, fun b u z => sb2 _ _ (sb _ _ z), e2⟩
  · rintro env h' ⟨o2, o3, o4, b, rfl, hb, sb, e⟩
    rw [rngL_length] at e
    simp
    refine ⟨put h b (.lst (rwsD (bitsL m))), fun x u hx => ?_, q b hb⟩
    by_cases z : x = b
    · subst z; rw [Las.put_eq] at hx; rw [e, ← hx]
    · rw [Las.put_ne z] at hx; exact sb x u hx
end
end Gue
end Py
namespace Py
open PySem (Str)
namespace Gue
open Las
theorem bl_map {l : Itm} {ps : List Sen} {bs : List Nat} {s : Sen} : (s.ps.map fun a => D.bl (told l ps bs a)) = bLs (tls l ps bs s) := by simp [bLs, tls]
theorem tls_len {l : Itm} {ps : List Sen} {bs : List Nat} {s : Sen} : (tls l ps bs s).length = s.ps.length := by simp [tls]
theorem isT_len {s : Sen} (h : s.isT = true) : 1 ≤ s.ps.length ∧ (s.hd = .unt → s.ps.length = 2) ∧ (s.hd ≠ .unt → s.ps.length = 1) := by
  cases s <;> simp [Sen.isT] at h <;> simp [Sen.ps, Sen.hd]
section
variable {P : Prog} {L : Nat} {h : AH} {Q : D → AH → Prop} {X : Xc}
theorem Cx.k {ps : List Sen} {l : Itm} {bs : List Nat} {d : Nat} (C : Cx ps l bs d) (hd : d ≤ 20) {k : Nat} (hk : k < ps.length) : ∀ a ∈ (gt ps k).ps, a.Ok l.length ∧ (∀ x ∈ allS a, x.isT = true → x ∈ ps) ∧ a.dep < d := fun a ha => by
  have m := gt_memP hk
  have := ps_dep ha
  have := C.dp _ m
  exact ⟨ps_ok (C.ok _ m) ha, C.T.cl _ m a ha, by omega⟩
theorem lfits_i (T : TF P) {ps : List Sen} {l : Itm} {bs : List Nat} {d : Nat} (C : Cx ps l bs d) (hd : d ≤ 20) (hL : d + 1 ≤ L) {p : Nat} (ep : h p = some (.lst (sL ps))) (q : Q (.bl (GFit l ps bs)) h) : wC P L "_law_fits" [.loc p, .tup (nL l), .tup (nL bs)] h Q X := by
  obtain ⟨n, rfl⟩ : ∃ n, L = n + 1 := ⟨L - 1, by omega⟩
  have sm : small62 (ps.length : Int) = true := by have := C.ln; simp [small62]; omega
  have pl := n_len_l ep
  rw [sL_len] at pl
  refine wC_i T.fits rfl ?_
  simp [-v_rB, c__law_fits, List.replicate, pl, sm]
  refine for_f (fun i env h' => ∃ o3 o4, env = [some (.loc p), some (.tup (nL l)), some (.tup (nL bs)), o3, o4, none, none] ∧ Sub h h' ∧ ∀ k, k < i → fitK l ps bs k = true) ⟨none, none, rfl, sub_refl, fun k hk => by omega⟩ ?_ ?_
  · rintro k x env h' N hx ⟨o3, o4, rfl, sb, al⟩ hN
    obtain ⟨hk, rfl⟩ := rngL_at hx
    have ck := C.k hd hk
    have st := C.T.tm _ (gt_memP hk)
    have bk := C.bt.at k
    have bl : k < bs.length := by rw [C.bt.1]; exact hk
    have h3 := isT_hd st
    have il := isT_len st
    have n1 : (gt ps k).hd ≠ .tru := fun z => by rw [z] at h3; simp at h3
    have n2 : (gt ps k).hd ≠ .lig := fun z => by rw [z] at h3; simp at h3
    have no : fitK l ps bs k = false → GFit l ps bs = false := fun f => by
      rw [GFit, List.all_eq_false]
      exact ⟨k, List.mem_range.mpr hk, by rw [f]; simp⟩
    have fi : fitK l ps bs k = fitB (gt ps k).hd (tls l ps bs (gt ps k)) (gt bs k) := rfl
    have sk := sL_at (ps := ps) hk
    have ep' := sb _ _ ep
    have xp := fun (i : Int) => x_l (i := i) ep'
    have gk := nLs_at (xs := bs) bl
    have tl := tls_len (l := l) (ps := ps) (bs := bs) (s := gt ps k)
    simp [-v_rB, xp, sk]
    rw [sen_cut n1 n2]
    simp [-v_rB]
    refine comp_g Sen.d (fun a => .bl (told l ps bs a)) (gt ps k).ps rfl trivial ?_ (fun a ha kk hkk => ?_) ?_
    · cases gt ps k <;> simp [Sen.ps]
    · obtain ⟨c1, c2, c3⟩ := ck a ha
      simp [wipe]
      exact lnow_i T.toTQ a c1 c2 C.bt.1.symm (fun x hx => by have := C.dp x hx; omega) (by omega) ep' hkk
    intro c hc
    rw [bl_map]
    have ep2 := fun o => sub_put (o := o) hc _ _ ep'
    have xp2 := fun o (i : Int) => x_l (i := i) (ep2 o)
    generalize gt ps k = s at *
    generalize tls l ps bs s = ts at *
    have sb2 := sb.put (o := .lst (bLs ts)) (sub_no sb hc)
    have yes : fitK l ps bs k = true → N [some (.loc p), some (.tup (nL l)), some (.tup (nL bs)), some (.int k), some (.loc c), none, none] (put h' c (.lst (bLs ts))) := fun f => hN _ _ ⟨_, _, rfl, sb2, fun j hj => by
      by_cases z : j = k
      · rw [z]; exact f
      · exact al j (by omega)⟩
    have qno : fitK l ps bs k = false → someQ Q (.bl false) (put h' c (.lst (bLs ts))) := fun f => someQ_s sb2 (by rw [no f] at q; exact q)
    have e0 : atI (bLs ts) 0 = some (.bl (gt ts 0)) := bLs_at (i := 0) (by omega)
    have b2 : gt bs k = 0 ∨ gt bs k = 1 := by omega
    rcases h3 with h3 | h3 | h3 <;> rw [h3] at fi <;> simp only [fitB] at fi
    · simp [xp2, sk, h3, Las.m6, Las.m7, Las.m8, gk, x_l (put_eq (h := h') (a := c) (o := .lst (bLs ts))), e0]
      rcases b2 with b2 | b2 <;> cases z0 : gt ts 0 <;> simp [b2, z0] at fi ⊢ <;> first | exact yes fi | exact qno fi
    · simp [xp2, sk, h3, Las.m6, Las.m7, Las.m8, gk, x_l (put_eq (h := h') (a := c) (o := .lst (bLs ts))), e0]
      rcases b2 with b2 | b2 <;> cases z0 : gt ts 0 <;> simp [b2, z0] at fi ⊢ <;> first | exact yes fi | exact qno fi
    · have e1 : atI (bLs ts) 1 = some (.bl (gt ts 1)) := bLs_at (i := 1) (by have := il.2.1 h3; omega)
      simp [xp2, sk, h3, Las.m6, Las.m7, Las.m8, gk, x_l (put_eq (h := h') (a := c) (o := .lst (bLs ts))), e0, e1]
      rcases b2 with b2 | b2 <;> cases z0 : gt ts 0 <;> cases z1 : gt ts 1 <;> simp [b2, z0, z1] at fi ⊢ <;> first | exact yes fi | exact qno fi
  · rintro env h' ⟨o3, o4, rfl, sb, al⟩
    rw [rngL_length] at al
    simp
    have : GFit l ps bs = true := by
      rw [GFit, List.all_eq_true]
      exact fun k hk => al k (List.mem_range.mp hk)
    rw [this] at q
    exact someQ_s sb q
theorem lgo_i (T : TF P) {ps : List Sen} {l : Itm} {bs ls : List Nat} {d : Nat} (C : Cx ps l bs d) (bl2 : Bt ps.length ls) (hd : d ≤ 20) (hL : d + 1 ≤ L) {p : Nat} (ep : h p = some (.lst (sL ps))) (q : Q (.bl (GNext l ps bs ls)) h) : wC P L "_law_goes_on" [.loc p, .tup (nL l), .tup (nL bs), .tup (nL ls)] h Q X := by
  obtain ⟨n, rfl⟩ : ∃ n, L = n + 1 := ⟨L - 1, by omega⟩
  have sm : small62 (ps.length : Int) = true := by have := C.ln; simp [small62]; omega
  have pl := n_len_l ep
  rw [sL_len] at pl
  refine wC_i T.go rfl ?_
  simp [-v_rB, c__law_goes_on, List.replicate, pl, sm]
  refine for_f (fun i env h' => ∃ o4 o5 o6, env = [some (.loc p), some (.tup (nL l)), some (.tup (nL bs)), some (.tup (nL ls)), o4, o5, o6, none, none] ∧ Sub h h' ∧ ∀ k, k < i → nextK l ps bs ls k = true) ⟨none, none, none, rfl, sub_refl, fun k hk => by omega⟩ ?_ ?_
  · rintro k x env h' N hx ⟨o4, o5, o6, rfl, sb, al⟩ hN
    obtain ⟨hk, rfl⟩ := rngL_at hx
    have ck := C.k hd hk
    have st := C.T.tm _ (gt_memP hk)
    have bk := C.bt.at k
    have lk2 := bl2.at k
    have bl : k < bs.length := by rw [C.bt.1]; exact hk
    have ll : k < ls.length := by rw [bl2.1]; exact hk
    have h3 := isT_hd st
    have il := isT_len st
    have n1 : (gt ps k).hd ≠ .tru := fun z => by rw [z] at h3; simp at h3
    have n2 : (gt ps k).hd ≠ .lig := fun z => by rw [z] at h3; simp at h3
    have no : nextK l ps bs ls k = false → GNext l ps bs ls = false := fun f => by
      rw [GNext, List.all_eq_false]
      exact ⟨k, List.mem_range.mpr hk, by rw [f]; simp⟩
    have fi : nextK l ps bs ls k = decide (bN (nextB (gt ps k).hd (tls l ps bs (gt ps k)) (gt ls k)) = gt bs k) := rfl
    have sk := sL_at (ps := ps) hk
    have ep' := sb _ _ ep
    have xp := fun (i : Int) => x_l (i := i) ep'
    have gk := nLs_at (xs := bs) bl
    have lk := nLs_at (xs := ls) ll
    have tl := tls_len (l := l) (ps := ps) (bs := bs) (s := gt ps k)
    simp [-v_rB, xp, sk]
    rw [sen_cut n1 n2]
    simp [-v_rB]
    refine comp_g Sen.d (fun a => .bl (told l ps bs a)) (gt ps k).ps rfl trivial ?_ (fun a ha kk hkk => ?_) ?_
    · cases gt ps k <;> simp [Sen.ps]
    · obtain ⟨c1, c2, c3⟩ := ck a ha
      simp [wipe]
      exact lnow_i T.toTQ a c1 c2 C.bt.1.symm (fun x hx => by have := C.dp x hx; omega) (by omega) ep' hkk
    intro c hc
    rw [bl_map]
    have ep2 := fun o => sub_put (o := o) hc _ _ ep'
    have xp2 := fun o (i : Int) => x_l (i := i) (ep2 o)
    generalize gt ps k = s at *
    generalize tls l ps bs s = ts at *
    have sb2 := sb.put (o := .lst (bLs ts)) (sub_no sb hc)
    have yes : nextK l ps bs ls k = true → ∀ o6, N [some (.loc p), some (.tup (nL l)), some (.tup (nL bs)), some (.tup (nL ls)), some (.int k), some (.loc c), o6, none, none] (put h' c (.lst (bLs ts))) := fun f o6 => hN _ _ ⟨_, _, _, rfl, sb2, fun j hj => by
      by_cases z : j = k
      · rw [z]; exact f
      · exact al j (by omega)⟩
    have qno : nextK l ps bs ls k = false → someQ Q (.bl false) (put h' c (.lst (bLs ts))) := fun f => someQ_s sb2 (by rw [no f] at q; exact q)
    have e0 : atI (bLs ts) 0 = some (.bl (gt ts 0)) := bLs_at (i := 0) (by omega)
    have b2 : gt bs k = 0 ∨ gt bs k = 1 := by omega
    have b3 : gt ls k = 0 ∨ gt ls k = 1 := by omega
    rcases h3 with h3 | h3 | h3 <;> rw [h3] at fi <;> simp only [nextB, bN] at fi
    · rcases b2 with b2 | b2 <;> rcases b3 with b3 | b3 <;> cases z0 : gt ts 0 <;> simp [b2, b3, z0] at fi gk lk e0 <;> simp [xp2, sk, h3, Las.m6, Las.m7, Las.m8, gk, lk, x_l (put_eq (h := h') (a := c) (o := .lst (bLs ts))), e0] <;> first | exact yes fi _ | exact qno fi
    · rcases b2 with b2 | b2 <;> rcases b3 with b3 | b3 <;> cases z0 : gt ts 0 <;> simp [b2, b3, z0] at fi gk lk e0 <;> simp [xp2, sk, h3, Las.m6, Las.m7, Las.m8, gk, lk, x_l (put_eq (h := h') (a := c) (o := .lst (bLs ts))), e0] <;> first | exact yes fi _ | exact qno fi
    · have e1 : atI (bLs ts) 1 = some (.bl (gt ts 1)) := bLs_at (i := 1) (by have := il.2.1 h3; omega)
      rcases b2 with b2 | b2 <;> rcases b3 with b3 | b3 <;> cases z0 : gt ts 0 <;> cases z1 : gt ts 1 <;> simp [b2, b3, z0, z1] at fi gk lk e0 e1 <;> simp [xp2, sk, h3, Las.m6, Las.m7, Las.m8, gk, lk, x_l (put_eq (h := h') (a := c) (o := .lst (bLs ts))), e0, e1] <;> first | exact yes fi _ | exact qno fi
  · rintro env h' ⟨o4, o5, o6, rfl, sb, al⟩
    rw [rngL_length] at al
    simp
    have : GNext l ps bs ls = true := by
      rw [GNext, List.all_eq_true]
      exact fun k hk => al k (List.mem_range.mp hk)
    rw [this] at q
    exact someQ_s sb q
theorem lmet_i (T : TF P) {ps : List Sen} {l : Itm} {bs : List Nat} {d : Nat} (C : Cx ps l bs d) (hd : d ≤ 20) {k : Nat} (hk : k < ps.length) (hL : d + 1 ≤ L) {p : Nat} (ep : h p = some (.lst (sL ps))) (q : Q (.bl (metK l ps bs k)) h) : wC P L "_law_met" [.loc p, .int k, .tup (nL l), .tup (nL bs)] h Q X := by
  obtain ⟨n, rfl⟩ : ∃ n, L = n + 1 := ⟨L - 1, by omega⟩
  have ck := C.k hd hk
  have st := C.T.tm _ (gt_memP hk)
  have bk := C.bt.at k
  have bl : k < bs.length := by rw [C.bt.1]; exact hk
  have h3 := isT_hd st
  have il := isT_len st
  have n1 : (gt ps k).hd ≠ .tru := fun z => by rw [z] at h3; simp at h3
  have n2 : (gt ps k).hd ≠ .lig := fun z => by rw [z] at h3; simp at h3
  have fi : metK l ps bs k = metB (gt ps k).hd (tls l ps bs (gt ps k)) (gt bs k) := rfl
  have sk := sL_at (ps := ps) hk
  have ep' := ep
  have xp := fun (i : Int) => x_l (i := i) ep
  have gk := nLs_at (xs := bs) bl
  have tl := tls_len (l := l) (ps := ps) (bs := bs) (s := gt ps k)
  refine wC_i T.met rfl ?_
  simp [-v_rB, c__law_met, List.replicate, xp, sk]
  rw [sen_cut n1 n2]
  simp [-v_rB]
  refine comp_g Sen.d (fun a => .bl (told l ps bs a)) (gt ps k).ps rfl trivial ?_ (fun a ha kk hkk => ?_) ?_
  · cases gt ps k <;> simp [Sen.ps]
  · obtain ⟨c1, c2, c3⟩ := ck a ha
    simp [wipe]
    exact lnow_i T.toTQ a c1 c2 C.bt.1.symm (fun x hx => by have := C.dp x hx; omega) (by omega) ep' hkk
  intro c hc
  rw [bl_map]
  have ep2 := fun o => sub_put (o := o) hc _ _ ep'
  have xp2 := fun o (i : Int) => x_l (i := i) (ep2 o)
  generalize gt ps k = s at *
  generalize tls l ps bs s = ts at *
  have fin : ∀ b, b = metK l ps bs k → someQ Q (.bl b) (put h c (.lst (bLs ts))) := fun b e => someQ_s (sub_put hc) (by rw [e]; exact q)
  have e0 : atI (bLs ts) 0 = some (.bl (gt ts 0)) := bLs_at (i := 0) (by omega)
  have b2 : gt bs k = 0 ∨ gt bs k = 1 := by omega
  have ln := n_len_l (put_eq (h := h) (a := c) (o := .lst (bLs ts)))
  rcases h3 with h3 | h3 | h3 <;> rw [h3] at fi <;> simp only [metB] at fi
  · rcases b2 with b2 | b2 <;> cases z0 : gt ts 0 <;> simp [b2, z0] at fi gk e0 <;> simp [xp2, sk, h3, Las.m6, gk, x_l (put_eq (h := h) (a := c) (o := .lst (bLs ts))), e0] <;> exact fin _ fi.symm
  · have l1 : ts.length = 1 := by have := il.2.2 (by rw [h3]; simp); omega
    rcases b2 with b2 | b2 <;> cases z0 : gt ts 0 <;> simp [b2, z0] at fi gk e0 <;> simp [xp2, sk, h3, Las.m6, gk, ln, l1, x_l (put_eq (h := h) (a := c) (o := .lst (bLs ts))), e0] <;> exact fin _ fi.symm
  · have e1 : atI (bLs ts) 1 = some (.bl (gt ts 1)) := bLs_at (i := 1) (by have := il.2.1 h3; omega)
    have l1 : ts.length = 2 := by have := il.2.1 h3; omega
    rcases b2 with b2 | b2 <;> cases z1 : gt ts 1 <;> simp [b2, z1] at fi gk e1 <;> simp [xp2, sk, h3, Las.m6, gk, ln, l1, x_l (put_eq (h := h) (a := c) (o := .lst (bLs ts))), e1] <;> exact fin _ fi.symm
end
end Gue
end Py
namespace Py
open PySem (Str)
namespace Gue
open Las
structure TW (P : Prog) : Prop where
  rb : P.fn "rows_of_bits" = some c_rows_of_bits
  tp : P.fn "told_parts" = some c_told_parts
  ta : P.fn "told_of_all" = some c_told_of_all
  pf : P.fn "does_part_fit" = some c_does_part_fit
  df : P.fn "do_parts_fit" = some c_do_parts_fit
  gf : P.fn "does_guess_fit" = some c_does_guess_fit
  bn : P.fn "bit_by_next" = some c_bit_by_next
  dg : P.fn "do_parts_go_on" = some c_do_parts_go_on
  gg : P.fn "does_guess_go_on" = some c_does_guess_go_on
  gp : P.fn "guesses_for_parts" = some c_guesses_for_parts
  fg : P.fn "fitting_guesses" = some c_fitting_guesses
  cm : P.fn "is_condition_met" = some c_is_condition_met
def bxF : D → List D
  | .tup xs => [.tup (xs ++ [.int 0]), .tup (xs ++ [.int 1])]
  | _ => []
theorem bxF_rws (xs : List (List Nat)) : ((rwsD xs).map bxF).flatten = rwsD (xs.flatMap fun r => [r ++ [0], r ++ [1]]) := by
  induction xs with
  | nil => rfl
  | cons x r ih =>
    rw [List.flatMap_cons]
    unfold rwsD at ih ⊢
    rw [List.map_cons, List.map_cons, List.flatten_cons, ih, List.map_append]
    simp [bxF, nL]
theorem dbl_len (xs : List (List Nat)) : (xs.flatMap fun r => [r ++ [0], r ++ [1]]).length = 2 * xs.length := by
  induction xs with
  | nil => rfl
  | cons x r ih => rw [List.flatMap_cons, List.length_append, ih]; simp; omega
theorem rngM (n : Nat) : rngL 0 n = (List.range n).map fun (k : Nat) => D.int (k : Int) := by simp [rngL]
section
variable {P : Prog} {L : Nat} {h : AH} {Q : D → AH → Prop} {X : Xc}
theorem bits_f (hL : 1 ≤ L) (hf : P.fn "rows_of_bits" = some c_rows_of_bits) {m : Nat} (hm : m ≤ 20) (q : ∀ a, h a = none → Q (.loc a) (put h a (.lst (rwsD (bitsL m))))) : wC P L "rows_of_bits" [.int m] h Q X := by
  obtain ⟨n, rfl⟩ : ∃ n, L = n + 1 := ⟨L - 1, by omega⟩
  have sm : small62 (m : Int) = true := by simp [small62]; omega
  refine wC_i hf rfl ?_
  simp [-v_rB, c_rows_of_bits, List.replicate]
  intro a ha
  rw [v_rB]
  simp [-v_rB, sm]
  refine for_f (fun i env h' => ∃ o2 b, env = [some (.int m), some (.loc b), o2, none, none, none] ∧ h b = none ∧ Sub h h' ∧ h' b = some (.lst (rwsD (bitsL i)))) ⟨none, a, rfl, ha, sub_put ha, by rw [Las.put_eq]; rfl⟩ ?_ ?_
  · rintro i x env h' N hx ⟨o2, b, rfl, hb, sb, e⟩ hN
    have il : i < m := by
      have := (List.getElem?_eq_some_iff.mp hx).1
      simpa using this
    have p2 : (bitsL i).length ≤ 1048576 := by
      rw [bits_len]
      exact Nat.le_trans (Nat.pow_le_pow_right (by decide) (show i ≤ 20 by omega)) (by decide)
    simp [c_l e]
    refine comp2_s bxF (h0 := h') sub_refl (fun h2 s2 => s2 _ _ e) ?_ (fun x hx h2 s2 => ?_) (fun h2 s2 => ?_)
    · simp only [v_lsti]
      rw [bxF_rws, rwsD_len, dbl_len]; omega
    · simp only [v_lsti] at hx
      unfold rwsD at hx
      obtain ⟨r, hr, rfl⟩ := List.mem_map.mp hx
      have rb := (bits_mem i r).mp hr
      simp [wipe]
      refine ⟨s2, trivial, fun y => .tup (nL r ++ [y]), by simp [bxF], fun y hy k hk => ?_⟩
      simp [wipe]
      rw [o_addt (by simp [nL]; have := rb.1; omega)]
      simp
      exact hk
    · simp only [v_lsti]
      rw [bxF_rws, ← bits_s]
      try simp
      exact fun d hd => hN _ _ ⟨_, d, rfl, sub_no (fun x u z => s2 _ _ (sb _ _ z)) hd, fun x u z => sub_put hd _ _ (s2 _ _ (sb _ _ z)), Las.put_eq⟩
  · rintro env h' ⟨o2, b, rfl, hb, sb, e⟩
    rw [rngL_length] at e
    simp
    refine ⟨put h b (.lst (rwsD (bitsL m))), fun x u hx => ?_, q b hb⟩
    by_cases z : x = b
    · subst z; rw [Las.put_eq] at hx; rw [e, ← hx]
    · rw [Las.put_ne z] at hx; exact sb x u hx
theorem bits_i (hL : 1 ≤ L) (T : TW P) {m : Nat} (hm : m ≤ 20) (q : ∀ a, h a = none → Q (.loc a) (put h a (.lst (rwsD (bitsL m))))) : wC P L "rows_of_bits" [.int m] h Q X := bits_f hL T.rb hm q
theorem tparts2_i (S : Las.TS P) (T : TW P) {ps : List Sen} {l : Itm} {bs : List Nat} {d : Nat} (C : Cx ps l bs d) (hd : d ≤ 20) {k : Nat} (hk : k < ps.length) (hL : d + 1 ≤ L) (q : ∀ a, h a = none → Q (.loc a) (put h a (.lst (bLs (tls l ps bs (gt ps k)))))) : wC P L "told_parts" [(gt ps k).d, .tup (nL l), .tup (sL ps), .tup (nL bs)] h Q X := by
  obtain ⟨n, rfl⟩ : ∃ n, L = n + 1 := ⟨L - 1, by omega⟩
  have ck := C.k hd hk
  have st := C.T.tm _ (gt_memP hk)
  have h3 := isT_hd st
  have n1 : (gt ps k).hd ≠ .tru := fun z => by rw [z] at h3; simp at h3
  have n2 : (gt ps k).hd ≠ .lig := fun z => by rw [z] at h3; simp at h3
  refine wC_i T.tp rfl ?_
  simp [-v_rB, c_told_parts, List.replicate]
  rw [sen_cut n1 n2]
  simp
  refine comp_g Sen.d (fun a => .bl (told l ps bs a)) (gt ps k).ps rfl trivial ?_ (fun a ha kk hkk => ?_) ?_
  · cases gt ps k <;> simp [Sen.ps]
  · obtain ⟨c1, c2, c3⟩ := ck a ha
    simp [wipe]
    exact told_i S a c1 c2 C.bt.1.symm (fun x hx => by have := C.dp x hx; omega) (by omega) hkk
  rw [bl_map]
  try simp
  exact fun c hc => someQ_i (q c hc)
/-- what is told of all time parts lies in the heap -/
structure Tld (ps : List Sen) (l : Itm) (bs : List Nat) (h : AH) (c : Nat) : Prop where
  ex : ∃ as : List Nat, as.length = ps.length ∧ h c = some (.lst (lcs as)) ∧ ∀ k, k < ps.length → h (gt as k) = some (.lst (bLs (tls l ps bs (gt ps k))))
theorem Tld.sub {ps : List Sen} {l : Itm} {bs : List Nat} {h h' : AH} {c : Nat} (t : Tld ps l bs h c) (s : Sub h h') : Tld ps l bs h' c := by
  obtain ⟨as, a1, a2, a3⟩ := t.ex
  exact ⟨as, a1, s _ _ a2, fun k hk => s _ _ (a3 k hk)⟩
theorem tall_i (S : Las.TS P) (T : TW P) {ps : List Sen} {l : Itm} {bs : List Nat} {d : Nat} (C : Cx ps l bs d) (hd : d ≤ 20) (hL : d + 2 ≤ L) (q : ∀ c h', Sub h h' → h c = none → Tld ps l bs h' c → Q (.loc c) h') : wC P L "told_of_all" [.tup (sL ps), .tup (nL l), .tup (nL bs)] h Q X := by
  obtain ⟨n, rfl⟩ : ∃ n, L = n + 1 := ⟨L - 1, by omega⟩
  refine wC_i T.ta rfl ?_
  simp [-v_rB, c_told_of_all, List.replicate]
  refine comp_by (fun i acc h' => Sub h h' ∧ ∃ as : List Nat, as.length = i ∧ acc = lcs as ∧ ∀ k, k < i → h' (gt as k) = some (.lst (bLs (tls l ps bs (gt ps k))))) ⟨sub_refl, [], rfl, rfl, fun k hk => by omega⟩ (fun _ _ _ _ _ => trivial) ?_ ?_
  · rintro i x acc h' N hx ⟨sb, as, al, rfl, ha⟩ hN
    simp only [v_fixi] at hx
    unfold sL at hx
    rw [List.getElem?_map, Option.map_eq_some_iff] at hx
    obtain ⟨s, hs, rfl⟩ := hx
    have il := (List.getElem?_eq_some_iff.mp hs).1
    have es : gt ps i = s := by rw [gt_get il]; exact (List.getElem?_eq_some_iff.mp hs).2
    have ln := C.ln
    simp [wipe]
    rw [← es]
    refine tparts2_i S T C hd il (by omega) fun c hc => ?_
    try simp
    refine ⟨by omega, hN _ _ ⟨fun x u z => sub_put hc _ _ (sb _ _ z), as ++ [c], by simp [al], by simp [lcs], fun k hk => ?_⟩⟩
    by_cases z : k = i
    · subst z
      rw [← al, gt_app2, Las.put_eq]
    · rw [gt_app1 (by omega)]
      exact sub_put hc _ _ (ha k (by omega))
  · rintro acc h' ⟨sb, as, al, rfl, ha⟩
    simp only [v_fixi] at al ha
    rw [sL_len] at al ha
    try simp
    exact fun c hc => someQ_i (q c _ (fun x u z => sub_put hc _ _ (sb _ _ z)) (sub_no sb hc) ⟨as, al, Las.put_eq, fun k hk => sub_put hc _ _ (ha k hk)⟩)
theorem pfit_i (hL : 1 ≤ L) (T : TW P) {s : Sen} (st : s.isT = true) {ts : List Bool} (tl : ts.length = s.ps.length) {b : Nat} (hb : b < 2) {a : Nat} (e : h a = some (.lst (bLs ts))) (q : Q (.bl (fitB s.hd ts b)) h) : wC P L "does_part_fit" [s.d, .loc a, .int b] h Q X := by
  obtain ⟨n, rfl⟩ : ∃ n, L = n + 1 := ⟨L - 1, by omega⟩
  have h3 := isT_hd st
  have il := isT_len st
  refine wC_i T.pf rfl ?_
  have e0 : atI (bLs ts) 0 = some (.bl (gt ts 0)) := bLs_at (i := 0) (by omega)
  have b2 : b = 0 ∨ b = 1 := by omega
  rcases h3 with h3 | h3 | h3
  · rw [h3] at q
    simp only [fitB] at q
    rcases b2 with rfl | rfl <;> cases z0 : gt ts 0 <;> simp [z0] at q e0 <;> simp [c_does_part_fit, List.replicate, h3, Las.m6, Las.m7, Las.m8, x_l e, e0] <;> exact someQ_i q
  · rw [h3] at q
    simp only [fitB] at q
    rcases b2 with rfl | rfl <;> cases z0 : gt ts 0 <;> simp [z0] at q e0 <;> simp [c_does_part_fit, List.replicate, h3, Las.m6, Las.m7, Las.m8, x_l e, e0] <;> exact someQ_i q
  · rw [h3] at q
    simp only [fitB] at q
    have e1 : atI (bLs ts) 1 = some (.bl (gt ts 1)) := bLs_at (i := 1) (by have := il.2.1 h3; omega)
    rcases b2 with rfl | rfl <;> cases z0 : gt ts 0 <;> cases z1 : gt ts 1 <;> simp [z0, z1] at q e0 e1 <;> simp [c_does_part_fit, List.replicate, h3, Las.m6, Las.m7, Las.m8, x_l e, e0, e1] <;> exact someQ_i q
theorem pnext_i (hL : 1 ≤ L) (T : TW P) {s : Sen} (st : s.isT = true) {ts : List Bool} (tl : ts.length = s.ps.length) {b : Nat} (hb : b < 2) {a : Nat} (e : h a = some (.lst (bLs ts))) (q : Q (.int (bN (nextB s.hd ts b) : Nat)) h) : wC P L "bit_by_next" [s.d, .loc a, .int b] h Q X := by
  obtain ⟨n, rfl⟩ : ∃ n, L = n + 1 := ⟨L - 1, by omega⟩
  have h3 := isT_hd st
  have il := isT_len st
  refine wC_i T.bn rfl ?_
  have e0 : atI (bLs ts) 0 = some (.bl (gt ts 0)) := bLs_at (i := 0) (by omega)
  have b2 : b = 0 ∨ b = 1 := by omega
  rcases h3 with h3 | h3 | h3
  · rw [h3] at q
    simp only [nextB, bN] at q
    rcases b2 with rfl | rfl <;> cases z0 : gt ts 0 <;> simp [z0] at q e0 <;> simp [c_bit_by_next, List.replicate, h3, Las.m6, Las.m7, Las.m8, x_l e, e0] <;> exact someQ_i q
  · rw [h3] at q
    simp only [nextB, bN] at q
    rcases b2 with rfl | rfl <;> cases z0 : gt ts 0 <;> simp [z0] at q e0 <;> simp [c_bit_by_next, List.replicate, h3, Las.m6, Las.m7, Las.m8, x_l e, e0] <;> exact someQ_i q
  · rw [h3] at q
    simp only [nextB, bN] at q
    have e1 : atI (bLs ts) 1 = some (.bl (gt ts 1)) := bLs_at (i := 1) (by have := il.2.1 h3; omega)
    rcases b2 with rfl | rfl <;> cases z0 : gt ts 0 <;> cases z1 : gt ts 1 <;> simp [z0, z1] at q e0 e1 <;> simp [c_bit_by_next, List.replicate, h3, Las.m6, Las.m7, Las.m8, x_l e, e0, e1] <;> exact someQ_i q
theorem sfit_i (S : Las.TS P) (T : TW P) {ps : List Sen} {l : Itm} {bs : List Nat} {d : Nat} (C : Cx ps l bs d) (hd : d ≤ 20) (hL : d + 3 ≤ L) (q : Q (.bl (GFit l ps bs)) h) : wC P L "do_parts_fit" [.tup (sL ps), .tup (nL l), .tup (nL bs)] h Q X := by
  obtain ⟨n, rfl⟩ : ∃ n, L = n + 1 := ⟨L - 1, by omega⟩
  have ln := C.ln
  have sm : small62 (ps.length : Int) = true := by simp [small62]; omega
  refine wC_i T.df rfl ?_
  simp [-v_rB, c_do_parts_fit, List.replicate]
  refine tall_i S T C hd (by omega) fun c h' sb hc t => ?_
  simp [sm]
  refine comp_g (fun (k : Nat) => .int (k : Int)) (fun k => .bl (fitK l ps bs k)) (List.range ps.length) (rngM _) trivial (by rw [List.length_range]; omega) (fun k hk kk hkk => ?_) ?_
  · rw [List.mem_range] at hk
    obtain ⟨as, a1, a2, a3⟩ := t.ex
    have bl : k < bs.length := by rw [C.bt.1]; exact hk
    simp [wipe, sL_at hk, x_l a2, lcs_at (as := as) (i := k) (by omega), nLs_at bl]
    refine pfit_i (by omega) T (C.T.tm _ (gt_memP hk)) tls_len (C.bt.at k) (a3 k hk) ?_
    exact hkk
  · rw [all_p]
    simp
    exact someQ_s sb q
theorem sgo_i (T : TW P) {ps : List Sen} {l : Itm} {bs ls : List Nat} {d : Nat} (C : Cx ps l bs d) (bl2 : Bt ps.length ls) (hL : 2 ≤ L) {c : Nat} (t : Tld ps l bs h c) (q : Q (.bl (GNext l ps bs ls)) h) : wC P L "do_parts_go_on" [.tup (sL ps), .loc c, .tup (nL bs), .tup (nL ls)] h Q X := by
  obtain ⟨n, rfl⟩ : ∃ n, L = n + 1 := ⟨L - 1, by omega⟩
  have ln := C.ln
  have sm : small62 (ps.length : Int) = true := by simp [small62]; omega
  refine wC_i T.dg rfl ?_
  simp [c_do_parts_go_on, List.replicate, sm]
  refine comp_g (fun (k : Nat) => .int (k : Int)) (fun k => .bl (nextK l ps bs ls k)) (List.range ps.length) (rngM _) trivial (by rw [List.length_range]; omega) (fun k hk kk hkk => ?_) ?_
  · rw [List.mem_range] at hk
    obtain ⟨as, a1, a2, a3⟩ := t.ex
    have bl : k < bs.length := by rw [C.bt.1]; exact hk
    have ll : k < ls.length := by rw [bl2.1]; exact hk
    simp [wipe, sL_at hk, x_l a2, lcs_at (as := as) (i := k) (by omega), nLs_at bl, nLs_at ll]
    refine pnext_i (by omega) T (C.T.tm _ (gt_memP hk)) tls_len (bl2.at k) (a3 k hk) ?_
    simp [nLs_at bl]
    unfold nextK at hkk
    have e : ∀ x y : Nat, decide ((x : Int) = (y : Int)) = decide (x = y) := fun x y => decide_eq_decide.mpr (by omega)
    rw [e]
    exact hkk
  · rw [all_p]
    simp
    exact someQ_i q
end
end Gue
end Py
namespace Py
open PySem (Str)
namespace LZ
open Las (tn Tn tn_eq eqv_tn pu_tn k_tn in_tn heads TS put_eq put_ne sub_fresh sub_no u_extl)
open Gue (TQ)
/-! ### sentences with lights of any number -/
inductive Sen | tru | lig (k : Int) | neg (a : Sen) | con (a b : Sen) | dis (a b : Sen) | alw (a : Sen) | atl (a : Sen) | unt (a b : Sen)
  deriving DecidableEq
def Sen.d : Sen → D
  | .tru => .tup [.str (tn .tru)]
  | .lig k => .tup [.str (tn .lig), .int k]
  | .neg a => .tup [.str (tn .neg), a.d]
  | .con a b => .tup [.str (tn .con), a.d, b.d]
  | .dis a b => .tup [.str (tn .dis), a.d, b.d]
  | .alw a => .tup [.str (tn .alw), a.d]
  | .atl a => .tup [.str (tn .atl), a.d]
  | .unt a b => .tup [.str (tn .unt), a.d, b.d]
def Sen.hd : Sen → Tn
  | .tru => .tru | .lig _ => .lig | .neg _ => .neg | .con _ _ => .con | .dis _ _ => .dis | .alw _ => .alw | .atl _ => .atl | .unt _ _ => .unt
def Sen.ps : Sen → List Sen
  | .tru => [] | .lig _ => [] | .neg a => [a] | .con a b => [a, b] | .dis a b => [a, b] | .alw a => [a] | .atl a => [a] | .unt a b => [a, b]
def Sen.dep : Sen → Nat
  | .tru => 1 | .lig _ => 1 | .neg a => a.dep + 1 | .con a b => max a.dep b.dep + 1 | .dis a b => max a.dep b.dep + 1 | .alw a => a.dep + 1 | .atl a => a.dep + 1 | .unt a b => max a.dep b.dep + 1
def Sen.isT : Sen → Bool
  | .alw _ => true | .atl _ => true | .unt _ _ => true | _ => false
/-- the lights are there -/
def Sen.Ok (many : Nat) : Sen → Prop
  | .tru => True | .lig k => 0 ≤ k ∧ k < (many : Int) | .neg a => a.Ok many | .con a b => a.Ok many ∧ b.Ok many | .dis a b => a.Ok many ∧ b.Ok many | .alw a => a.Ok many | .atl a => a.Ok many | .unt a b => a.Ok many ∧ b.Ok many
theorem ps_dep {s a : Sen} (h : a ∈ s.ps) : a.dep < s.dep := by
  cases s <;> simp [Sen.ps] at h <;> (try rcases h with rfl | rfl) <;> simp only [Sen.dep] <;> (try subst h) <;> omega
theorem ps_ok {many : Nat} {s a : Sen} (ok : s.Ok many) (h : a ∈ s.ps) : a.Ok many := by
  cases s <;> simp [Sen.ps] at h
  · subst h; exact ok
  · rcases h with rfl | rfl
    · exact ok.1
    · exact ok.2
  · rcases h with rfl | rfl
    · exact ok.1
    · exact ok.2
  · subst h; exact ok
  · subst h; exact ok
  · rcases h with rfl | rfl
    · exact ok.1
    · exact ok.2
@[simp] theorem sd0 {s : Sen} {h : AH} : ixD (.v s.d) (.v (.int 0)) h = some (.str (tn s.hd)) := by cases s <;> simp [Sen.d, Sen.hd]
theorem sd_c {s : Sen} (h1 : s.hd ≠ .tru) (h2 : s.hd ≠ .lig) : ∃ xs, s.d = .tup (.str (tn s.hd) :: xs) ∧ xs = s.ps.map Sen.d := by
  cases s with
  | tru => exact absurd rfl h1
  | lig k => exact absurd rfl h2
  | _ => exact ⟨_, rfl, rfl⟩
theorem sen_eqv : ∀ a b : Sen, eqv a.d b.d = decide (a = b) := by
  intro a
  induction a with
  | tru => intro b; cases b <;> simp [Sen.d, eqv, eqvs]
  | lig k =>
    intro b
    cases b with
    | lig j =>
      show (eqv (.str (tn .lig)) (.str (tn .lig)) && (eqv (.int k) (.int j) && true)) = _
      rw [eqv_tn]
      show (decide (Tn.lig = Tn.lig) && (((k : Int) == (j : Int)) && true)) = _
      rw [Bool.eq_iff_iff]
      simp
    | tru => rw [show eqv (Sen.lig k).d Sen.tru.d = (eqv (.str (tn .lig)) (.str (tn .tru)) && eqvs [.int k] []) from rfl, eqv_tn]; simp
    | neg a => rw [show eqv (Sen.lig k).d (Sen.neg a).d = (eqv (.str (tn .lig)) (.str (tn .neg)) && eqvs [.int k] [a.d]) from rfl, eqv_tn]; simp
    | alw a => rw [show eqv (Sen.lig k).d (Sen.alw a).d = (eqv (.str (tn .lig)) (.str (tn .alw)) && eqvs [.int k] [a.d]) from rfl, eqv_tn]; simp
    | atl a => rw [show eqv (Sen.lig k).d (Sen.atl a).d = (eqv (.str (tn .lig)) (.str (tn .atl)) && eqvs [.int k] [a.d]) from rfl, eqv_tn]; simp
    | con a b => rw [show eqv (Sen.lig k).d (Sen.con a b).d = (eqv (.str (tn .lig)) (.str (tn .con)) && eqvs [.int k] [a.d, b.d]) from rfl, eqv_tn]; simp
    | dis a b => rw [show eqv (Sen.lig k).d (Sen.dis a b).d = (eqv (.str (tn .lig)) (.str (tn .dis)) && eqvs [.int k] [a.d, b.d]) from rfl, eqv_tn]; simp
    | unt a b => rw [show eqv (Sen.lig k).d (Sen.unt a b).d = (eqv (.str (tn .lig)) (.str (tn .unt)) && eqvs [.int k] [a.d, b.d]) from rfl, eqv_tn]; simp
  | neg a ih => intro b; cases b <;> simp [Sen.d, eqv, eqvs, ih]
  | con a b ih1 ih2 => intro b; cases b <;> simp [Sen.d, eqv, eqvs, ih1, ih2]
  | dis a b ih1 ih2 => intro b; cases b <;> simp [Sen.d, eqv, eqvs, ih1, ih2]
  | alw a ih => intro b; cases b <;> simp [Sen.d, eqv, eqvs, ih]
  | atl a ih => intro b; cases b <;> simp [Sen.d, eqv, eqvs, ih]
  | unt a b ih1 ih2 => intro b; cases b <;> simp [Sen.d, eqv, eqvs, ih1, ih2]
theorem sen_pu : ∀ (s : Sen) {n : Nat}, s.dep ≤ n → pu n s.d = true
  | .tru, 0, h => absurd h (by simp [Sen.dep])
  | .lig _, 0, h => absurd h (by simp [Sen.dep])
  | .neg _, 0, h => absurd h (by simp [Sen.dep])
  | .con _ _, 0, h => absurd h (by simp [Sen.dep])
  | .dis _ _, 0, h => absurd h (by simp [Sen.dep])
  | .alw _, 0, h => absurd h (by simp [Sen.dep])
  | .atl _, 0, h => absurd h (by simp [Sen.dep])
  | .unt _ _, 0, h => absurd h (by simp [Sen.dep])
  | .tru, n + 1, _ => by show (pu n (.str (tn .tru)) && true) = true; rw [pu_tn]; rfl
  | .lig k, n + 1, _ => by
    show (pu n (.str (tn .lig)) && (pu n (.int k) && true)) = true
    rw [pu_tn]; cases n <;> rfl
  | .neg a, n + 1, h => by
    show (pu n (.str (tn .neg)) && (pu n a.d && true)) = true
    rw [pu_tn, sen_pu a (by simp only [Sen.dep] at h; omega)]; rfl
  | .con a b, n + 1, h => by
    show (pu n (.str (tn .con)) && (pu n a.d && (pu n b.d && true))) = true
    rw [pu_tn, sen_pu a (by simp only [Sen.dep] at h; omega), sen_pu b (by simp only [Sen.dep] at h; omega)]; rfl
  | .dis a b, n + 1, h => by
    show (pu n (.str (tn .dis)) && (pu n a.d && (pu n b.d && true))) = true
    rw [pu_tn, sen_pu a (by simp only [Sen.dep] at h; omega), sen_pu b (by simp only [Sen.dep] at h; omega)]; rfl
  | .alw a, n + 1, h => by
    show (pu n (.str (tn .alw)) && (pu n a.d && true)) = true
    rw [pu_tn, sen_pu a (by simp only [Sen.dep] at h; omega)]; rfl
  | .atl a, n + 1, h => by
    show (pu n (.str (tn .atl)) && (pu n a.d && true)) = true
    rw [pu_tn, sen_pu a (by simp only [Sen.dep] at h; omega)]; rfl
  | .unt a b, n + 1, h => by
    show (pu n (.str (tn .unt)) && (pu n a.d && (pu n b.d && true))) = true
    rw [pu_tn, sen_pu a (by simp only [Sen.dep] at h; omega), sen_pu b (by simp only [Sen.dep] at h; omega)]; rfl
def sL (xs : List Sen) : List D := xs.map Sen.d
@[simp] theorem sL_len (xs : List Sen) : (sL xs).length = xs.length := by simp [sL]
theorem sL_pu {xs : List Sen} (h : ∀ s ∈ xs, s.dep ≤ 40) : (sL xs).all (pu 40) = true := by
  rw [List.all_eq_true]
  intro x hx
  obtain ⟨s, hs, rfl⟩ := List.mem_map.mp hx
  exact sen_pu s (h s hs)
theorem sL_any (xs : List Sen) (s : Sen) : (sL xs).any (fun z => eqv z s.d) = decide (s ∈ xs) := by
  unfold sL
  rw [List.any_map, Bool.eq_iff_iff]
  simp only [List.any_eq_true, Function.comp, sen_eqv, decide_eq_true_eq]
  constructor
  · rintro ⟨x, hx, rfl⟩; exact hx
  · exact fun h => ⟨s, h, rfl⟩
theorem k_ninS {a : Nat} {xs : List Sen} {s : Sen} {h : AH} (ha : h a = some (.lst (sL xs))) (hx : ∀ s ∈ xs, s.dep ≤ 40) (hs : s.dep ≤ 40) : cmpD .nin (.v s.d) (.v (.loc a)) h = some (!decide (s ∈ xs)) := by
  show (inD (.v s.d) (.v (.loc a)) h).map (!·) = _
  unfold inD
  simp only [s_locV ha]
  rw [sen_pu s hs, sL_pu hx, sL_any]
  rfl
theorem in_heads {s : Sen} {h : AH} : cmpD .inn (.v (.str (tn s.hd))) (.v (.tup heads)) h = some s.isT := by
  rw [in_tn (by simp [heads])]
  cases s <;> simp [heads, Sen.hd, Sen.isT]
/-! ### what stands in a sentence -/
def allS : Sen → List Sen
  | .tru => [.tru]
  | .lig k => [.lig k]
  | .neg a => allS a ++ [.neg a]
  | .con a b => allS a ++ allS b ++ [.con a b]
  | .dis a b => allS a ++ allS b ++ [.dis a b]
  | .alw a => allS a ++ [.alw a]
  | .atl a => allS a ++ [.atl a]
  | .unt a b => allS a ++ allS b ++ [.unt a b]
theorem allS_dep : ∀ (s : Sen), ∀ x ∈ allS s, x.dep ≤ s.dep
  | .tru, x, h => by simp [allS] at h; subst h; exact Nat.le_refl _
  | .lig k, x, h => by simp [allS] at h; subst h; exact Nat.le_refl _
  | .neg a, x, h => by
    simp only [allS, List.mem_append, List.mem_singleton] at h
    rcases h with h | rfl
    · have := allS_dep a x h; simp only [Sen.dep]; omega
    · exact Nat.le_refl _
  | .con a b, x, h => by
    simp only [allS, List.mem_append, List.mem_singleton] at h
    rcases h with (h | h) | rfl
    · have := allS_dep a x h; simp only [Sen.dep]; omega
    · have := allS_dep b x h; simp only [Sen.dep]; omega
    · exact Nat.le_refl _
  | .dis a b, x, h => by
    simp only [allS, List.mem_append, List.mem_singleton] at h
    rcases h with (h | h) | rfl
    · have := allS_dep a x h; simp only [Sen.dep]; omega
    · have := allS_dep b x h; simp only [Sen.dep]; omega
    · exact Nat.le_refl _
  | .alw a, x, h => by
    simp only [allS, List.mem_append, List.mem_singleton] at h
    rcases h with h | rfl
    · have := allS_dep a x h; simp only [Sen.dep]; omega
    · exact Nat.le_refl _
  | .atl a, x, h => by
    simp only [allS, List.mem_append, List.mem_singleton] at h
    rcases h with h | rfl
    · have := allS_dep a x h; simp only [Sen.dep]; omega
    · exact Nat.le_refl _
  | .unt a b, x, h => by
    simp only [allS, List.mem_append, List.mem_singleton] at h
    rcases h with (h | h) | rfl
    · have := allS_dep a x h; simp only [Sen.dep]; omega
    · have := allS_dep b x h; simp only [Sen.dep]; omega
    · exact Nat.le_refl _
theorem allS_len : ∀ (s : Sen), (allS s).length < 2 ^ s.dep
  | .tru => by simp [allS, Sen.dep]
  | .lig k => by simp [allS, Sen.dep]
  | .neg a => by
    have := allS_len a
    simp only [allS, Sen.dep, List.length_append, List.length_cons, List.length_nil, Nat.pow_succ]; omega
  | .con a b => by
    have h1 := allS_len a
    have h2 := allS_len b
    have h3 : 2 ^ a.dep ≤ 2 ^ max a.dep b.dep := Nat.pow_le_pow_right (by decide) (Nat.le_max_left _ _)
    have h4 : 2 ^ b.dep ≤ 2 ^ max a.dep b.dep := Nat.pow_le_pow_right (by decide) (Nat.le_max_right _ _)
    simp only [allS, Sen.dep, List.length_append, List.length_cons, List.length_nil, Nat.pow_succ]; omega
  | .dis a b => by
    have h1 := allS_len a
    have h2 := allS_len b
    have h3 : 2 ^ a.dep ≤ 2 ^ max a.dep b.dep := Nat.pow_le_pow_right (by decide) (Nat.le_max_left _ _)
    have h4 : 2 ^ b.dep ≤ 2 ^ max a.dep b.dep := Nat.pow_le_pow_right (by decide) (Nat.le_max_right _ _)
    simp only [allS, Sen.dep, List.length_append, List.length_cons, List.length_nil, Nat.pow_succ]; omega
  | .alw a => by
    have := allS_len a
    simp only [allS, Sen.dep, List.length_append, List.length_cons, List.length_nil, Nat.pow_succ]; omega
  | .atl a => by
    have := allS_len a
    simp only [allS, Sen.dep, List.length_append, List.length_cons, List.length_nil, Nat.pow_succ]; omega
  | .unt a b => by
    have h1 := allS_len a
    have h2 := allS_len b
    have h3 : 2 ^ a.dep ≤ 2 ^ max a.dep b.dep := Nat.pow_le_pow_right (by decide) (Nat.le_max_left _ _)
    have h4 : 2 ^ b.dep ≤ 2 ^ max a.dep b.dep := Nat.pow_le_pow_right (by decide) (Nat.le_max_right _ _)
    simp only [allS, Sen.dep, List.length_append, List.length_cons, List.length_nil, Nat.pow_succ]; omega
theorem allS_ps (s : Sen) : allS s = (s.ps.map allS).flatten ++ [s] := by cases s <;> simp [allS, Sen.ps]
/-- time parts, each once -/
def tpAdd (acc : List Sen) (s : Sen) : List Sen := if s.isT = true ∧ s ∉ acc then acc ++ [s] else acc
def tpL (s : Sen) : List Sen := (allS s).foldl tpAdd []
theorem tp_mem : ∀ (xs acc : List Sen) (x : Sen), x ∈ xs.foldl tpAdd acc ↔ x ∈ acc ∨ (x ∈ xs ∧ x.isT = true)
  | [], acc, x => by simp
  | y :: r, acc, x => by
    rw [List.foldl_cons, tp_mem r]
    unfold tpAdd
    split
    · rename_i h
      simp only [List.mem_append, List.mem_cons, List.not_mem_nil, or_false]
      constructor
      · rintro ((h1 | rfl) | h1)
        · exact .inl h1
        · exact .inr ⟨.inl rfl, h.1⟩
        · exact .inr ⟨.inr h1.1, h1.2⟩
      · rintro (h1 | ⟨rfl | h1, h2⟩)
        · exact .inl (.inl h1)
        · exact .inl (.inr rfl)
        · exact .inr ⟨h1, h2⟩
    · rename_i h
      constructor
      · rintro (h1 | h1)
        · exact .inl h1
        · exact .inr ⟨List.mem_cons_of_mem _ h1.1, h1.2⟩
      · rintro (h1 | ⟨h1, h2⟩)
        · exact .inl h1
        · rcases List.mem_cons.mp h1 with rfl | h1
          · by_cases z : x ∈ acc
            · exact .inl z
            · exact absurd ⟨h2, z⟩ h
          · exact .inr ⟨h1, h2⟩
theorem tpL_mem {s x : Sen} : x ∈ tpL s ↔ x ∈ allS s ∧ x.isT = true := by
  unfold tpL
  rw [tp_mem]
  simp
theorem allS_self (s : Sen) : s ∈ allS s := by rw [allS_ps]; simp
theorem allS_sub {s a x : Sen} (h : a ∈ s.ps) (hx : x ∈ allS a) : x ∈ allS s := by
  rw [allS_ps]
  simp only [List.mem_append, List.mem_flatten, List.mem_map]
  exact .inl ⟨_, ⟨a, h, rfl⟩, hx⟩
section
variable {P : Prog} {L : Nat} {h : AH} {Q : D → AH → Prop} {X : Xc}
theorem parts_i (hL : 1 ≤ L) (T : Las.TS P) {s : Sen} (q : Q (.tup (sL s.ps)) h) : wC P L "parts_of_sentence" [s.d] h Q X := by
  obtain ⟨n, rfl⟩ : ∃ n, L = n + 1 := ⟨L - 1, by omega⟩
  refine wC_i T.ps rfl ?_
  have c1 : ∀ (x : D) (xs : List D), cut (x :: xs) (some 1) none = xs := fun x xs => by
    have := Las.cutDr (x :: xs) 1
    simpa using this
  cases s <;> simp [Las.c_parts_of_sentence, List.replicate, Sen.d, Las.m1, Las.m2, in_tn, c1] <;> exact someQ_i q
theorem fl_take {s : Sen} {i : Nat} : (((s.ps.take i).map allS).flatten).length ≤ (allS s).length := by
  rw [allS_ps, List.length_append]
  have : ((s.ps.take i).map allS).flatten ++ ((s.ps.drop i).map allS).flatten = (s.ps.map allS).flatten := by
    rw [← List.flatten_append, ← List.map_append, List.take_append_drop]
  have := congrArg List.length this
  rw [List.length_append] at this
  omega
theorem all_i (T : Las.TS P) (s : Sen) {L : Nat} (hL : s.dep + 1 ≤ L) (hd : s.dep ≤ 20) {h : AH} {Q : D → AH → Prop} {X : Xc} (q : ∀ a, h a = none → Q (.loc a) (put h a (.lst (sL (allS s))))) : wC P L "all_in_sentence" [s.d] h Q X := by
  obtain ⟨n, rfl⟩ : ∃ n, L = n + 1 := ⟨L - 1, by omega⟩
  have al := allS_len s
  have pw : 2 ^ s.dep ≤ 2 ^ 20 := Nat.pow_le_pow_right (by decide) hd
  have d1 : 1 ≤ s.dep := by cases s <;> simp only [Sen.dep] <;> omega
  refine wC_i T.al rfl ?_
  simp [-v_rB, Las.c_all_in_sentence, List.replicate]
  intro a ha
  rw [v_rB]
  simp [-v_rB]
  refine parts_i (by omega) T ?_
  simp [-v_rB]
  refine for_f (fun i env h' => ∃ o, env = [some s.d, some (.loc a), o] ∧ Sub h h' ∧ h' a = some (.lst (sL (((s.ps.take i).map allS).flatten)))) ⟨none, rfl, sub_put ha, by simp [put_eq, sL]⟩ ?_ ?_
  · rintro i x env h' N hx ⟨o, rfl, sb, e⟩ hN
    unfold sL at hx
    rw [List.getElem?_map, Option.map_eq_some_iff] at hx
    obtain ⟨p, hp, rfl⟩ := hx
    have pm := List.mem_of_getElem? hp
    have pd := ps_dep pm
    simp
    refine all_i T p (by omega) (by omega) fun b hb => ?_
    have ne : a ≠ b := fun z => by rw [← z, e] at hb; exact absurd hb (by simp)
    have l1 := fl_take (s := s) (i := i + 1)
    rw [take_snoc hp] at l1
    simp only [List.map_append, List.map_cons, List.map_nil, List.flatten_append, List.flatten_cons, List.flatten_nil, List.append_nil, List.length_append] at l1
    rw [u_extl (xs := sL (((s.ps.take i).map allS).flatten)) (ys := sL (allS p)) (by rw [put_ne ne, e]) put_eq (by rw [sL_len, sL_len]; omega)]
    simp
    refine hN _ _ ⟨_, rfl, ?_, ?_⟩
    · exact ((sb.put (sub_no sb hb)).put ha)
    · rw [put_eq, take_snoc hp]
      simp [sL]
  · rintro env h' ⟨o, rfl, sb, e⟩
    rw [sL_len, List.take_length] at e
    have l1 := fl_take (s := s) (i := s.ps.length)
    rw [List.take_length] at l1
    simp
    rw [o_addlo e (by rw [sL_len]; simp only [List.length_cons, List.length_nil]; omega)]
    simp
    intro c hc
    have hc0 := sub_no sb hc
    refine someQ_s (sub_fresh sb hc0 hc) ?_
    have := q c hc0
    rw [allS_ps] at this
    simpa [sL] using this
termination_by s.dep
theorem tp_len {s : Sen} : (tpL s).length ≤ (allS s).length := by
  have key : ∀ (xs acc : List Sen), (xs.foldl tpAdd acc).length ≤ xs.length + acc.length := by
    intro xs
    induction xs with
    | nil => intro acc; simp
    | cons x r ih =>
      intro acc
      have := ih (tpAdd acc x)
      have e : (tpAdd acc x).length ≤ acc.length + 1 := by
        unfold tpAdd
        split <;> simp
      simp only [List.foldl_cons,
          List.length_cons]
      omega
  have := key (allS s) []
  simpa [tpL] using this
theorem tp_take {xs : List Sen} {i : Nat} : ((xs.take i).foldl tpAdd []).length ≤ xs.length := by
  have key : ∀ (xs acc : List Sen), (xs.foldl tpAdd acc).length ≤ xs.length + acc.length := by
    intro xs
    induction xs with
    | nil => intro acc; simp
    | cons x r ih =>
      intro acc
      have := ih (tpAdd acc x)
      have e : (tpAdd acc x).length ≤ acc.length + 1 := by
        unfold tpAdd
        split <;> simp
      simp only [List.foldl_cons,
          List.length_cons]
      omega
  have := key (xs.take i) []
  rw [List.length_take, List.length_nil] at this
  omega
theorem time_i (T : Las.TS P) {s : Sen} {L : Nat} (hL : s.dep + 2 ≤ L) (hd : s.dep ≤ 20) {h : AH} {Q : D → AH → Prop} {X : Xc} (q : Q (.tup (sL (tpL s))) h) : wC P L "time_parts" [s.d] h Q X := by
  obtain ⟨n, rfl⟩ : ∃ n, L = n + 1 := ⟨L - 1, by omega⟩
  have al := allS_len s
  have pw : 2 ^ s.dep ≤ 2 ^ 20 := Nat.pow_le_pow_right (by decide) hd
  refine wC_i T.tp rfl ?_
  simp [-v_rB, Las.c_time_parts, List.replicate]
  intro a ha
  rw [v_rB]
  simp [-v_rB]
  refine all_i T s (by omega) hd fun b hb => ?_
  have ne : a ≠ b := fun z => by rw [← z, put_eq] at hb; exact absurd hb (by simp)
  have hb0 : h b = none := by rw [put_ne (Ne.symm ne)] at hb; exact hb
  simp [-v_rB, put_eq]
  refine for_l (fun i env h' => ∃ o, env = [some s.d, some (.loc a), o] ∧ Sub h h' ∧ h' a = some (.lst (sL ((((allS s).take i).foldl tpAdd [])))) ∧ h' b = some (.lst (sL (allS s)))) ⟨none, rfl, (sub_put ha).put hb0, by simp [put_ne ne, put_eq, sL], put_eq⟩ (fun i env h' _ z => by obtain ⟨_, _, _, _, z⟩ := z; exact z) ?_ ?_
  · rintro i x env h' N hx ⟨o, rfl, sb, e, eb⟩ hN
    unfold sL at hx
    rw [List.getElem?_map, Option.map_eq_some_iff] at hx
    obtain ⟨p, hp, rfl⟩ := hx
    have pd := allS_dep s p (List.mem_of_getElem? hp)
    have mem40 : ∀ x ∈ ((allS s).take i).foldl tpAdd [], x.dep ≤ 40 := fun x hx => by
      rw [tp_mem] at hx
      have := allS_dep s x (List.mem_of_mem_take (hx.resolve_left (by simp)).1)
      omega
    have tl := tp_take (xs := allS s) (i := i)
    simp [T.gh, in_heads]
    rw [take_snoc hp, List.foldl_append] at hN
    simp only [List.foldl_cons, List.foldl_nil, tpAdd] at hN
    by_cases h1 : p.isT = true
    · simp [h1, LZ.k_ninS e mem40 (show p.dep ≤ 40 by omega)]
      by_cases h2 : p ∈ ((allS s).take i).foldl tpAdd []
      · simp [h2]
        rw [if_neg (fun z => z.2 h2)] at hN
        exact hN _ _ ⟨_, rfl, sb, e, eb⟩
      · simp [h2, e]
        rw [m_app e (by rw [sL_len]; omega)]
        simp
        rw [if_pos ⟨h1, h2⟩] at hN
        refine hN _ _ ⟨_, rfl, sb.put ha, by rw [put_eq]; simp [sL], by rw [put_ne (Ne.symm ne), eb]⟩
    · have h1' : p.isT = false := by simpa using h1
      simp [h1']
      rw [if_neg (fun z => h1 z.1)] at hN
      exact hN _ _ ⟨_, rfl, sb, e, eb⟩
  · rintro env h' ⟨o, rfl, sb, e, eb⟩
    rw [sL_len, List.take_length] at e
    simp [e]
    exact someQ_s sb q
def mom (s : Sen) : Bool := decide ((tpL s).length = 0)
theorem mom_i (T : Las.TS P) {s : Sen} {L : Nat} (hL : s.dep + 3 ≤ L) (hd : s.dep ≤ 20) {h : AH} {Q : D → AH → Prop} {X : Xc} (q : Q (.bl (mom s)) h) : wC P L "is_of_moment" [s.d] h Q X := by
  obtain ⟨n, rfl⟩ : ∃ n, L = n + 1 := ⟨L - 1, by omega⟩
  refine wC_i T.mo rfl ?_
  simp [Las.c_is_of_moment, List.replicate]
  refine time_i T (by omega) hd ?_
  simp
  refine someQ_i ?_
  simpa [mom] using q
theorem tp_filter : ∀ (xs acc ys : List Sen), xs.foldl tpAdd (acc ++ ys.filter fun y => !decide (y ∈ acc)) = acc ++ (xs.foldl tpAdd ys).filter fun y => !decide (y ∈ acc)
  | [], acc, ys => rfl
  | x :: r, acc, ys => by
    rw [List.foldl_cons, List.foldl_cons, ← tp_filter r]
    congr 1
    unfold tpAdd
    by_cases ht : x.isT = true
    · by_cases ha : x ∈ acc
      · rw [if_neg (fun z => z.2 (List.mem_append_left _ ha))]
        split
        · rw [List.filter_append]
          simp [ha]
        · rfl
      · by_cases hy : x ∈ ys
        · rw [if_neg (fun z => z.2 (List.mem_append_right _ (List.mem_filter.mpr ⟨hy, by simp [ha]⟩))), if_neg (fun z => z.2 hy)]
        · have nm : x ∉ acc ++ ys.filter fun y => !decide (y ∈ acc) := fun z => by
            rw [List.mem_append, List.mem_filter] at z
            rcases z with z | z
            · exact ha z
            · exact hy z.1
          rw [if_pos ⟨ht, nm⟩, if_pos ⟨ht, hy⟩, List.filter_append]
          simp [ha]
    · rw [if_neg (fun z => ht z.1), if_neg (fun z => ht z.1)]
theorem tp_step (xs acc : List Sen) : xs.foldl tpAdd acc = acc ++ (xs.foldl tpAdd []).filter fun y => !decide (y ∈ acc) := by
  have := tp_filter xs acc []
  simpa using this
theorem sen_cut {s : Sen} (h1 : s.hd ≠ .tru) (h2 : s.hd ≠ .lig) (h : AH) : slD (.v s.d) (some 1) none h = some (.v (.tup (sL s.ps))) := by
  have c1 : ∀ (x : D) (xs : List D), cut (x :: xs) (some 1) none = xs := fun x xs => by
    have := Las.cutDr (x :: xs) 1
    simpa using this
  cases s <;> simp [Sen.hd] at h1 h2 <;> simp [Sen.d, c1, sL, Sen.ps]
theorem inner_i (hL : 1 ≤ L) (T : Gue.TQ P) {s : Sen} (q : Q (.tup (sL s.ps)) h) : wC P L "_law_inner" [s.d] h Q X := by
  obtain ⟨n, rfl⟩ : ∃ n, L = n + 1 := ⟨L - 1, by omega⟩
  refine wC_i T.inn rfl ?_
  have c1 : ∀ (x : D) (xs : List D), cut (x :: xs) (some 1) none = xs := fun x xs => by
    have := Las.cutDr (x :: xs) 1
    simpa using this
  cases s <;> simp [Gue.c__law_inner, List.replicate, Sen.d, Las.m1, Las.m2, in_tn, c1] <;> exact someQ_i q
theorem times_i (T : Gue.TQ P) (s : Sen) {L : Nat} (hL : s.dep + 1 ≤ L) (hd : s.dep ≤ 20) {h : AH} {Q : D → AH → Prop} {X : Xc} (q : ∀ a, h a = none → Q (.loc a) (put h a (.lst (sL (tpL s))))) : wC P L "_law_times" [s.d] h Q X := by
  obtain ⟨n, rfl⟩ : ∃ n, L = n + 1 := ⟨L - 1, by omega⟩
  have al := allS_len s
  have pw : 2 ^ s.dep ≤ 2 ^ 20 := Nat.pow_le_pow_right (by decide) hd
  have d1 : 1 ≤ s.dep := by cases s <;> simp only [Sen.dep] <;> omega
  have hh : ∀ h' : AH, cmpD .inn (.v (.str (tn s.hd))) (.v (.tup [.str (tn .alw), .str (tn .atl), .str (tn .unt)])) h' = some s.isT := fun h' => in_heads
  refine wC_i T.tm rfl ?_
  simp [-v_rB, Gue.c__law_times, List.replicate]
  intro a ha
  rw [v_rB]
  simp [-v_rB]
  refine inner_i (by omega) T ?_
  simp [-v_rB]
  have tl : ∀ i, ((((s.ps.take i).map allS).flatten).foldl tpAdd []).length ≤ 2 ^ 20 := fun i => by
    have l1 := fl_take (s := s) (i := i)
    have l2 := tp_take (xs := ((s.ps.take i).map allS).flatten) (i := (((s.ps.take i).map allS).flatten).length)
    rw [List.take_length] at l2
    omega
  have mem40 : ∀ i, ∀ x ∈ (((s.ps.take i).map allS).flatten).foldl tpAdd [], x.dep ≤ 40 := fun i x hx => by
    rw [tp_mem] at hx
    have hx := (hx.resolve_left (by simp)).1
    rw [List.mem_flatten] at hx
    obtain ⟨L, hL, hx⟩ := hx
    obtain ⟨p, hp, rfl⟩ := List.mem_map.mp hL
    have := allS_dep p x hx
    have := ps_dep (List.mem_of_mem_take hp)
    omega
  refine for_f (fun i env h' => ∃ o b, env = [some s.d, some (.loc b), o, none, none] ∧ h b = none ∧ Sub h h' ∧ h' b = some (.lst (sL ((((s.ps.take i).map allS).flatten).foldl tpAdd [])))) ⟨none, a, rfl, ha, sub_put ha, by simp [Las.put_eq, sL]⟩ ?_ ?_
  · rintro i x env h' N hx ⟨o, b, rfl, hb, sb, e⟩ hN
    unfold sL at hx
    rw [List.getElem?_map, Option.map_eq_some_iff] at hx
    obtain ⟨p, hp, rfl⟩ := hx
    have pm := List.mem_of_getElem? hp
    have pd := ps_dep pm
    simp
    refine times_i T p (by omega) (by omega) fun c hc => ?_
    have ne : b ≠ c := fun z => by rw [← z, e] at hc; exact absurd hc (by simp)
    have e2 : put h' c (.lst (sL (tpL p))) b = some (.lst (sL ((((s.ps.take i).map allS).flatten).foldl tpAdd []))) := by rw [Las.put_ne ne, e]
    simp [c_l (Las.put_eq (h := h') (a := c) (o := .lst (sL (tpL p))))]
    have tlp := tp_len (s := p)
    have alp := allS_len p
    have pw2 : 2 ^ p.dep ≤ 2 ^ 20 := Nat.pow_le_pow_right (by decide) (by omega)
    refine compi_g Sen.d Sen.d (fun x => !decide (x ∈ (((s.ps.take i).map allS).flatten).foldl tpAdd [])) (tpL p) rfl Las.put_eq (by omega) (fun x hx k hk => ?_) ?_
    · have xd : x.dep ≤ 40 := by
        have := allS_dep p x (tpL_mem.mp hx).1
        omega
      have m40 := mem40 i
      revert hk e2 m40
      generalize (((s.ps.take i).map allS).flatten).foldl tpAdd [] = acc
      intro e2 hk m40
      simp [wipe]
      rw [k_ninS e2 m40 xd]
      simp
      by_cases z : x ∈ acc
      · simp [z] at hk ⊢
        exact hk
      · simp [z] at hk ⊢
        exact hk
    · have st := tp_step (allS p) ((((s.ps.take i).map allS).flatten).foldl tpAdd [])
      have tn := tl (i + 1)
      rw [take_snoc hp] at tn hN
      simp only [List.map_append, List.map_cons, List.map_nil, List.flatten_append, List.flatten_cons, List.flatten_nil, List.append_nil, List.foldl_append] at tn hN
      rw [st] at tn hN
      rw [List.length_append] at tn
      rw [o_addlo e2 (by rw [sL_len, List.length_map]; exact Nat.le_trans tn (by decide))]
      simp
      intro d hd'
      have hdc : h' d = none := sub_no (sub_put hc) hd'
      refine hN _ _ ⟨_, d, rfl, sub_no sb hdc, ?_, ?_⟩
      · exact (fun x u hx => (sub_put hd') _ _ ((sub_put hc) _ _ (sb _ _ hx)))
      · rw [Las.put_eq]
        simp [sL, tpL]
  · rintro env h' ⟨o, b, rfl, hb, sb, e⟩
    rw [sL_len, List.take_length] at e
    have tl2 := tl s.ps.length
    have m40 := mem40 s.ps.length
    rw [List.take_length] at tl2 m40
    have fin : tpL s = tpAdd (((s.ps.map allS).flatten).foldl tpAdd []) s := by
      unfold tpL
      rw [allS_ps, List.foldl_append]
      rfl
    generalize ((s.ps.map allS).flatten).foldl tpAdd [] = acc at e fin tl2 m40
    have qq : ∀ h2, Sub h h2 → h2 b = some (.lst (sL (tpL s))) → someQ Q (.loc b) h2 := fun h2 s2 e2 => by
      refine ⟨put h b (.lst (sL (tpL s))), fun x u hx => ?_, q b hb⟩
      by_cases z : x = b
      · subst z; rw [Las.put_eq] at hx; rw [e2, ← hx]
      · rw [Las.put_ne z] at hx; exact s2 x u hx
    simp [Las.m6, Las.m7, Las.m8, hh]
    by_cases ht : s.isT = true
    · simp [ht]
      rw [k_ninS e m40 (by omega)]
      by_cases hm : s ∈ acc
      · simp [hm]
        unfold tpAdd at fin
        rw [if_neg (fun z => z.2 hm)] at fin
        exact qq h' sb (by rw [fin]; exact e)
      · simp [hm, e]
        rw [m_app e (by rw [sL_len]; omega)]
        simp
        unfold tpAdd at fin
        rw [if_pos ⟨ht, hm⟩] at fin
        exact qq _ (sb.put hb) (by rw [Las.put_eq, fin]; simp [sL])
    · have hf : s.isT = false := by simpa using ht
      simp [hf]
      unfold tpAdd at fin
      rw [if_neg (fun z => ht z.1)] at fin
      exact qq h' sb (by rw [fin]; exact e)
termination_by s.dep
end
end LZ
end Py
namespace Py
open PySem (Str)
namespace Snt
def c_lights_in_sentence : Fn := ⟨1, 3, (.cons (.ret (.b1 .tup (.b1 .sset (.compi (.nm 2) (.seq (.call "all_in_sentence" (.cons (.var 0) .nil))) [1, 2] (.cmp .eq (.ix (.var 2) (.lit (.int 0))) (.lit (.str "light"))) (.ix (.var 2) (.lit (.int 1))))))) .nil)⟩
def c_check_sentence : Fn := ⟨2, 4, (.cons (.ifs (.not (.b1 .all (.comp (.nm 3) (.seq (.call "lights_in_sentence" (.cons (.var 0) .nil))) [2, 3] (.chain .le .lt (.lit (.int 0)) (.var 3) (.var 1))))) (.cons (.rais "InvalidSentence") .nil) .nil) .nil)⟩
def c_check_moment_sentence : Fn := ⟨2, 2, (.cons (.expr (.call "check_sentence" (.cons (.var 0) (.cons (.var 1) .nil)))) (.cons (.ifs (.not (.call "is_of_moment" (.cons (.var 0) .nil))) (.cons (.rais "InvalidSentence") .nil) .nil) .nil))⟩
def c_depth_of_sentence : Fn := ⟨1, 3, (.cons (.ret (.bin .add (.lit (.int 1)) (.b1 .max (.bin .add (.lst (.cons (.lit (.int 0)) .nil)) (.comp (.nm 2) (.seq (.call "parts_of_sentence" (.cons (.var 0) .nil))) [1, 2] (.call "depth_of_sentence" (.cons (.var 2) .nil))))))) .nil)⟩
def c_told_by_guess : Fn := ⟨4, 4, (.cons (.ret (.call "told_by_bits" (.cons (.var 0) (.cons (.var 2) (.cons (.call "time_parts" (.cons (.var 1) .nil)) (.cons (.var 3) .nil)))))) .nil)⟩
def c_joined_sentences : Fn := ⟨2, 4, (.cons (.asg (.nm 2) (.ite (.cmp .eq (.var 0) (.lit (.str "and"))) (.glo "TRUE") (.tup (.cons (.lit (.str "not")) (.cons (.glo "TRUE") .nil))))) (.cons (.for_ (.nm 3) (.seq (.sls (.var 1) .no .no (-1))) (.cons (.asg (.nm 2) (.tup (.cons (.var 0) (.cons (.var 3) (.cons (.var 2) .nil))))) .nil)) (.cons (.ret (.var 2)) .nil)))⟩
def c_outer_time_parts : Fn := ⟨1, 3, (.cons (.ifs (.cmp .inn (.ix (.var 0) (.lit (.int 0))) (.glo "TIME_HEADS")) (.cons (.ret (.lst (.cons (.var 0) .nil))) .nil) .nil) (.cons (.asg (.nm 1) (.lst .nil)) (.cons (.for_ (.nm 2) (.seq (.call "parts_of_sentence" (.cons (.var 0) .nil))) (.cons (.aug 1 .add (.call "outer_time_parts" (.cons (.var 2) .nil))) .nil)) (.cons (.ret (.var 1)) .nil))))⟩
def c_outer_lights : Fn := ⟨1, 3, (.cons (.ifs (.cmp .eq (.ix (.var 0) (.lit (.int 0))) (.lit (.str "light"))) (.cons (.ret (.lst (.cons (.ix (.var 0) (.lit (.int 1))) .nil))) .nil) .nil) (.cons (.asg (.nm 1) (.lst .nil)) (.cons (.ifs (.cmp .nin (.ix (.var 0) (.lit (.int 0))) (.glo "TIME_HEADS")) (.cons (.for_ (.nm 2) (.seq (.call "parts_of_sentence" (.cons (.var 0) .nil))) (.cons (.aug 1 .add (.call "outer_lights" (.cons (.var 2) .nil))) .nil)) .nil) .nil) (.cons (.ret (.var 1)) .nil))))⟩
def c_each_sentence_once : Fn := ⟨1, 3, (.cons (.asg (.nm 1) (.lst .nil)) (.cons (.for_ (.nm 2) (.seq (.var 0)) (.cons (.ifs (.cmp .nin (.var 2) (.var 1)) (.cons (.expr (.mt .append (.var 1) (.cons (.var 2) .nil))) .nil) .nil) .nil)) (.cons (.ret (.var 1)) .nil)))⟩
def c_follows_by_bits : Fn := ⟨2, 7, (.cons (.asg (.nm 2) (.b1 .tup (.call "each_sentence_once" (.cons (.bin .add (.call "outer_time_parts" (.cons (.var 0) .nil)) (.call "outer_time_parts" (.cons (.var 1) .nil))) .nil)))) (.cons (.asg (.nm 3) (.bin .add (.b1 .max (.bin .add (.bin .add (.lst (.cons (.neg (.lit (.int 1))) .nil)) (.call "outer_lights" (.cons (.var 0) .nil))) (.call "outer_lights" (.cons (.var 1) .nil)))) (.lit (.int 1)))) (.cons (.for_ (.nm 4) (.seq (.call "rows_of_bits" (.cons (.bin .add (.var 3) (.b1 .len (.var 2))) .nil))) (.cons (.asg (.tp (.cons (.nm 5) (.cons (.nm 6) .nil))) (.tup (.cons (.sl (.var 4) .no (.so (.var 3))) (.cons (.sl (.var 4) (.so (.var 3)) .no) .nil)))) (.cons (.ifs (.and (.call "told_by_bits" (.cons (.var 0) (.cons (.var 5) (.cons (.var 2) (.cons (.var 6) .nil))))) (.not (.call "told_by_bits" (.cons (.var 1) (.cons (.var 5) (.cons (.var 2) (.cons (.var 6) .nil))))))) (.cons (.ret (.lit (.bl false))) .nil) .nil) .nil))) (.cons (.ret (.lit (.bl true))) .nil))))⟩
def c__law_lights_in : Fn := ⟨1, 3, (.cons (.ifs (.cmp .eq (.ix (.var 0) (.lit (.int 0))) (.lit (.str "light"))) (.cons (.ret (.lst (.cons (.ix (.var 0) (.lit (.int 1))) .nil))) .nil) .nil) (.cons (.asg (.nm 1) (.lst .nil)) (.cons (.for_ (.nm 2) (.seq (.call "_law_inner" (.cons (.var 0) .nil))) (.cons (.asg (.nm 1) (.bin .add (.var 1) (.call "_law_lights_in" (.cons (.var 2) .nil)))) .nil)) (.cons (.ret (.var 1)) .nil))))⟩
def c__law_depth : Fn := ⟨1, 3, (.cons (.ret (.bin .add (.lit (.int 1)) (.b1 .max (.bin .add (.lst (.cons (.lit (.int 0)) .nil)) (.comp (.nm 2) (.seq (.call "_law_inner" (.cons (.var 0) .nil))) [1, 2] (.call "_law_depth" (.cons (.var 2) .nil))))))) .nil)⟩
def c__law_is_refused : Fn := ⟨3, 4, (.cons (.tryi (.cons (.ifs (.var 2) (.cons (.expr (.call "check_moment_sentence" (.cons (.var 0) (.cons (.var 1) .nil)))) .nil) (.cons (.expr (.call "check_sentence" (.cons (.var 0) (.cons (.var 1) .nil)))) .nil)) .nil) "TickError" [(true, "InvalidSentence"), (true, "ValueError"), (false, "InvalidWorld")]) (.cons (.ret (.lit (.bl false))) .nil))⟩
def c__law_is_checked : Fn := ⟨2, 7, (.cons (.asg (.nm 2) (.cmp .eq (.b1 .len (.compi (.nm 6) (.seq (.call "_law_lights_in" (.cons (.var 0) .nil))) [5, 6] (.or (.cmp .lt (.var 6) (.lit (.int 0))) (.cmp .ge (.var 6) (.var 1))) (.var 6))) (.lit (.int 0)))) (.cons (.for_ (.nm 3) (.seq (.lst (.cons (.lit (.bl false)) (.cons (.lit (.bl true)) .nil)))) (.cons (.ifs (.and (.var 2) (.or (.not (.var 3)) (.cmp .eq (.b1 .len (.call "_law_times" (.cons (.var 0) .nil))) (.lit (.int 0))))) (.cons (.asg (.nm 4) (.ite (.var 3) (.call "check_moment_sentence" (.cons (.var 0) (.cons (.var 1) .nil))) (.call "check_sentence" (.cons (.var 0) (.cons (.var 1) .nil))))) (.cons (.ifs (.isc true (.var 4) .non) (.cons (.ret (.lit (.bl false))) .nil) .nil) .nil)) (.cons (.ifs (.not (.call "_law_is_refused" (.cons (.var 0) (.cons (.var 1) (.cons (.var 3) .nil))))) (.cons (.ret (.lit (.bl false))) .nil) .nil) .nil)) .nil)) (.cons (.ret (.lit (.bl true))) .nil)))⟩
def c__law_is_told : Fn := ⟨2, 5, (.cons (.asg (.nm 2) (.call "_law_times" (.cons (.var 0) .nil))) (.cons (.ifs (.or (.not (.call "_law_same" (.cons (.call "time_parts" (.cons (.var 0) .nil)) (.cons (.b1 .tup (.var 2)) .nil)))) (.not (.call "_law_same" (.cons (.call "lights_in_sentence" (.cons (.var 0) .nil)) (.cons (.b1 .tup (.b1 .sset (.call "_law_lights_in" (.cons (.var 0) .nil)))) .nil))))) (.cons (.ret (.lit (.bl false))) .nil) .nil) (.cons (.ifs (.or (.not (.call "_law_same" (.cons (.call "depth_of_sentence" (.cons (.var 0) .nil)) (.cons (.call "_law_depth" (.cons (.var 0) .nil)) .nil)))) (.not (.call "_law_same" (.cons (.call "is_of_moment" (.cons (.var 0) .nil)) (.cons (.cmp .eq (.b1 .len (.var 2)) (.lit (.int 0))) .nil))))) (.cons (.ret (.lit (.bl false))) .nil) .nil) (.cons (.for_ (.nm 3) (.seq (.call "_law_bits" (.cons (.var 1) .nil))) (.cons (.ifs (.and (.cmp .eq (.b1 .len (.var 2)) (.lit (.int 0))) (.not (.call "_law_same" (.cons (.call "holds_now" (.cons (.var 0) (.cons (.var 3) .nil))) (.cons (.call "_law_now" (.cons (.var 0) (.cons (.var 3) (.cons (.lst .nil) (.cons (.tup .nil) .nil))))) .nil))))) (.cons (.ret (.lit (.bl false))) .nil) .nil) (.cons (.for_ (.nm 4) (.seq (.call "_law_bits" (.cons (.b1 .len (.var 2)) .nil))) (.cons (.ifs (.not (.call "_law_same" (.cons (.call "told_by_guess" (.cons (.var 0) (.cons (.var 0) (.cons (.var 3) (.cons (.var 4) .nil))))) (.cons (.call "_law_now" (.cons (.var 0) (.cons (.var 3) (.cons (.var 2) (.cons (.var 4) .nil))))) .nil)))) (.cons (.ret (.lit (.bl false))) .nil) .nil) .nil)) .nil))) (.cons (.ret (.lit (.bl true))) .nil)))))⟩
def c__law_outer : Fn := ⟨1, 5, (.cons (.ifs (.cmp .inn (.ix (.var 0) (.lit (.int 0))) (.tup (.cons (.lit (.str "always")) (.cons (.lit (.str "atlast")) (.cons (.lit (.str "until")) .nil))))) (.cons (.ret (.lst (.cons (.var 0) .nil))) .nil) .nil) (.cons (.asg (.nm 1) (.lst .nil)) (.cons (.for_ (.nm 2) (.seq (.call "_law_inner" (.cons (.var 0) .nil))) (.cons (.asg (.nm 1) (.bin .add (.var 1) (.compi (.nm 4) (.seq (.call "_law_outer" (.cons (.var 2) .nil))) [3, 4] (.cmp .nin (.var 4) (.var 1)) (.var 4)))) .nil)) (.cons (.ret (.var 1)) .nil))))⟩
def c__law_follows : Fn := ⟨3, 8, (.cons (.asg (.nm 3) (.call "_law_outer" (.cons (.var 0) .nil))) (.cons (.asg (.nm 3) (.bin .add (.var 3) (.compi (.nm 7) (.seq (.call "_law_outer" (.cons (.var 1) .nil))) [6, 7] (.cmp .nin (.var 7) (.var 3)) (.var 7)))) (.cons (.for_ (.nm 4) (.seq (.call "_law_bits" (.cons (.var 2) .nil))) (.cons (.for_ (.nm 5) (.seq (.call "_law_bits" (.cons (.b1 .len (.var 3)) .nil))) (.cons (.ifs (.and (.call "_law_now" (.cons (.var 0) (.cons (.var 4) (.cons (.var 3) (.cons (.var 5) .nil))))) (.not (.call "_law_now" (.cons (.var 1) (.cons (.var 4) (.cons (.var 3) (.cons (.var 5) .nil))))))) (.cons (.ret (.lit (.bl false))) .nil) .nil) .nil)) .nil)) (.cons (.ret (.lit (.bl true))) .nil))))⟩
def c_law : Fn := ⟨1, 16, (.cons (.asg (.nm 1) (.call "_law_draws" (.cons (.var 0) (.cons (.lit (.int 320)) .nil)))) (.cons (.asg (.nm 2) (.call "_law_cell" (.cons (.var 0) .nil))) (.cons (.asg (.nm 3) (.bin .add (.lit (.int 1)) (.call "_law_take" (.cons (.var 1) (.cons (.lit (.int 3)) .nil))))) (.cons (.asg (.nm 4) (.call "_law_sentence" (.cons (.var 1) (.cons (.var 3) (.cons (.lit (.int 5)) (.cons (.lit (.int 4)) .nil)))))) (.cons (.asg (.nm 5) (.call "_law_moment" (.cons (.var 1) (.cons (.var 3) (.cons (.lit (.int 4)) .nil))))) (.cons (.for_ (.nm 6) (.seq (.lst (.cons (.var 4) (.cons (.var 5) .nil)))) (.cons (.ifs (.or (.not (.call "_law_is_told" (.cons (.var 6) (.cons (.var 3) .nil)))) (.or (.not (.call "_law_is_checked" (.cons (.var 6) (.cons (.var 3) .nil)))) (.not (.call "_law_is_checked" (.cons (.var 6) (.cons (.bin .sub (.var 3) (.lit (.int 1))) .nil)))))) (.cons (.ret (.lit (.bl false))) .nil) .nil) .nil)) (.cons (.for_ (.nm 7) (.seq (.lst (.cons (.var 3) (.cons (.neg (.lit (.int 1))) (.cons (.bin .add (.var 3) (.b1 .abs (.var 2))) .nil))))) (.cons (.ifs (.not (.call "_law_is_checked" (.cons (.tup (.cons (.lit (.str "or")) (.cons (.var 4) (.cons (.tup (.cons (.lit (.str "not")) (.cons (.tup (.cons (.lit (.str "light")) (.cons (.var 7) .nil))) .nil))) .nil)))) (.cons (.var 3) .nil)))) (.cons (.ret (.lit (.bl false))) .nil) .nil) .nil)) (.cons (.asg (.nm 8) (.lst (.cons (.var 4) (.cons (.var 5) (.cons (.tup (.cons (.lit (.str "or")) (.cons (.var 5) (.cons (.var 4) .nil)))) (.cons (.tup (.cons (.lit (.str "and")) (.cons (.var 4) (.cons (.var 5) .nil)))) (.cons (.tup (.cons (.lit (.str "not")) (.cons (.var 4) .nil))) (.cons (.tup (.cons (.lit (.str "always")) (.cons (.var 5) .nil))) (.cons (.call "_law_sentence" (.cons (.var 1) (.cons (.var 3) (.cons (.lit (.int 4)) (.cons (.lit (.int 2)) .nil))))) .nil))))))))) (.cons (.for_ (.nm 9) (.rng1 (.lit (.int 3))) (.cons (.asg (.tp (.cons (.nm 10) (.cons (.nm 11) .nil))) (.tup (.cons (.ix (.var 8) (.call "_law_take" (.cons (.var 1) (.cons (.lit (.int 7)) .nil)))) (.cons (.ix (.var 8) (.call "_law_take" (.cons (.var 1) (.cons (.lit (.int 7)) .nil)))) .nil)))) (.cons (.ifs (.not (.call "_law_same" (.cons (.call "follows_by_bits" (.cons (.var 10) (.cons (.var 11) .nil))) (.cons (.call "_law_follows" (.cons (.var 10) (.cons (.var 11) (.cons (.var 3) .nil)))) .nil)))) (.cons (.ret (.lit (.bl false))) .nil) .nil) .nil))) (.cons (.asg (.tp (.cons (.nm 12) (.cons (.nm 13) .nil))) (.tup (.cons (.tup (.cons (.lit (.str "light")) (.cons (.lit (.int 0)) .nil))) (.cons (.tup (.cons (.lit (.str "light")) (.cons (.lit (.int 1)) .nil))) .nil)))) (.cons (.ifs (.or (.not (.call "_law_same" (.cons (.call "joined_sentences" (.cons (.lit (.str "and")) (.cons (.tup (.cons (.var 12) (.cons (.var 13) .nil))) .nil))) (.cons (.tup (.cons (.lit (.str "and")) (.cons (.var 12) (.cons (.tup (.cons (.lit (.str "and")) (.cons (.var 13) (.cons (.tup (.cons (.lit (.str "true")) .nil)) .nil)))) .nil)))) .nil)))) (.not (.call "_law_same" (.cons (.call "joined_sentences" (.cons (.lit (.str "or")) (.cons (.tup (.cons (.var 12) .nil)) .nil))) (.cons (.tup (.cons (.lit (.str "or")) (.cons (.var 12) (.cons (.tup (.cons (.lit (.str "not")) (.cons (.tup (.cons (.lit (.str "true")) .nil)) .nil))) .nil)))) .nil))))) (.cons (.ret (.lit (.bl false))) .nil) .nil) (.cons (.ifs (.or (.not (.call "_law_same" (.cons (.call "joined_sentences" (.cons (.lit (.str "or")) (.cons (.tup .nil) .nil))) (.cons (.tup (.cons (.lit (.str "not")) (.cons (.tup (.cons (.lit (.str "true")) .nil)) .nil))) .nil)))) (.not (.call "_law_same" (.cons (.call "joined_sentences" (.cons (.lit (.str "and")) (.cons (.tup .nil) .nil))) (.cons (.tup (.cons (.lit (.str "true")) .nil)) .nil))))) (.cons (.ret (.lit (.bl false))) .nil) .nil) (.cons (.asg (.nm 14) (.tup (.cons (.lit (.str "until")) (.cons (.tup (.cons (.lit (.str "atlast")) (.cons (.var 13) .nil))) (.cons (.tup (.cons (.lit (.str "and")) (.cons (.tup (.cons (.lit (.str "always")) (.cons (.var 12) .nil))) (.cons (.tup (.cons (.lit (.str "atlast")) (.cons (.var 13) .nil))) .nil)))) .nil))))) (.cons (.ifs (.or (.not (.call "_law_same" (.cons (.call "time_parts" (.cons (.var 14) .nil)) (.cons (.tup (.cons (.tup (.cons (.lit (.str "atlast")) (.cons (.var 13) .nil))) (.cons (.tup (.cons (.lit (.str "always")) (.cons (.var 12) .nil))) (.cons (.var 14) .nil)))) .nil)))) (.not (.call "_law_same" (.cons (.call "told_by_guess" (.cons (.tup (.cons (.lit (.str "not")) (.cons (.tup (.cons (.lit (.str "always")) (.cons (.var 12) .nil))) .nil))) (.cons (.var 14) (.cons (.tup (.cons (.lit (.int 0)) (.cons (.lit (.int 1)) .nil))) (.cons (.tup (.cons (.lit (.int 1)) (.cons (.lit (.int 0)) (.cons (.lit (.int 1)) .nil)))) .nil))))) (.cons (.lit (.bl true)) .nil))))) (.cons (.ret (.lit (.bl false))) .nil) .nil) (.cons (.asg (.nm 15) (.lst (.cons (.call "follows_by_bits" (.cons (.tup (.cons (.lit (.str "always")) (.cons (.var 12) .nil))) (.cons (.var 12) .nil))) (.cons (.call "follows_by_bits" (.cons (.tup (.cons (.lit (.str "and")) (.cons (.var 12) (.cons (.tup (.cons (.lit (.str "always")) (.cons (.var 13) .nil))) .nil)))) (.cons (.tup (.cons (.lit (.str "or")) (.cons (.tup (.cons (.lit (.str "always")) (.cons (.var 13) .nil))) (.cons (.tup (.cons (.lit (.str "light")) (.cons (.lit (.int 3)) .nil))) .nil)))) .nil))) .nil)))) (.cons (.asg (.nm 15) (.bin .add (.var 15) (.lst (.cons (.call "follows_by_bits" (.cons (.var 12) (.cons (.tup (.cons (.lit (.str "true")) .nil)) .nil))) (.cons (.call "follows_by_bits" (.cons (.tup (.cons (.lit (.str "true")) .nil)) (.cons (.var 12) .nil))) (.cons (.call "follows_by_bits" (.cons (.tup (.cons (.lit (.str "or")) (.cons (.tup (.cons (.lit (.str "not")) (.cons (.tup (.cons (.lit (.str "true")) .nil)) .nil))) (.cons (.tup (.cons (.lit (.str "atlast")) (.cons (.var 12) .nil))) .nil)))) (.cons (.tup (.cons (.lit (.str "atlast")) (.cons (.var 12) .nil))) .nil))) .nil)))))) (.cons (.ret (.and (.call "_law_same" (.cons (.b1 .tup (.var 15)) (.cons (.tup (.cons (.lit (.bl false)) (.cons (.lit (.bl true)) (.cons (.lit (.bl true)) (.cons (.lit (.bl false)) (.cons (.lit (.bl true)) .nil)))))) .nil))) (.call "_law_is_refused" (.cons (.tup (.cons (.lit (.str "until")) (.cons (.var 12) (.cons (.tup (.cons (.lit (.str "light")) (.cons (.lit (.int 1)) .nil))) .nil)))) (.cons (.lit (.int 1)) (.cons (.lit (.bl false)) .nil)))))) .nil)))))))))))))))))⟩
theorem n_sso {xs : List Int} {h : AH} (hl : xs.length < 64) : b1D .sset (.o (.lst (iL xs))) h = some (.o (.lst (iL (sortI (ddI xs))))) := by
  show ssetI (iL xs) = _
  unfold ssetI
  rw [intsL_iL, Option.bind_some, if_pos hl]
  rfl
theorem n_ssl {a : Nat} {xs : List Int} {h : AH} (e : h a = some (.lst (iL xs))) (hl : xs.length < 64) : b1D .sset (.v (.loc a)) h = some (.o (.lst (iL (sortI (ddI xs))))) := by
  have : b1D .sset (.v (.loc a)) h = ssetI (iL xs) := by
    show (match lsV (.v (.loc a)) h with | some xs => ssetI xs | none => none) = _
    rw [l_loc e]
  rw [this]
  unfold ssetI
  rw [intsL_iL, Option.bind_some, if_pos hl]
  rfl
theorem ss_mem {xs : List Int} {y : Int} : y ∈ sortI (ddI xs) ↔ y ∈ xs := by rw [(sortI_perm _).mem_iff, ddI_in]
theorem insI_len (x : Int) : ∀ xs : List Int, (insI x xs).length = xs.length + 1
  | [] => rfl
  | y :: r => by
    unfold insI
    split
    · rfl
    · rw [List.length_cons, insI_len x r, List.length_cons]
theorem sortI_len : ∀ xs : List Int, (sortI xs).length = xs.length
  | [] => rfl
  | x :: r => by
    show (insI x (sortI r)).length = _
    rw [insI_len, sortI_len r, List.length_cons]
open LZ
/-- the lights in a sentence -/
def ligL : LZ.Sen → List Int
  | .tru => [] | .lig k => [k] | .neg a => ligL a | .con a b => ligL a ++ ligL b | .dis a b => ligL a ++ ligL b | .alw a => ligL a | .atl a => ligL a | .unt a b => ligL a ++ ligL b
def ligK : LZ.Sen → Int
  | .lig k => k | _ => 0
def isLg : LZ.Sen → Bool
  | .lig _ => true | _ => false
theorem isLg_hd (x : LZ.Sen) : isLg x = decide (x.hd = .lig) := by cases x <;> simp [isLg, Sen.hd]
theorem lig_all : ∀ s : LZ.Sen, ((allS s).filter isLg).map ligK = ligL s
  | .tru => rfl
  | .lig k => rfl
  | .neg a => by
    rw [show allS (.neg a) = allS a ++ [.neg a] from rfl, List.filter_append, List.map_append, lig_all a]
    simp [ligL, isLg]
  | .con a b => by
    rw [show allS (.con a b) = allS a ++ allS b ++ [.con a b] from rfl, List.filter_append, List.filter_append, List.map_append, List.map_append, lig_all a, lig_all b]
    simp [ligL, isLg]
  | .dis a b => by
    rw [show allS (.dis a b) = allS a ++ allS b ++ [.dis a b] from rfl, List.filter_append, List.filter_append, List.map_append, List.map_append, lig_all a, lig_all b]
    simp [ligL, isLg]
  | .alw a => by
    rw [show allS (.alw a) = allS a ++ [.alw a] from rfl, List.filter_append, List.map_append, lig_all a]
    simp [ligL, isLg]
  | .atl a => by
    rw [show allS (.atl a) = allS a ++ [.atl a] from rfl, List.filter_append, List.map_append, lig_all a]
    simp [ligL, isLg]
  | .unt a b => by
    rw [show allS (.unt a b) = allS a ++ allS b ++ [.unt a b] from rfl, List.filter_append, List.filter_append, List.map_append, List.map_append, lig_all a, lig_all b]
    simp [ligL, isLg]
theorem lig_len : ∀ s : LZ.Sen, 2 * (ligL s).length ≤ 2 ^ s.dep := by
  have two : ∀ {x y d1 d2 : Nat}, 2 * x ≤ 2 ^ d1 → 2 * y ≤ 2 ^ d2 → 2 * (x + y) ≤ 2 ^ (max d1 d2 + 1) := fun {x y d1 d2} h1 h2 => by
    have a := Nat.pow_le_pow_right (show 0 < 2 by decide) (Nat.le_max_left d1 d2)
    have b := Nat.pow_le_pow_right (show 0 < 2 by decide) (Nat.le_max_right d1 d2)
    rw [Nat.pow_succ]; omega
  have one : ∀ {x d : Nat}, 2 * x ≤ 2 ^ d → 2 * x ≤ 2 ^ (d + 1) := fun {x d} h => by rw [Nat.pow_succ]; omega
  intro s
  induction s with
  | tru => simp [ligL]
  | lig k => simp [ligL, Sen.dep]
  | neg a iha => exact one iha
  | alw a iha => exact one iha
  | atl a iha => exact one iha
  | con a b iha ihb => simp only [ligL, Sen.dep, List.length_append]; exact two iha ihb
  | dis a b iha ihb => simp only [ligL, Sen.dep, List.length_append]; exact two iha ihb
  | unt a b iha ihb => simp only [ligL, Sen.dep, List.length_append]; exact two iha ihb
structure SC (P : Prog) : Prop where
  li : P.fn "lights_in_sentence" = some c_lights_in_sentence
  ck : P.fn "check_sentence" = some c_check_sentence
  cm : P.fn "check_moment_sentence" = some c_check_moment_sentence
  dp : P.fn "depth_of_sentence" = some c_depth_of_sentence
  tg : P.fn "told_by_guess" = some c_told_by_guess
  jo : P.fn "joined_sentences" = some c_joined_sentences
  op : P.fn "outer_time_parts" = some c_outer_time_parts
  ol : P.fn "outer_lights" = some c_outer_lights
  eo : P.fn "each_sentence_once" = some c_each_sentence_once
  fo : P.fn "follows_by_bits" = some c_follows_by_bits
  rb : P.fn "rows_of_bits" = some Gue.c_rows_of_bits
  gT : P.gl "TRUE" = some (.tup [.str (Las.tn .tru)])
structure SK (P : Prog) : Prop where
  li : P.fn "_law_lights_in" = some c__law_lights_in
  dp : P.fn "_law_depth" = some c__law_depth
  ou : P.fn "_law_outer" = some c__law_outer
  fo : P.fn "_law_follows" = some c__law_follows
section
variable {P : Prog} {L : Nat} {h : AH} {Q : D → AH → Prop} {X : Xc}
theorem lights_i (S : Las.TS P) (C : SC P) {s : LZ.Sen} (hd : s.dep ≤ 6) (hL : s.dep + 2 ≤ L) (q : Q (.tup (iL (sortI (ddI (ligL s))))) h) : wC P L "lights_in_sentence" [s.d] h Q X := by
  obtain ⟨n, rfl⟩ : ∃ n, L = n + 1 := ⟨L - 1, by omega⟩
  have ll := lig_len s
  have p6 : 2 ^ s.dep ≤ 2 ^ 6 := Nat.pow_le_pow_right (by decide) hd
  have al := LZ.allS_len s
  refine wC_i C.li rfl ?_
  simp [c_lights_in_sentence, List.replicate]
  refine LZ.all_i S s (by omega) (by omega) fun a ha => ?_
  simp [c_l (Las.put_eq (h := h) (a := a) (o := .lst (LZ.sL (allS s))))]
  refine compi_g LZ.Sen.d (fun x => .int (ligK x)) isLg (allS s) rfl Las.put_eq (by omega) (fun x hx k hk => ?_) ?_
  · simp [wipe, Las.m2]
    rw [isLg_hd] at hk
    by_cases z : x.hd = .lig
    · simp [z] at hk ⊢
      cases x <;> simp [Sen.hd] at z
      simp [Sen.d]
      exact hk
    · simp [z] at hk ⊢
      exact hk
  · rw [show (((allS s).filter isLg).map fun x => D.int (ligK x)) = iL (ligL s) by rw [← lig_all s]; simp [iL], n_sso (by omega)]
    simp
    exact someQ_s (sub_put ha) q
/-- all lights are there -/
def LOk (many : Int) (s : LZ.Sen) : Bool := (ligL s).all fun k => decide (0 ≤ k ∧ k < many)
theorem check_i (S : Las.TS P) (C : SC P) {s : LZ.Sen} (hd : s.dep ≤ 6) (hL : s.dep + 3 ≤ L) {many : Int} (q : LOk many s = true → Q .non h) (qx : LOk many s = false → X "InvalidSentence" h) : wC P L "check_sentence" [s.d, .int many] h Q X := by
  obtain ⟨n, rfl⟩ : ∃ n, L = n + 1 := ⟨L - 1, by omega⟩
  have ll := lig_len s
  have p6 : 2 ^ s.dep ≤ 2 ^ 6 := Nat.pow_le_pow_right (by decide) hd
  have dl := ddI_le (ligL s)
  have sl := sortI_len (ddI (ligL s))
  refine wC_i C.ck rfl ?_
  simp [c_check_sentence, List.replicate]
  refine lights_i S C hd (by omega) ?_
  simp
  refine comp_g D.int (fun k => .bl (decide (0 ≤ k ∧ k < many))) (sortI (ddI (ligL s))) rfl trivial (by omega) (fun k hk kk hkk => ?_) ?_
  · simp [wipe]
    by_cases z : 0 ≤ k
    · simp [z] at hkk ⊢
      exact hkk
    · simp [z] at hkk ⊢
      exact hkk
  · rw [all_p]
    have e : allP (fun k => decide (0 ≤ k ∧ k < many)) (sortI (ddI (ligL s))) = LOk many s := by
      rw [Bool.eq_iff_iff, allP_iff, LOk, List.all_eq_true]
      exact ⟨fun h k hk => h k (ss_mem.mpr hk), fun h k hk => h k (ss_mem.mp hk)⟩
    rw [e]
    cases z : LOk many s with
    | true => simp; exact someQ_i (q z)
    | false => simp; exact someX_i (qx z)
theorem checkm_i (S : Las.TS P) (C : SC P) {s : LZ.Sen} (hd : s.dep ≤ 6) (hL : s.dep + 4 ≤ L) {many : Int} (q : LOk many s = true → LZ.mom s = true → Q .non h) (qx : (LOk many s = false ∨ LZ.mom s = false) → X "InvalidSentence" h) : wC P L "check_moment_sentence" [s.d, .int many] h Q X := by
  obtain ⟨n, rfl⟩ : ∃ n, L = n + 1 := ⟨L - 1, by omega⟩
  refine wC_i C.cm rfl ?_
  simp [-v_rB, c_check_moment_sentence, List.replicate]
  refine check_i S C hd (by omega) (fun z => ?_) fun z => someX_i (qx (.inl z))
  try simp [-v_rB]
  rw [v_rB]
  simp
  refine LZ.mom_i S (by omega) (by omega) ?_
  cases y : LZ.mom s with
  | true => simp; exact someQ_i (q z y)
  | false => simp; exact someX_i (qx (.inr y))
end
end Snt
end Py
namespace Py
open PySem (Str)
namespace Snt
open LZ
open Cor (mxN mxN_cons n_maxo)
theorem lig_ps {s : LZ.Sen} (h : s.hd ≠ .lig) : ligL s = (s.ps.map ligL).flatten := by
  cases s <;> simp [Sen.hd] at h <;> simp [ligL, Sen.ps]
theorem dep_pos (s : LZ.Sen) : 1 ≤ s.dep := by cases s <;> simp only [Sen.dep] <;> omega
theorem dep_mx (s : LZ.Sen) : 1 + mxN (0 :: s.ps.map Sen.dep) = s.dep := by
  cases s <;> simp [Sen.ps, Sen.dep, mxN_cons, mxN] <;> omega
theorem lig_take {s : LZ.Sen} {i : Nat} : (((s.ps.take i).map ligL).flatten).length ≤ (ligL s).length := by
  cases s with
  | lig k => simp [Sen.ps]
  | _ =>
    rw [lig_ps (by simp [Sen.hd])]
    have : ∀ (xs : List LZ.Sen) (i : Nat), (((xs.take i).map ligL).flatten).length ≤ ((xs.map ligL).flatten).length := by
      intro xs
      induction xs with
      | nil => intro i; simp
      | cons x r ih =>
        intro i
        cases i with
        | zero => simp
        | succ i =>
          have := ih i
          simp only [List.take_succ_cons, List.map_cons, List.flatten_cons, List.length_append] at this ⊢
          omega
    exact this _ _
section
variable {P : Prog} {L : Nat} {h : AH} {Q : D → AH → Prop} {X : Xc}
theorem llig_i (K : SK P) (T : Gue.TQ P) (s : LZ.Sen) {L : Nat} (hL : s.dep + 1 ≤ L) (hd : s.dep ≤ 6) {h : AH} {Q : D → AH → Prop} {X : Xc} (q : ∀ a, h a = none → Q (.loc a) (put h a (.lst (iL (ligL s))))) : wC P L "_law_lights_in" [s.d] h Q X := by
  obtain ⟨n, rfl⟩ : ∃ n, L = n + 1 := ⟨L - 1, by omega⟩
  have ll := lig_len s
  have p6 : 2 ^ s.dep ≤ 2 ^ 6 := Nat.pow_le_pow_right (by decide) hd
  refine wC_i K.li rfl ?_
  by_cases z : s.hd = .lig
  · cases s <;> simp [Sen.hd] at z
    simp [c__law_lights_in, List.replicate, Sen.d, Las.m2]
    exact fun a ha => someQ_i (q a ha)
  · simp [-v_rB, c__law_lights_in, List.replicate, Las.m2, z]
    rw [v_rB]
    simp [-v_rB]
    intro a ha
    rw [v_rB]
    simp [-v_rB]
    have := dep_pos s
    refine LZ.inner_i (by omega) T ?_
    simp [-v_rB]
    refine for_f (fun i env h' => ∃ o b, env = [some s.d, some (.loc b), o] ∧ h b = none ∧ Sub h h' ∧ h' b = some (.lst (iL (((s.ps.take i).map ligL).flatten)))) ⟨none, a, rfl, ha, sub_put ha, by simp [Las.put_eq, iL]⟩ ?_ ?_
    · rintro i x env h' N hx ⟨o, b, rfl, hb, sb, e⟩ hN
      unfold LZ.sL at hx
      rw [List.getElem?_map, Option.map_eq_some_iff] at hx
      obtain ⟨p, hp, rfl⟩ := hx
      have pm := List.mem_of_getElem? hp
      have pd := ps_dep pm
      have lp := lig_len p
      have pw : 2 ^ p.dep ≤ 2 ^ 6 := Nat.pow_le_pow_right (by decide) (by omega)
      have lt := lig_take (s := s) (i := i)
      simp
      refine llig_i K T p (by omega) (by omega) fun c hc => ?_
      have ne : b ≠ c := fun z => by rw [← z, e] at hc; exact absurd hc (by simp)
      have e2 : put h' c (.lst (iL (ligL p))) b = some (.lst (iL (((s.ps.take i).map ligL).flatten))) := by rw [Las.put_ne ne, e]
      rw [o_addll e2 Las.put_eq (by rw [iL_len, iL_len]; omega)]
      simp
      intro d hd'
      have hdc : h' d = none := Las.sub_no (sub_put hc) hd'
      refine hN _ _ ⟨_, d, rfl, Las.sub_no sb hdc, fun x u z => sub_put hd' _ _ (sub_put hc _ _ (sb _ _ z)), ?_⟩
      rw [Las.put_eq, take_snoc hp]
      simp [iL]
    · rintro env h' ⟨o, b, rfl, hb, sb, e⟩
      rw [LZ.sL_len, List.take_length, ← lig_ps z] at e
      simp
      refine ⟨put h b (.lst (iL (ligL s))), fun x u hx => ?_, q b hb⟩
      by_cases z : x = b
      · subst z; rw [Las.put_eq] at hx; rw [e, ← hx]
      · rw [Las.put_ne z] at hx; exact sb x u hx
termination_by s.dep
theorem depth_i (S : Las.TS P) (C : SC P) (s : LZ.Sen) {L : Nat} (hL : s.dep + 1 ≤ L) (hd : s.dep ≤ 1000) {h : AH} {Q : D → AH → Prop} {X : Xc} (q : Q (.int s.dep) h) : wC P L "depth_of_sentence" [s.d] h Q X := by
  obtain ⟨n, rfl⟩ : ∃ n, L = n + 1 := ⟨L - 1, by omega⟩
  refine wC_i C.dp rfl ?_
  simp [c_depth_of_sentence, List.replicate]
  have := dep_pos s
  refine LZ.parts_i (by omega) S ?_
  simp
  refine comp_g Sen.d (fun p => .int (p.dep : Nat)) s.ps rfl trivial (by cases s <;> simp [Sen.ps]) (fun p hp kk hkk => ?_) ?_
  · have := ps_dep hp
    simp [wipe]
    exact depth_i S C p (by omega) (by omega) hkk
  · rw [o_addo (by cases s <;> simp [Sen.ps]), show [D.int 0] ++ s.ps.map (fun p => D.int (p.dep : Nat)) = nL (0 :: s.ps.map Sen.dep) by simp [nL]]
    simp only [gd_some]
    rw [n_maxo]
    simp
    have e : (1 : Int) + ((mxN (0 :: s.ps.map Sen.dep) : Nat) : Int) = (s.dep : Int) := by have := dep_mx s; omega
    rw [e]
    exact someQ_i q
termination_by s.dep
theorem ldepth_i (K : SK P) (T : Gue.TQ P) (s : LZ.Sen) {L : Nat} (hL : s.dep + 1 ≤ L) (hd : s.dep ≤ 1000) {h : AH} {Q : D → AH → Prop} {X : Xc} (q : Q (.int s.dep) h) : wC P L "_law_depth" [s.d] h Q X := by
  obtain ⟨n, rfl⟩ : ∃ n, L = n + 1 := ⟨L - 1, by omega⟩
  refine wC_i K.dp rfl ?_
  simp [c__law_depth, List.replicate]
  have := dep_pos s
  refine LZ.inner_i (by omega) T ?_
  simp
  refine comp_g Sen.d (fun p => .int (p.dep : Nat)) s.ps rfl trivial (by cases s <;> simp [Sen.ps]) (fun p hp kk hkk => ?_) ?_
  · have := ps_dep hp
    simp [wipe]
    exact ldepth_i K T p (by omega) (by omega) hkk
  · rw [o_addo (by cases s <;> simp [Sen.ps]), show [D.int 0] ++ s.ps.map (fun p => D.int (p.dep : Nat)) = nL (0 :: s.ps.map Sen.dep) by simp [nL]]
    simp only [gd_some]
    rw [n_maxo]
    simp
    have e : (1 : Int) + ((mxN (0 :: s.ps.map Sen.dep) : Nat) : Int) = (s.dep : Int) := by have := dep_mx s; omega
    rw [e]
    exact someQ_i q
termination_by s.dep
/-- what the words of the error are -/
structure SX (P : Prog) : Prop where
  rf : P.fn "_law_is_refused" = some c__law_is_refused
  s1 : P.sub "InvalidSentence" "TickError" = some true
  s2 : P.sub "InvalidSentence" (isaN "InvalidSentence") = some true
  s3 : P.sub "InvalidSentence" (isaN "ValueError") = some true
  s4 : P.sub "InvalidSentence" (isaN "InvalidWorld") = some false
theorem SX.all (Z : SX P) : isaAll P.sub "InvalidSentence" [(true, "InvalidSentence"), (true, "ValueError"), (false, "InvalidWorld")] = some true := by
  simp [isaAll, Z.s2, Z.s3, Z.s4]
theorem refs_i (S : Las.TS P) (C : SC P) (Z : SX P) {s : LZ.Sen} (hd : s.dep ≤ 6) (hL : s.dep + 5 ≤ L) {many : Int} {m : Bool} (no : LOk many s = false ∨ (m = true ∧ LZ.mom s = false)) (q : Q (.bl true) h) : wC P L "_law_is_refused" [s.d, .int many, .bl m] h Q X := by
  obtain ⟨n, rfl⟩ : ∃ n, L = n + 1 := ⟨L - 1, by omega⟩
  have ia := Z.all
  refine wC_i Z.rf rfl ?_
  cases m with
  | true =>
    simp [c__law_is_refused, List.replicate]
    refine checkm_i S C hd (by omega) (fun a b => ?_) fun _ => ?_
    · rcases no with no | no
      · rw [a] at no; cases no
      · rw [b] at no; cases no.2
    · simp [Z.s1, ia]
      exact someQ_i q
  | false =>
    simp [c__law_is_refused, List.replicate]
    refine check_i S C hd (by omega) (fun a => ?_) fun _ => ?_
    · rcases no with no | no
      · rw [a] at no; cases no
      · cases no.1
    · simp [Z.s1, ia]
      exact someQ_i q
end
end Snt
end Py
namespace Py
open PySem (Str)
namespace Snt
open LZ
section
variable {P : Prog} {L : Nat} {h : AH} {Q : D → AH → Prop} {X : Xc}
theorem LOk_filter (many : Int) (s : LZ.Sen) : decide ((((ligL s).filter fun k => decide (k < 0) || decide (many ≤ k)).length : Int) = 0) = LOk many s := by
  rw [Bool.eq_iff_iff, decide_eq_true_iff, LOk, List.all_eq_true]
  constructor
  · intro e k hk
    have e2 : ((ligL s).filter fun k => decide (k < 0) || decide (many ≤ k)) = [] := List.length_eq_zero_iff.mp (by omega)
    rw [List.filter_eq_nil_iff] at e2
    have := e2 k hk
    simp at this ⊢
    omega
  · intro h
    have : ((ligL s).filter fun k => decide (k < 0) || decide (many ≤ k)) = [] := by
      rw [List.filter_eq_nil_iff]
      intro k hk
      have := h k hk
      simp at this ⊢
      omega
    rw [this]; rfl
theorem chkd_i (S : Las.TS P) (C : SC P) (K : SK P) (T : Gue.TQ P) (Z : SX P) (hf : P.fn "_law_is_checked" = some c__law_is_checked) {s : LZ.Sen} (hd : s.dep ≤ 6) (hL : s.dep + 6 ≤ L) {many : Int} (q : Q (.bl true) h) : wC P L "_law_is_checked" [s.d, .int many] h Q X := by
  obtain ⟨n, rfl⟩ : ∃ n, L = n + 1 := ⟨L - 1, by omega⟩
  have ll := lig_len s
  have p6 : 2 ^ s.dep ≤ 2 ^ 6 := Nat.pow_le_pow_right (by decide) hd
  have isn : Py.isD (.v .non) .non = some true := rfl
  refine wC_i hf rfl ?_
  simp [-v_rB, c__law_is_checked, List.replicate]
  refine llig_i K T s (by omega) hd fun a ha => ?_
  have sb0 := sub_put (o := .lst (iL (ligL s))) ha
  have ea : (put h a (.lst (iL (ligL s)))) a = some (.lst (iL (ligL s))) := Las.put_eq
  generalize put h a (.lst (iL (ligL s))) = h1 at sb0 ea
  simp [-v_rB, c_l ea]
  refine compi_g D.int D.int (fun k => decide (k < 0) || decide (many ≤ k)) (ligL s) rfl ea (by omega) (fun k hk kk hkk => ?_) ?_
  · simp [wipe]
    by_cases z : k < 0
    · simp [z] at hkk ⊢
      exact hkk
    · by_cases z2 : many ≤ k
      · simp [z, z2] at hkk ⊢
        exact hkk
      · simp [z, z2] at hkk ⊢
        exact hkk
  have lf := LOk_filter many s
  generalize (ligL s).filter (fun k => decide (k < 0) || decide (many ≤ k)) = fl at lf
  simp [-v_rB]
  have lf2 : (decide (fl = [])) = LOk many s := by
    rw [← lf]
    apply decide_eq_decide.mpr
    rw [← List.length_eq_zero_iff]; omega
  rw [v_rB]
  have key : ∀ (h2 : AH) (env : Env), True := fun _ _ => trivial
  simp [-v_rB, lf2]
  refine for_f (fun i env h' => Sub h h' ∧ ∃ o3 o4, env = [some s.d, some (.int many), some (.bl (LOk many s)), o3, o4, none, none]) ⟨sb0, none, none, rfl⟩ ?_ ?_
  · rintro i x env h' N hx ⟨sb, o3, o4, rfl⟩ hN
    obtain ⟨m, rfl⟩ : ∃ m : Bool, x = .bl m := by
      match i, hx with
      | 0, hx => exact ⟨_, (Option.some.inj hx).symm⟩
      | 1, hx => exact ⟨_, (Option.some.inj hx).symm⟩
    cases g : LOk many s with
    | false =>
      simp
      refine refs_i S C Z hd (by omega) (.inl g) ?_
      simp
      exact hN _ _ ⟨sb, _, _, by rw [g]⟩
    | true =>
      cases m with
      | false =>
        simp
        refine check_i S C hd (by omega) (fun _ => ?_) fun z => by rw [g] at z; cases z
        simp [isn]
        exact hN _ _ ⟨sb, _, _, by rw [g]⟩
      | true =>
        simp
        refine LZ.times_i T s (by omega) (by omega) fun b hb => ?_
        have sb2 : Sub h (put h' b (.lst (sL (tpL s)))) := fun x u z => sub_put hb _ _ (sb _ _ z)
        have ln := n_len_l (Las.put_eq (h := h') (a := b) (o := .lst (sL (tpL s))))
        rw [sL_len] at ln
        simp [ln]
        cases y : LZ.mom s with
        | true =>
          have y2 : (tpL s).length = 0 := of_decide_eq_true y
          have y3 : tpL s = [] := List.length_eq_zero_iff.mp y2
          simp [y2, y3]
          refine checkm_i S C hd (by omega) (fun _ _ => ?_) fun z => ?_
          · simp [isn]
            exact hN _ _ ⟨by rw [y3] at sb2; exact sb2, _, _, by rw [g]⟩
          · rcases z with z | z
            · rw [g] at z; cases z
            · rw [y] at z; cases z
        | false =>
          have y2 : ¬ (tpL s).length = 0 := of_decide_eq_false y
          have y3 : ¬ tpL s = [] := fun e => y2 (by rw [e]; rfl)
          simp [y2, y3]
          refine refs_i S C Z hd (by omega) (.inr ⟨rfl, y⟩) ?_
          simp
          exact hN _ _ ⟨sb2, _, _, by rw [g]⟩
  · rintro env h' ⟨sb, o3, o4, rfl⟩
    simp
    exact someQ_s sb q
end
end Snt
end Py
namespace Py
open PySem (Str)
namespace Snt
open Las (Sen)
/-- how many time parts are written in a sentence -/
def nt : Las.Sen → Nat
  | .tru => 0 | .lig _ => 0 | .neg a => nt a | .con a b => nt a + nt b | .dis a b => nt a + nt b | .alw a => nt a + 1 | .atl a => nt a + 1 | .unt a b => nt a + nt b + 1
theorem nt_all : ∀ s : Las.Sen, ((Las.allS s).filter Las.Sen.isT).length = nt s
  | .tru => rfl
  | .lig k => rfl
  | .neg a => by
    rw [show Las.allS (.neg a) = Las.allS a ++ [.neg a] from rfl, List.filter_append, List.length_append, nt_all a]; rfl
  | .con a b => by
    rw [show Las.allS (.con a b) = Las.allS a ++ Las.allS b ++ [.con a b] from rfl, List.filter_append, List.filter_append, List.length_append, List.length_append, nt_all a, nt_all b]; rfl
  | .dis a b => by
    rw [show Las.allS (.dis a b) = Las.allS a ++ Las.allS b ++ [.dis a b] from rfl, List.filter_append, List.filter_append, List.length_append, List.length_append, nt_all a, nt_all b]; rfl
  | .alw a => by
    rw [show Las.allS (.alw a) = Las.allS a ++ [.alw a] from rfl, List.filter_append, List.length_append, nt_all a]; rfl
  | .atl a => by
    rw [show Las.allS (.atl a) = Las.allS a ++ [.atl a] from rfl, List.filter_append, List.length_append, nt_all a]; rfl
  | .unt a b => by
    rw [show Las.allS (.unt a b) = Las.allS a ++ Las.allS b ++ [.unt a b] from rfl, List.filter_append, List.filter_append, List.length_append, List.length_append, nt_all a, nt_all b]; rfl
theorem tpL_nt (s : Las.Sen) : (Las.tpL s).length ≤ nt s := by
  have key : ∀ (xs acc : List Las.Sen), (xs.foldl Las.tpAdd acc).length ≤ acc.length + (xs.filter Las.Sen.isT).length := by
    intro xs
    induction xs with
    | nil => intro acc; simp
    | cons x r ih =>
      intro acc
      refine Nat.le_trans (ih _) ?_
      unfold Las.tpAdd
      by_cases h : x.isT = true
      · rw [List.filter_cons, if_pos h]
        split
        · simp; omega
        · simp
      · rw [List.filter_cons, if_neg h, if_neg (fun z => h z.1)]
        omega
  have := key (Las.allS s) []
  rw [nt_all] at this
  simpa [Las.tpL] using this
/-- a sentence, with lights of any number -/
def zS : Las.Sen → LZ.Sen
  | .tru => .tru | .lig k => .lig k | .neg a => .neg (zS a) | .con a b => .con (zS a) (zS b) | .dis a b => .dis (zS a) (zS b) | .alw a => .alw (zS a) | .atl a => .atl (zS a) | .unt a b => .unt (zS a) (zS b)
theorem zS_d : ∀ s : Las.Sen, (zS s).d = s.d
  | .tru => rfl
  | .lig k => rfl
  | .neg a => by simp only [zS, LZ.Sen.d, Las.Sen.d, zS_d a]
  | .con a b => by simp only [zS, LZ.Sen.d, Las.Sen.d, zS_d a, zS_d b]
  | .dis a b => by simp only [zS, LZ.Sen.d, Las.Sen.d, zS_d a, zS_d b]
  | .alw a => by simp only [zS, LZ.Sen.d, Las.Sen.d, zS_d a]
  | .atl a => by simp only [zS, LZ.Sen.d, Las.Sen.d, zS_d a]
  | .unt a b => by simp only [zS, LZ.Sen.d, Las.Sen.d, zS_d a, zS_d b]
theorem zS_dep : ∀ s : Las.Sen, (zS s).dep = s.dep
  | .tru => rfl
  | .lig k => rfl
  | .neg a => by simp only [zS, LZ.Sen.dep, Las.Sen.dep, zS_dep a]
  | .con a b => by simp only [zS, LZ.Sen.dep, Las.Sen.dep, zS_dep a, zS_dep b]
  | .dis a b => by simp only [zS, LZ.Sen.dep, Las.Sen.dep, zS_dep a, zS_dep b]
  | .alw a => by simp only [zS, LZ.Sen.dep, Las.Sen.dep, zS_dep a]
  | .atl a => by simp only [zS, LZ.Sen.dep, Las.Sen.dep, zS_dep a]
  | .unt a b => by simp only [zS, LZ.Sen.dep, Las.Sen.dep, zS_dep a, zS_dep b]
structure SD (P : Prog) : Prop where
  tk : P.fn "_law_take" = some c__law_take
  mo : P.fn "_law_moment" = some Las.c__law_moment
  se : P.fn "_law_sentence" = some Las.c__law_sentence
section
variable {P : Prog} {L : Nat} {h : AH} {Q : D → AH → Prop} {X : Xc}
theorem mom_t (T : SD P) {many : Nat} (hm : 0 < many) : ∀ (d : Nat), 1 ≤ d → ∀ {L : Nat} {h0 h : AH} {g : Nat} {Q : D → AH → Prop} {X : Xc}, d + 1 ≤ L → Kd h0 g h → (∀ s h', (Sen.Ok many s ∧ nt s = 0) → s.dep ≤ d → Kd h0 g h' → Q s.d h') → wC P L "_law_moment" [.loc g, .int many, .int d] h Q X := by
  intro d
  induction d with
  | zero => intro h; omega
  | succ d ih =>
    intro _ L h0 h g Q X hL k q
    obtain ⟨n, rfl⟩ : ∃ n, L = n + 1 := ⟨L - 1, by omega⟩
    have m0 : ¬ many = 0 := by omega
    have ed : ((d + 1 : Nat) : Int) - 1 = (d : Nat) := by omega
    refine wC_i T.mo rfl ?_
    simp [-v_rB, Las.c__law_moment, List.replicate]
    refine Las.take_k (m := 7) (by omega) T.tk k (by omega) fun v h1 hv k1 _ => ?_
    rw [v_rB]
    by_cases d1 : d = 0
    · subst d1
      by_cases v0 : v = 0
      · subst v0
        simp [-v_rB]
        exact someQ_i (q .tru h1 ⟨trivial, rfl⟩ (Nat.le_refl _) k1)
      · by_cases v4 : (v : Int) < 4 <;> simp [v0, m0, v4] <;>
        refine Las.take_k (by omega) T.tk k1 hm fun j h2 hj k2 _ => someQ_i (q (.lig j) h2 ⟨hj, rfl⟩ (Nat.le_refl _) k2)
    · have d2 : ¬ ((d : Int) + 1 < 2) := by omega
      have d3 : 1 ≤ d := by omega
      simp [-v_rB, d2]
      rw [v_rB]
      by_cases v4 : v < 4
      · have v4' : (v : Int) < 4 := by omega
        by_cases v0 : v = 0 <;> simp [v4', m0, v0] <;>
        refine Las.take_k (by omega) T.tk k1 hm fun j h2 hj k2 _ => someQ_i (q (.lig j) h2 ⟨hj, rfl⟩ (by simp only [Sen.dep]; omega) k2)
      · have v4' : ¬ (v : Int) < 4 := by omega
        by_cases v5 : v = 4
        · subst v5
          simp [d2, m0]
          refine ih d3 (by omega) k1 fun s h2 sk sd k2 => ?_
          try simp
          exact someQ_i (q (.neg s) h2 sk (by simp only [Sen.dep]; omega) k2)
        · have v5' : ¬ (v : Int) = 4 := by omega
          have ev : v = 5 ∨ v = 6 := by omega
          simp [v4', v5', d2, m0]
          rcases ev with rfl | rfl
          · simp
            refine ih d3 (by omega) k1 fun s h2 sk sd k2 => ?_
            try simp
            refine ih d3 (by omega) k2 fun t h3 tk td k3 => ?_
            try simp
            exact someQ_i (q (.con s t) h3 ⟨⟨sk.1, tk.1⟩, by show nt s + nt t = 0; have := sk.2; have := tk.2; omega⟩ (by simp only [Sen.dep]; omega) k3)
          · simp
            refine ih d3 (by omega) k1 fun s h2 sk sd k2 => ?_
            try simp
            refine ih d3 (by omega) k2 fun t h3 tk td k3 => ?_
            try simp
            exact someQ_i (q (.dis s t) h3 ⟨⟨sk.1, tk.1⟩, by show nt s + nt t = 0; have := sk.2; have := tk.2; omega⟩ (by simp only [Sen.dep]; omega) k3)
theorem sen_t (T : SD P) {many : Nat} (hm : 0 < many) : ∀ (d : Nat), 1 ≤ d → ∀ {t L : Nat} {h0 h : AH} {g : Nat} {Q : D → AH → Prop} {X : Xc}, d + 3 ≤ L → Kd h0 g h → (∀ s h', (Sen.Ok many s ∧ nt s ≤ t) → s.dep ≤ d → Kd h0 g h' → Q s.d h') → wC P L "_law_sentence" [.loc g, .int many, .int d, .int t] h Q X := by
  intro d
  induction d with
  | zero => intro h; omega
  | succ d ih =>
    intro _ t L h0 h g Q X hL k q
    obtain ⟨n, rfl⟩ : ∃ n, L = n + 1 := ⟨L - 1, by omega⟩
    refine wC_i T.se rfl ?_
    by_cases c : t = 0 ∨ d = 0
    · have mn : (if (2 : Int) < (d : Int) + 1 then (2 : Int) else (d : Int) + 1) = ((min 2 (d + 1) : Nat) : Int) := by split <;> omega
      have key : wC P n "_law_moment" [.loc g, .int many, .int ((min 2 (d + 1) : Nat) : Int)] h (someQ Q) (someX X) := mom_t T hm (min 2 (d + 1)) (by omega) (by omega) k fun s h' sk sd k' => someQ_i (q s h' ⟨sk.1, by rw [sk.2]; omega⟩ (by omega) k')
      have c' : ¬ t = 0 → ((d : Int) + 1 < 2) := fun z => by omega
      by_cases t0 : t = 0
      · subst t0
        simp [Las.c__law_sentence, List.replicate, mn]
        exact key
      · simp [Las.c__law_sentence, List.replicate, mn, t0, c' t0]
        exact key
    · have t0 : ¬ t = 0 := fun z => c (.inl z)
      have d0 : ¬ ((d : Int) + 1 < 2) := by omega
      have d3 : 1 ≤ d := by omega
      obtain ⟨u1, e1⟩ : ∃ u : Nat, (t : Int) - 1 = u := ⟨t - 1, by omega⟩
      obtain ⟨u2, e2⟩ : ∃ u : Nat, (u1 : Int) / 2 = u := ⟨u1 / 2, by omega⟩
      obtain ⟨u3, e3⟩ : ∃ u : Nat, (t : Int) / 2 = u := ⟨t / 2, by omega⟩
      simp [-v_rB, Las.c__law_sentence, List.replicate, t0, d0]
      rw [v_rB]
      simp [-v_rB]
      refine Las.take_k (m := 8) (by omega) T.tk k (by omega) fun v h1 hv k1 _ => ?_
      rw [v_rB]
      by_cases v2 : v < 2
      · have w : (v : Int) < 2 := by omega
        simp [w, e1]
        refine ih d3 (by omega) k1 fun s h2 sk sd k2 => ?_
        try simp
        exact someQ_i (q (.alw s) h2 ⟨sk.1, by show nt s + 1 ≤ t; have := sk.2; omega⟩ (by simp only [Sen.dep]; omega) k2)
      · have w2 : ¬ (v : Int) < 2 := by omega
        simp [-v_rB, w2]
        rw [v_rB]
        by_cases v4 : v < 4
        · have w : (v : Int) < 4 := by omega
          simp [w, e1]
          refine ih d3 (by omega) k1 fun s h2 sk sd k2 => ?_
          try simp
          exact someQ_i (q (.atl s) h2 ⟨sk.1, by show nt s + 1 ≤ t; have := sk.2; omega⟩ (by simp only [Sen.dep]; omega) k2)
        · have w4 : ¬ (v : Int) < 4 := by omega
          simp [-v_rB, w4]
          rw [v_rB]
          by_cases v6 : v < 6
          · have w : (v : Int) < 6 := by omega
            simp [w, e1, e2]
            refine ih d3 (by omega) k1 fun s h2 sk sd k2 => ?_
            try simp [e1, e2]
            refine ih d3 (by omega) k2 fun u h3 uk ud k3 => ?_
            try simp
            exact someQ_i (q (.unt s u) h3 ⟨⟨sk.1, uk.1⟩, by show nt s + nt u + 1 ≤ t; have := sk.2; have := uk.2; omega⟩ (by simp only [Sen.dep]; omega) k3)
          · have w6 : ¬ (v : Int) < 6 := by omega
            simp [-v_rB, w6]
            rw [v_rB]
            by_cases v7 : v = 6
            · subst v7
              simp
              refine ih d3 (by omega) k1 fun s h2 sk sd k2 => ?_
              try simp
              exact someQ_i (q (.neg s) h2 sk (by simp only [Sen.dep]; omega) k2)
            · have w7 : ¬ (v : Int) = 6 := by omega
              simp [w7]
              refine Las.take_k (m := 2) (by omega) T.tk k1 (by omega) fun v h2 hv k2 _ => ?_
              have ev : v = 0 ∨ v = 1 := by omega
              rcases ev with rfl | rfl
              · simp [e3]
                refine ih d3 (by omega) k2 fun s h3 sk sd k3 => ?_
                try simp [e3]
                refine ih d3 (by omega) k3 fun u h4 uk ud k4 => ?_
                try simp
                exact someQ_i (q (.con s u) h4 ⟨⟨sk.1, uk.1⟩, by show nt s + nt u ≤ t; have := sk.2; have := uk.2; omega⟩ (by simp only [Sen.dep]; omega) k4)
              · simp [e3]
                refine ih d3 (by omega) k2 fun s h3 sk sd k3 => ?_
                try simp [e3]
                refine ih d3 (by omega) k3 fun u h4 uk ud k4 => ?_
                try simp
                exact someQ_i (q (.dis s u) h4 ⟨⟨sk.1, uk.1⟩, by show nt s + nt u ≤ t; have := sk.2; have := uk.2; omega⟩ (by simp only [Sen.dep]; omega) k4)
end
end Snt
end Py
namespace Py
open PySem (Str)
namespace Snt
open Las
/-- the outer time parts, and the lights outside of them -/
def outL : Las.Sen → List Las.Sen
  | .tru => [] | .lig _ => [] | .neg a => outL a | .con a b => outL a ++ outL b | .dis a b => outL a ++ outL b | .alw a => [.alw a] | .atl a => [.atl a] | .unt a b => [.unt a b]
def olL : Las.Sen → List Nat
  | .tru => [] | .lig k => [k] | .neg a => olL a | .con a b => olL a ++ olL b | .dis a b => olL a ++ olL b | _ => []
structure On (s : Las.Sen) (ps : List Las.Sen) (m : Nat) : Prop where
  op : ∀ x ∈ outL s, x ∈ ps
  ol : ∀ k ∈ olL s, k < m
theorem On.ps {s : Las.Sen} {ps : List Las.Sen} {m : Nat} (o : On s ps m) (h : s.isT = false) : ∀ a ∈ s.ps, On a ps m := fun a ha => by
  cases s <;> simp [Sen.isT] at h <;> simp [Sen.ps] at ha
  · subst ha; exact ⟨o.op, o.ol⟩
  · rcases ha with rfl | rfl
    · exact ⟨fun x hx => o.op x (List.mem_append_left _ hx), fun x hx => o.ol x (List.mem_append_left _ hx)⟩
    · exact ⟨fun x hx => o.op x (List.mem_append_right _ hx), fun x hx => o.ol x (List.mem_append_right _ hx)⟩
  · rcases ha with rfl | rfl
    · exact ⟨fun x hx => o.op x (List.mem_append_left _ hx), fun x hx => o.ol x (List.mem_append_left _ hx)⟩
    · exact ⟨fun x hx => o.op x (List.mem_append_right _ hx), fun x hx => o.ol x (List.mem_append_right _ hx)⟩
theorem On.self {s : Las.Sen} {ps : List Las.Sen} {m : Nat} (o : On s ps m) (h : s.isT = true) : s ∈ ps := by
  cases s <;> simp [Sen.isT] at h <;> exact o.op _ (by simp [outL])
section
variable {P : Prog} {L : Nat} {h : AH} {Q : D → AH → Prop} {X : Xc}
theorem tldo_i (T : Las.TS P) (s : Sen) {l : Itm} {ps : List Sen} {bs : List Nat} (o : On s ps l.length) (hb : ps.length = bs.length) (hd : ∀ x ∈ ps, x.dep ≤ 40) {L : Nat} (hL : s.dep ≤ L) {h : AH} {Q : D → AH → Prop} {X : Xc} (q : Q (.bl (told l ps bs s)) h) : wC P L "told_by_bits" [s.d, .tup (nL l), .tup (sL ps), .tup (nL bs)] h Q X := by
  have d1 : 1 ≤ s.dep := by cases s <;> simp only [Sen.dep] <;> omega
  obtain ⟨n, rfl⟩ : ∃ n, L = n + 1 := ⟨L - 1, by omega⟩
  refine wC_i T.tb rfl ?_
  by_cases ht : s.isT = true
  · have sp := o.self ht
    have il := List.idxOf_lt_length_of_mem sp
    rw [told_t ht] at q
    have n1 : s.hd ≠ .tru := fun z => by cases s <;> simp [Sen.hd] at z <;> simp [Sen.isT] at ht
    have n2 : s.hd ≠ .lig := fun z => by cases s <;> simp [Sen.hd] at z <;> simp [Sen.isT] at ht
    simp [c_told_by_bits, List.replicate, Las.m1, Las.m2, n1, n2, T.gh, in_heads, ht, m_idx sp hd, Las.q_idx]
    rw [nLs_at (by omega)]
    simp
    refine someQ_i ?_
    have e : decide (((gt bs (ps.idxOf s) : Nat) : Int) = 1) = decide (gt bs (ps.idxOf s) = 1) := decide_eq_decide.mpr (by omega)
    rw [e]
    exact q
  · have hf : s.isT = false := by simpa using ht
    by_cases hj : s.hd = .neg ∨ s.hd = .con ∨ s.hd = .dis
    · have n1 : s.hd ≠ .tru := fun z => by rw [z] at hj; simp at hj
      have n2 : s.hd ≠ .lig := fun z => by rw [z] at hj; simp at hj
      have d2 : 2 ≤ s.dep := by cases s <;> simp [Sen.hd] at hj <;> simp only [Sen.dep] <;> rename_i a <;> (first | (have : 1 ≤ a.dep := by cases a <;> simp only [Sen.dep] <;> omega); omega)
      simp [c_told_by_bits, List.replicate, Las.m1, Las.m2, n1, n2, T.gh, in_heads, hf]
      refine Las.parts_i (by omega) T ?_
      try simp
      refine comp_g Sen.d (fun p => .bl (told l ps bs p)) s.ps rfl trivial ?_ (fun p pm k hk => ?_) ?_
      · cases s <;> simp [Sen.ps]
      · have pd := ps_dep pm
        simp [wipe]
        refine tldo_i T p (o.ps hf p pm) hb hd (by omega) ?_
        simpa using hk
      · intro a ha
        refine joined_i (s := s) (bs := s.ps.map (told l ps bs)) (by omega) T (by rw [Las.put_eq]; simp [bLs]) hj (by simp) ?_
        refine someQ_s (sub_put ha) ?_
        rw [told_j hj]
        exact q
    · cases s with
      | tru =>
        simp [c_told_by_bits, List.replicate, Las.m1, Sen.d]
        exact someQ_i q
      | lig k =>
        have e0 := nLs_at (xs := l) (i := k) (o.ol k (by simp [olL]))
        simp [c_told_by_bits, List.replicate, Las.m1, Las.m2, Sen.d, e0]
        refine someQ_i ?_
        have e : decide (((gt l k : Nat) : Int) = 1) = decide (gt l k = 1) := decide_eq_decide.mpr (by omega)
        rw [e]
        exact q
      | neg a => exact absurd (.inl rfl) hj
      | con a b => exact absurd (.inr (.inl rfl)) hj
      | dis a b => exact absurd (.inr (.inr rfl)) hj
      | _ => exact absurd rfl ht
termination_by s.dep
theorem lnwo_i (T : Gue.TQ P) (s : Sen) {l : Itm} {ps : List Sen} {bs : List Nat} (o : On s ps l.length) (hb : ps.length = bs.length) (hd : ∀ x ∈ ps, x.dep ≤ 40) {L : Nat} (hL : s.dep ≤ L) {p : Nat} {h : AH} (ep : h p = some (.lst (sL ps))) {Q : D → AH → Prop} {X : Xc} (q : Q (.bl (told l ps bs s)) h) : wC P L "_law_now" [s.d, .tup (nL l), .loc p, .tup (nL bs)] h Q X := by
  have hh : ∀ (t : Tn) (h' : AH), cmpD .inn (.v (.str (tn t))) (.v (.tup [.str (tn .alw), .str (tn .atl), .str (tn .unt)])) h' = some (decide (t = .alw ∨ t = .atl ∨ t = .unt)) := fun t h' => by
    rw [in_tn (by simp)]
    cases t <;> simp
  have time : ∀ (s : Sen) (n : Nat) (h : AH) (Q : D → AH → Prop) (X : Xc), h p = some (.lst (sL ps)) → s.isT = true → s ∈ ps → Q (.bl (told l ps bs s)) h → wC P (n + 1) "_law_now" [s.d, .tup (nL l), .loc p, .tup (nL bs)] h Q X := by
    intro s n h Q X ep ht sp q
    refine wC_i T.now rfl ?_
    have il := List.idxOf_lt_length_of_mem sp
    rw [told_t ht] at q
    have n1 : s.hd ≠ .tru := fun z => by cases s <;> simp [Sen.hd] at z <;> simp [Sen.isT] at ht
    have n2 : s.hd ≠ .lig := fun z => by cases s <;> simp [Sen.hd] at z <;> simp [Sen.isT] at ht
    have h3 := Gue.isT_hd ht
    simp [Gue.c__law_now, List.replicate, Las.m1, Las.m2, Las.m6, Las.m7, Las.m8, n1, n2, hh, h3, Gue.m_idxl ep sp hd, Gue.q_idxl ep]
    rw [nLs_at (by omega)]
    simp
    refine someQ_i ?_
    have e : decide (((gt bs (ps.idxOf s) : Nat) : Int) = 1) = decide (gt bs (ps.idxOf s) = 1) := decide_eq_decide.mpr (by omega)
    rw [e]
    exact q
  induction s generalizing L h Q X with
  | tru =>
    obtain ⟨n, rfl⟩ : ∃ n, L = n + 1 := ⟨L - 1, by simp only [Sen.dep] at hL; omega⟩
    refine wC_i T.now rfl ?_
    simp [Gue.c__law_now, List.replicate, Las.m1, Sen.d]
    exact someQ_i q
  | lig k =>
    obtain ⟨n, rfl⟩ : ∃ n, L = n + 1 := ⟨L - 1, by simp only [Sen.dep] at hL; omega⟩
    refine wC_i T.now rfl ?_
    have e0 := nLs_at (xs := l) (i := k) (o.ol k (by simp [olL]))
    simp [Gue.c__law_now, List.replicate, Las.m1, Las.m2, Sen.d, e0]
    refine someQ_i ?_
    have e : decide (((gt l k : Nat) : Int) = 1) = decide (gt l k = 1) := decide_eq_decide.mpr (by omega)
    rw [e]
    exact q
  | neg a iha =>
    simp only [Sen.dep] at hL
    obtain ⟨n, rfl⟩ : ∃ n, L = n + 1 := ⟨L - 1, by omega⟩
    refine wC_i T.now rfl ?_
    simp [Gue.c__law_now, List.replicate, Las.m1, Las.m2, Las.m3, Las.m6, Las.m7, Las.m8, Sen.d, hh]
    refine iha (o.ps rfl a (by simp [Sen.ps])) (by omega) ep ?_
    simp only [t_bl, gd_some, rv_v]
    exact someQ_i q
  | con a b iha ihb =>
    simp only [Sen.dep] at hL
    obtain ⟨n, rfl⟩ : ∃ n, L = n + 1 := ⟨L - 1, by omega⟩
    refine wC_i T.now rfl ?_
    simp [Gue.c__law_now, List.replicate, Las.m1, Las.m2, Las.m3, Las.m4, Las.m6, Las.m7, Las.m8, Sen.d, hh]
    refine iha (o.ps rfl a (by simp [Sen.ps])) (by omega) ep ?_
    simp only [told] at q
    cases z : told l ps bs a <;> simp [z] at q ⊢
    · exact someQ_i q
    · exact ihb (o.ps rfl b (by simp [Sen.ps])) (by omega) ep (someQ_i q)
  | dis a b iha ihb =>
    simp only [Sen.dep] at hL
    obtain ⟨n, rfl⟩ : ∃ n, L = n + 1 := ⟨L - 1, by omega⟩
    refine wC_i T.now rfl ?_
    simp [Gue.c__law_now, List.replicate, Las.m1, Las.m2, Las.m3, Las.m4, Las.m6, Las.m7, Las.m8, Sen.d, hh]
    refine iha (o.ps rfl a (by simp [Sen.ps])) (by omega) ep ?_
    simp only [told] at q
    cases z : told l ps bs a <;> simp [z] at q ⊢
    · exact ihb (o.ps rfl b (by simp [Sen.ps])) (by omega) ep (someQ_i q)
    · exact someQ_i q
  | alw a _ =>
    obtain ⟨n, rfl⟩ : ∃ n, L = n + 1 := ⟨L - 1, by simp only [Sen.dep] at hL; omega⟩
    exact time _ n h Q X ep rfl (o.self rfl) q
  | atl a _ =>
    obtain ⟨n, rfl⟩ : ∃ n, L = n + 1 := ⟨L - 1, by simp only [Sen.dep] at hL; omega⟩
    exact time _ n h Q X ep rfl (o.self rfl) q
  | unt a b _ _ =>
    obtain ⟨n, rfl⟩ : ∃ n, L = n + 1 := ⟨L - 1, by simp only [Sen.dep] at hL; omega⟩
    exact time _ n h Q X ep rfl (o.self rfl) q
/-- what is told hangs on the outer time parts and lights alone -/
theorem told_on {l l' : Itm} {ps : List Sen} {bs bs' : List Nat} (s : Sen) (hl : ∀ k ∈ olL s, gt l k = gt l' k) (hb : ∀ x ∈ outL s, gt bs (ps.idxOf x) = gt bs' (ps.idxOf x)) : told l ps bs s = told l' ps bs' s := by
  induction s with
  | tru => rfl
  | lig k => simp only [told]; rw [hl k (by simp [olL])]
  | neg a iha => simp only [told]; rw [iha hl hb]
  | con a b iha ihb => simp only [told]; rw [iha (fun k hk => hl k (List.mem_append_left _ hk)) (fun k hk => hb k (List.mem_append_left _ hk)), ihb (fun k hk => hl k (List.mem_append_right _ hk)) (fun k hk => hb k (List.mem_append_right _ hk))]
  | dis a b iha ihb => simp only [told]; rw [iha (fun k hk => hl k (List.mem_append_left _ hk)) (fun k hk => hb k (List.mem_append_left _ hk)), ihb (fun k hk => hl k (List.mem_append_right _ hk)) (fun k hk => hb k (List.mem_append_right _ hk))]
  | alw a _ => rw [told_t rfl, told_t rfl, hb _ (by simp [outL])]
  | atl a _ => rw [told_t rfl, told_t rfl, hb _ (by simp [outL])]
  | unt a b _ _ => rw [told_t rfl, told_t rfl, hb _ (by simp [outL])]
end
end Snt
end Py
namespace Py
open PySem (Str)
namespace Snt
open Las
theorem outL_nt : ∀ s : Las.Sen, (outL s).length ≤ nt s
  | .tru => Nat.le_refl _
  | .lig _ => Nat.le_refl _
  | .neg a => outL_nt a
  | .con a b => by have := outL_nt a; have := outL_nt b; simp only [outL, nt, List.length_append]; omega
  | .dis a b => by have := outL_nt a; have := outL_nt b; simp only [outL, nt, List.length_append]; omega
  | .alw a => by simp [outL, nt]
  | .atl a => by simp [outL, nt]
  | .unt a b => by simp [outL, nt]
theorem outL_t : ∀ s : Las.Sen, ∀ x ∈ outL s, x.isT = true ∧ x.dep ≤ s.dep
  | .tru, x, h => by simp [outL] at h
  | .lig _, x, h => by simp [outL] at h
  | .neg a, x, h => by have := outL_t a x h; simp only [Sen.dep]; exact ⟨this.1, by omega⟩
  | .con a b, x, h => by
    simp only [outL, List.mem_append] at h
    simp only [Sen.dep]
    rcases h with h | h
    · have := outL_t a x h; exact ⟨this.1, by omega⟩
    · have := outL_t b x h; exact ⟨this.1, by omega⟩
  | .dis a b, x, h => by
    simp only [outL, List.mem_append] at h
    simp only [Sen.dep]
    rcases h with h | h
    · have := outL_t a x h; exact ⟨this.1, by omega⟩
    · have := outL_t b x h; exact ⟨this.1, by omega⟩
  | .alw a, x, h => by simp [outL] at h; subst h; exact ⟨rfl, Nat.le_refl _⟩
  | .atl a, x, h => by simp [outL] at h; subst h; exact ⟨rfl, Nat.le_refl _⟩
  | .unt a b, x, h => by simp [outL] at h; subst h; exact ⟨rfl, Nat.le_refl _⟩
theorem outL_ps {s : Las.Sen} (h : s.isT = false) : outL s = (s.ps.map outL).flatten := by
  cases s <;> simp [Sen.isT] at h <;> simp [outL, Sen.ps]
theorem outL_take {s : Las.Sen} (h : s.isT = false) (i : Nat) : (((s.ps.take i).map outL).flatten).length ≤ nt s := by
  have l := outL_nt s
  rw [outL_ps h] at l
  have : ∀ (xs : List Las.Sen) (i : Nat), (((xs.take i).map outL).flatten).length ≤ ((xs.map outL).flatten).length := by
    intro xs
    induction xs with
    | nil => intro i; simp
    | cons x r ih =>
      intro i
      cases i with
      | zero => simp
      | succ i =>
        have := ih i
        simp only [List.take_succ_cons, List.map_cons, List.flatten_cons, List.length_append] at this ⊢
        omega
  exact Nat.le_trans (this _ _) l
theorem nt_ps {s a : Las.Sen} (h : a ∈ s.ps) : nt a ≤ nt s := by
  cases s <;> simp [Sen.ps] at h <;> (try rcases h with rfl | rfl) <;> (try subst h) <;> simp only [nt] <;> omega
theorem olL_ps {s : Las.Sen} (h1 : s.isT = false) (h2 : s.hd ≠ .lig) : olL s = (s.ps.map olL).flatten := by
  cases s <;> simp [Sen.isT] at h1 <;> simp [Sen.hd] at h2 <;> simp [olL, Sen.ps]
theorem olL_len : ∀ s : Las.Sen, (olL s).length ≤ 2 ^ s.dep := by
  have two : ∀ {x y d1 d2 : Nat}, x ≤ 2 ^ d1 → y ≤ 2 ^ d2 → x + y ≤ 2 ^ (max d1 d2 + 1) := fun {x y d1 d2} h1 h2 => by
    have a := Nat.pow_le_pow_right (show 0 < 2 by decide) (Nat.le_max_left d1 d2)
    have b := Nat.pow_le_pow_right (show 0 < 2 by decide) (Nat.le_max_right d1 d2)
    rw [Nat.pow_succ]; omega
  intro s
  induction s with
  | tru => simp [olL]
  | lig k => simp [olL, Sen.dep]
  | neg a iha => simp only [olL, Sen.dep]; rw [Nat.pow_succ]; omega
  | alw a _ => simp [olL]
  | atl a _ => simp [olL]
  | unt a b _ _ => simp [olL]
  | con a b iha ihb => simp only [olL, Sen.dep, List.length_append]; exact two iha ihb
  | dis a b iha ihb => simp only [olL, Sen.dep, List.length_append]; exact two iha ihb
theorem olL_take {s : Las.Sen} (h1 : s.isT = false) (h2 : s.hd ≠ .lig) (i : Nat) : (((s.ps.take i).map olL).flatten).length ≤ 2 ^ s.dep := by
  have l := olL_len s
  rw [olL_ps h1 h2] at l
  have : ∀ (xs : List Las.Sen) (i : Nat), (((xs.take i).map olL).flatten).length ≤ ((xs.map olL).flatten).length := by
    intro xs
    induction xs with
    | nil => intro i; simp
    | cons x r ih =>
      intro i
      cases i with
      | zero => simp
      | succ i =>
        have := ih i
        simp only [List.take_succ_cons, List.map_cons, List.flatten_cons, List.length_append] at this ⊢
        omega
  exact Nat.le_trans (this _ _) l
theorem end_at {h h' : AH} {Q : D → AH → Prop} {b : Nat} {o : AO} (sb : Sub h h') (hb : h b = none) (e : h' b = some o) (q : Q (.loc b) (put h b o)) : someQ Q (.loc b) h' := by
  refine ⟨put h b o, fun x u hx => ?_, q⟩
  by_cases z : x = b
  · subst z; rw [Las.put_eq] at hx; rw [e, ← hx]
  · rw [Las.put_ne z] at hx; exact sb x u hx
theorem nin_heads {s : Las.Sen} {h : AH} : cmpD .nin (.v (.str (tn s.hd))) (.v (.tup heads)) h = some (!s.isT) := by
  show (inD (.v (.str (tn s.hd))) (.v (.tup heads)) h).map (!·) = _
  rw [show inD (.v (.str (tn s.hd))) (.v (.tup heads)) h = some s.isT from in_heads (h := h)]
  rfl
section
variable {P : Prog} {L : Nat} {h : AH} {Q : D → AH → Prop} {X : Xc}
theorem outp_i (S : Las.TS P) (C : SC P) (s : Las.Sen) {L : Nat} (hL : s.dep + 1 ≤ L) (hn : nt s ≤ 1000) {h : AH} {Q : D → AH → Prop} {X : Xc} (q : ∀ a, h a = none → Q (.loc a) (put h a (.lst (sL (outL s))))) : wC P L "outer_time_parts" [s.d] h Q X := by
  have d1 : 1 ≤ s.dep := by cases s <;> simp only [Sen.dep] <;> omega
  obtain ⟨n, rfl⟩ : ∃ n, L = n + 1 := ⟨L - 1, by omega⟩
  refine wC_i C.op rfl ?_
  by_cases ht : s.isT = true
  · have e : outL s = [s] := by cases s <;> simp [Sen.isT] at ht <;> rfl
    rw [e] at q
    simp [c_outer_time_parts, List.replicate, S.gh, in_heads, ht]
    exact fun a ha => someQ_i (q a ha)
  · have hf : s.isT = false := by simpa using ht
    simp [-v_rB, c_outer_time_parts, List.replicate, S.gh, in_heads, hf]
    rw [v_rB]
    simp [-v_rB]
    intro a ha
    rw [v_rB]
    simp [-v_rB]
    refine Las.parts_i (by omega) S ?_
    simp [-v_rB]
    refine for_f (fun i env h' => ∃ o, env = [some s.d, some (.loc a), o] ∧ Sub h h' ∧ h' a = some (.lst (sL (((s.ps.take i).map outL).flatten)))) ⟨none, rfl, sub_put ha, by simp [Las.put_eq, sL]⟩ ?_ ?_
    · rintro i x env h' N hx ⟨o, rfl, sb, e⟩ hN
      unfold sL at hx
      rw [List.getElem?_map, Option.map_eq_some_iff] at hx
      obtain ⟨p, hp, rfl⟩ := hx
      have pm := List.mem_of_getElem? hp
      have pd := ps_dep pm
      have pn := nt_ps pm
      have ol := outL_nt p
      have l1 := outL_take hf i
      simp
      refine outp_i S C p (by omega) (by omega) fun b hb => ?_
      have ne : a ≠ b := fun z => by rw [← z, e] at hb; exact absurd hb (by simp)
      rw [u_extl (xs := sL (((s.ps.take i).map outL).flatten)) (ys := sL (outL p)) (by rw [Las.put_ne ne, e]) Las.put_eq (by rw [sL_len, sL_len]; omega)]
      simp
      refine hN _ _ ⟨_, rfl, ?_, ?_⟩
      · exact ((sb.put (sub_no sb hb)).put ha)
      · rw [Las.put_eq, take_snoc hp]
        simp [sL]
    · rintro env h' ⟨o, rfl, sb, e⟩
      rw [sL_len, List.take_length, ← outL_ps hf] at e
      simp
      exact end_at sb ha e (q a ha)
termination_by s.dep
theorem outl_i (S : Las.TS P) (C : SC P) (s : Las.Sen) {L : Nat} (hL : s.dep + 1 ≤ L) (hd : s.dep ≤ 10) {h : AH} {Q : D → AH → Prop} {X : Xc} (q : ∀ a, h a = none → Q (.loc a) (put h a (.lst (nL (olL s))))) : wC P L "outer_lights" [s.d] h Q X := by
  have d1 : 1 ≤ s.dep := by cases s <;> simp only [Sen.dep] <;> omega
  obtain ⟨n, rfl⟩ : ∃ n, L = n + 1 := ⟨L - 1, by omega⟩
  have p10 : 2 ^ s.dep ≤ 2 ^ 10 := Nat.pow_le_pow_right (by decide) hd
  refine wC_i C.ol rfl ?_
  by_cases hg : s.hd = .lig
  · cases s <;> simp [Sen.hd] at hg
    simp [c_outer_lights, List.replicate, Las.m2, Sen.d]
    exact fun a ha => someQ_i (q a ha)
  · simp [-v_rB, c_outer_lights, List.replicate, Las.m2, hg]
    rw [v_rB]
    simp [-v_rB]
    intro a ha
    rw [v_rB]
    by_cases ht : s.isT = true
    · have e : olL s = [] := by cases s <;> simp [Sen.isT] at ht <;> rfl
      rw [e] at q
      simp [S.gh, nin_heads, ht]
      exact someQ_i (q a ha)
    · have hf : s.isT = false := by simpa using ht
      simp [-v_rB, S.gh, nin_heads, hf]
      refine Las.parts_i (by omega) S ?_
      simp [-v_rB]
      refine for_f (fun i env h' => ∃ o, env = [some s.d, some (.loc a), o] ∧ Sub h h' ∧ h' a = some (.lst (nL (((s.ps.take i).map olL).flatten)))) ⟨none, rfl, sub_put ha, by simp [Las.put_eq, nL]⟩ ?_ ?_
      · rintro i x env h' N hx ⟨o, rfl, sb, e⟩ hN
        unfold sL at hx
        rw [List.getElem?_map, Option.map_eq_some_iff] at hx
        obtain ⟨p, hp, rfl⟩ := hx
        have pm := List.mem_of_getElem? hp
        have pd := ps_dep pm
        have ol := olL_len p
        have pp : 2 ^ p.dep ≤ 2 ^ 10 := Nat.pow_le_pow_right (by decide) (by omega)
        have l1 := olL_take hf hg i
        simp
        refine outl_i S C p (by omega) (by omega) fun b hb => ?_
        have ne : a ≠ b := fun z => by rw [← z, e] at hb; exact absurd hb (by simp)
        rw [u_extl (xs := nL (((s.ps.take i).map olL).flatten)) (ys := nL (olL p)) (by rw [Las.put_ne ne, e]) Las.put_eq (by rw [nL_len, nL_len]; omega)]
        simp
        refine hN _ _ ⟨_, rfl, ?_, ?_⟩
        · exact ((sb.put (sub_no sb hb)).put ha)
        · rw [Las.put_eq, take_snoc hp]
          simp [nL]
      · rintro env h' ⟨o, rfl, sb, e⟩
        rw [sL_len, List.take_length, ← olL_ps hf hg] at e
        simp
        exact end_at sb ha e (q a ha)
termination_by s.dep
end
end Snt
end Py
namespace Py
open PySem (Str)
namespace Snt
open Las
open Cor (mxN mxN_cons foldl_max)
def om (xs : List Nat) : Nat := mxN (xs.map (· + 1))
theorem mx_om (xs : List Nat) : maxI ((-1 : Int) :: xs.map fun (x : Nat) => (x : Int)) = some ((om xs : Int) - 1) := by
  have key : ∀ (xs : List Nat) (m : Nat), (xs.map fun (x : Nat) => (x : Int)).foldl (fun m x => if m < x then x else m) ((m : Int) - 1) = ((max m (om xs) : Nat) : Int) - 1 := by
    intro xs
    induction xs with
    | nil => intro m; simp [om, mxN]
    | cons x r ih =>
      intro m
      rw [List.map_cons, List.foldl_cons, show (if (m : Int) - 1 < (x : Int) then (x : Int) else (m : Int) - 1) = ((max m (x + 1) : Nat) : Int) - 1 by split <;> omega, ih]
      unfold om
      rw [List.map_cons, mxN_cons]
      omega
  have := key xs 0
  show some _ = _
  rw [show ((0 : Nat) : Int) - 1 = -1 from rfl] at this
  rw [this]
  simp
theorem om_lt {xs : List Nat} {k : Nat} (h : k ∈ xs) : k < om xs := by
  unfold om
  induction xs with
  | nil => simp at h
  | cons x r ih =>
    rw [List.map_cons, mxN_cons]
    rcases List.mem_cons.mp h
        with rfl | h
    · omega
    · have := ih h; omega
theorem om_le {xs : List Nat} {m : Nat} (h : ∀ k ∈ xs, k < m) : om xs ≤ m := by
  unfold om
  induction xs with
  | nil => simp [mxN]
  | cons x r ih =>
    rw [List.map_cons, mxN_cons]
    have := h x (by simp)
    have := ih fun k hk => h k (List.mem_cons_of_mem _ hk)
    omega
def fps (a b : Las.Sen) : List Las.Sen := (outL a ++ outL b).foldl tpAdd []
theorem fps_mem {a b x : Las.Sen} : x ∈ fps a b ↔ x ∈ outL a ∨ x ∈ outL b := by
  unfold fps
  rw [tp_mem, List.mem_append]
  constructor
  · rintro (h | h)
    · simp at h
    · exact h.1
  · intro h
    refine .inr ⟨h, ?_⟩
    rcases h with h | h
    · exact (outL_t a x h).1
    · exact (outL_t b x h).1
theorem fps_len (a b : Las.Sen) : (fps a b).length ≤ nt a + nt b := by
  have key : ∀ (xs acc : List Las.Sen), (xs.foldl tpAdd acc).length ≤ acc.length + xs.length := by
    intro xs
    induction xs with
    | nil => intro acc; simp
    | cons x r ih =>
      intro acc
      refine Nat.le_trans (ih _) ?_
      unfold tpAdd
      split <;> simp <;> omega
  have := key (outL a ++ outL b) []
  have := outL_nt a
  have := outL_nt b
  rw [List.length_append] at *
  unfold fps
  simp only [List.length_nil] at *
  omega
/-- does one follow from another, by bits -/
def FB (a b : Las.Sen) : Bool := (Gue.bitsL (om (olL a ++ olL b) + (fps a b).length)).all fun r => !(told (r.take (om (olL a ++ olL b))) (fps a b) (r.drop (om (olL a ++ olL b))) a) || told (r.take (om (olL a ++ olL b))) (fps a b) (r.drop (om (olL a ++ olL b))) b
def LB (many : Nat) (a b : Las.Sen) : Bool := (Gue.bitsL many).all fun l => (Gue.bitsL (fps a b).length).all fun g => !(told l (fps a b) g a) || told l (fps a b) g b
theorem gt_takeN {l : List Nat} {m k : Nat} (h : k < m) : gt (l.take m) k = gt l k := by
  unfold gt
  rw [List.getElem?_take]
  simp [h]
theorem gt_app {l r : List Nat} {k : Nat} (h : k < l.length) : gt (l ++ r) k = gt l k := by
  unfold gt
  rw [List.getElem?_append_left h]
theorem FB_LB {many : Nat} {a b : Las.Sen} (h : om (olL a ++ olL b) ≤ many) : FB a b = LB many a b := by
  obtain ⟨m, em⟩ : ∃ m, m = om (olL a ++ olL b) := ⟨_, rfl⟩
  have ha : ∀ k ∈ olL a, k < m := fun k hk => em ▸ om_lt (List.mem_append_left _ hk)
  have hb : ∀ k ∈ olL b, k < m := fun k hk => em ▸ om_lt (List.mem_append_right _ hk)
  rw [Bool.eq_iff_iff]
  unfold FB LB
  rw [← em] at h ⊢
  rw [List.all_eq_true, List.all_eq_true]
  constructor
  · intro f l hl
    rw [List.all_eq_true]
    intro g hg
    have bl := (Gue.bits_mem _ l).mp hl
    have bg := (Gue.bits_mem _ g).mp hg
    have lt : (l.take m).length = m := by rw [List.length_take, bl.1]; omega
    have := f (l.take m ++ g) ((Gue.bits_mem _ _).mpr ⟨by rw [List.length_append, lt, bg.1], fun x hx => by
      rw [List.mem_append] at hx
      rcases hx with hx | hx
      · exact bl.2 x (List.mem_of_mem_take hx)
      · exact bg.2 x hx⟩)
    rw [List.take_left' lt, List.drop_left' lt] at this
    rw [← told_on (l := l.take m) (l' := l) (bs := g) (bs' := g) a (fun k hk => gt_takeN (ha k hk)) (fun _ _ => rfl), ← told_on (l := l.take m) (l' := l) (bs := g) (bs' := g) b (fun k hk => gt_takeN (hb k hk)) (fun _ _ => rfl)]
    exact this
  · intro f r hr
    have br := (Gue.bits_mem _ r).mp hr
    have lt : (r.take m).length = m := by rw [List.length_take, br.1]; omega
    have h1 := f (r.take m ++ List.replicate (many - m) 0) ((Gue.bits_mem _ _).mpr ⟨by rw [List.length_append, lt, List.length_replicate]; omega, fun x hx => by
      rw [List.mem_append] at hx
      rcases hx with hx | hx
      · exact br.2 x (List.mem_of_mem_take hx)
      · rw [List.mem_replicate] at hx; omega⟩)
    rw [List.all_eq_true] at h1
    have h2 := h1 (r.drop m) ((Gue.bits_mem _ _).mpr ⟨by rw [List.length_drop, br.1]; omega, fun x hx => br.2 x (List.mem_of_mem_drop hx)⟩)
    rw [told_on (l := r.take m) (l' := r.take m ++ List.replicate (many - m) 0) (bs := r.drop m) (bs' := r.drop m) a (fun k hk => (gt_app (by rw [lt]; exact ha k hk)).symm) (fun _ _ => rfl), told_on (l := r.take m) (l' := r.take m ++ List.replicate (many - m) 0) (bs := r.drop m) (bs' := r.drop m) b (fun k hk => (gt_app (by rw [lt]; exact hb k hk)).symm) (fun _ _ => rfl)]
    exact h2
section
variable {P : Prog} {L : Nat} {h : AH} {Q : D → AH → Prop} {X : Xc}
theorem eo_i (C : SC P) {xs : List Las.Sen} (ht : ∀ x ∈ xs, x.isT = true ∧ x.dep ≤ 40) (hl : xs.length ≤ 100000) (hL : 1 ≤ L) {b : Nat} (eb : h b = some (.lst (sL xs))) (q : ∀ a, h a = none → Q (.loc a) (put h a (.lst (sL (xs.foldl tpAdd []))))) : wC P L "each_sentence_once" [.loc b] h Q X := by
  obtain ⟨n, rfl⟩ : ∃ n, L = n + 1 := ⟨L - 1, by omega⟩
  have tl : ∀ i, ((xs.take i).foldl tpAdd []).length ≤ xs.length := fun i => tp_take
  have m40 : ∀ i, ∀ x ∈ (xs.take i).foldl tpAdd [], x.dep ≤ 40 := fun i x hx => by
    rw [tp_mem] at hx
    have hx := (hx.resolve_left (by simp)).1
    exact (ht x (List.mem_of_mem_take hx)).2
  refine wC_i C.eo rfl ?_
  simp [-v_rB, c_each_sentence_once, List.replicate]
  intro a ha
  rw [v_rB]
  have ne : b ≠ a := fun z => by rw [z, ha] at eb; cases eb
  simp [-v_rB, c_l (show put h a (.lst []) b = _ by rw [Las.put_ne ne]; exact eb)]
  refine for_l (fun i env h' => ∃ o, env = [some (.loc b), some (.loc a), o] ∧ Sub h h' ∧ h' a = some (.lst (sL ((xs.take i).foldl tpAdd [])))) ⟨none, rfl, sub_put ha, by simp [Las.put_eq, sL]⟩ (fun i env h' _ z => by obtain ⟨_, _, sb, _⟩ := z; exact sb _ _ eb) ?_ ?_
  · rintro i x env h' N hx ⟨o, rfl, sb, e⟩ hN
    unfold sL at hx
    rw [List.getElem?_map, Option.map_eq_some_iff] at hx
    obtain ⟨p, hp, rfl⟩ := hx
    have pt := ht p (List.mem_of_getElem? hp)
    have t1 := tl i
    have mm := m40 i
    rw [take_snoc hp, List.foldl_append] at hN
    simp only [List.foldl_cons, List.foldl_nil] at hN
    generalize (xs.take i).foldl tpAdd [] = acc at e t1 mm hN
    simp
    rw [k_ninS e mm pt.2]
    by_cases z : p ∈ acc
    · have : tpAdd acc p = acc := by unfold tpAdd; rw [if_neg (fun y => y.2 z)]
      rw [this] at hN
      simp [z]
      exact hN _ _ ⟨_, rfl, sb, e⟩
    · have : tpAdd acc p = acc ++ [p] := by unfold tpAdd; rw [if_pos ⟨pt.1, z⟩]
      rw [this] at hN
      simp [z, e]
      rw [m_app e (by rw [sL_len]; omega)]
      simp
      exact hN _ _ ⟨_, rfl, sb.put ha, by rw [Las.put_eq]; simp [sL]⟩
  · rintro env h' ⟨o, rfl, sb, e⟩
    rw [sL_len, List.take_length] at e
    simp
    exact end_at sb ha e (q a ha)
theorem lou_i (K : SK P) (T : Gue.TQ P) (s : Las.Sen) {L : Nat} (hL : s.dep + 1 ≤ L) (hd : s.dep ≤ 20) (hn : nt s ≤ 1000) {h : AH} {Q : D → AH → Prop} {X : Xc} (q : ∀ a, h a = none → Q (.loc a) (put h a (.lst (sL ((outL s).foldl tpAdd []))))) : wC P L "_law_outer" [s.d] h Q X := by
  have d1 : 1 ≤ s.dep := by cases s <;> simp only [Sen.dep] <;> omega
  obtain ⟨n, rfl⟩ : ∃ n, L = n + 1 := ⟨L - 1, by omega⟩
  have hh : ∀ h' : AH, cmpD .inn (.v (.str (tn s.hd))) (.v (.tup [.str (tn .alw), .str (tn .atl), .str (tn .unt)])) h' = some s.isT := fun h' => in_heads
  refine wC_i K.ou rfl ?_
  by_cases ht : s.isT = true
  · have e : (outL s).foldl tpAdd [] = [s] := by cases s <;> simp [Sen.isT] at ht <;> simp [outL, tpAdd, Sen.isT]
    rw [e] at q
    simp [c__law_outer, List.replicate, Las.m6, Las.m7, Las.m8, hh, ht]
    exact fun a ha => someQ_i (q a ha)
  · have hf : s.isT = false := by simpa using ht
    simp [-v_rB, c__law_outer, List.replicate, Las.m6, Las.m7, Las.m8, hh, hf]
    rw [v_rB]
    simp [-v_rB]
    intro a ha
    rw [v_rB]
    simp [-v_rB]
    refine Gue.inner_i (by omega) T ?_
    simp [-v_rB]
    refine for_f (fun i env h' => ∃ o b, env = [some s.d, some (.loc b), o, none, none] ∧ h b = none ∧ Sub h h' ∧ h' b = some (.lst (sL ((((s.ps.take i).map outL).flatten).foldl tpAdd [])))) ⟨none, a, rfl, ha, sub_put ha, by simp [Las.put_eq, sL]⟩ ?_ ?_
    · rintro i x env h' N hx ⟨o, b, rfl, hb, sb, e⟩ hN
      unfold sL at hx
      rw [List.getElem?_map, Option.map_eq_some_iff] at hx
      obtain ⟨p, hp, rfl⟩ := hx
      have pm := List.mem_of_getElem? hp
      have pd := ps_dep pm
      have pn := nt_ps pm
      have ol := outL_nt p
      have l1 := outL_take hf i
      have t1 := tp_take (xs := ((s.ps.take i).map outL).flatten) (i := (((s.ps.take i).map outL).flatten).length)
      rw [List.take_length] at t1
      have tlp := tp_take (xs := outL p) (i := (outL p).length)
      rw [List.take_length] at tlp
      have m40 : ∀ x ∈ (((s.ps.take i).map outL).flatten).foldl tpAdd [], x.dep ≤ 40 := fun x hx => by
        rw [tp_mem] at hx
        have hx := (hx.resolve_left (by simp)).1
        rw [List.mem_flatten] at hx
        obtain ⟨L, hL, hx⟩ := hx
        obtain ⟨y, hy, rfl⟩ := List.mem_map.mp hL
        have := (outL_t y x hx).2
        have := ps_dep (List.mem_of_mem_take hy)
        omega
      simp
      refine lou_i K T p (by omega) (by omega) (by omega) fun c hc => ?_
      have ne : b ≠ c := fun z => by rw [← z, e] at hc; exact absurd hc (by simp)
      have e2 : put h' c (.lst (sL ((outL p).foldl tpAdd []))) b = some (.lst (sL ((((s.ps.take i).map outL).flatten).foldl tpAdd []))) := by rw [Las.put_ne ne, e]
      simp [c_l (Las.put_eq (h := h') (a := c) (o := .lst (sL ((outL p).foldl tpAdd []))))]
      refine compi_g Sen.d Sen.d (fun x => !decide (x ∈ (((s.ps.take i).map outL).flatten).foldl tpAdd [])) ((outL p).foldl tpAdd []) rfl Las.put_eq (by omega) (fun x hx k hk => ?_) ?_
      · have xd : x.dep ≤ 40 := by
          rw [tp_mem] at hx
          have := (outL_t p x ((hx.resolve_left (by simp)).1)).2
          omega
        revert hk e2 m40
        generalize (((s.ps.take i).map outL).flatten).foldl tpAdd [] = acc
        intro m40 e2 hk
        simp [wipe]
        rw [k_ninS e2 m40 xd]
        simp
        by_cases z : x ∈ acc
        · simp [z] at hk ⊢
          exact hk
        · simp [z] at hk ⊢
          exact hk
      · have st := Gue.tp_step (outL p) ((((s.ps.take i).map outL).flatten).foldl tpAdd [])
        rw [take_snoc hp] at hN
        simp only [List.map_append, List.map_cons, List.map_nil, List.flatten_append, List.flatten_cons, List.flatten_nil, List.append_nil, List.foldl_append] at hN
        rw [st] at hN
        have fl := List.length_filter_le (fun x => !decide (x ∈ (((s.ps.take i).map outL).flatten).foldl tpAdd [])) ((outL p).foldl tpAdd [])
        rw [o_addlo e2 (by rw [sL_len, List.length_map]; omega)]
        simp
        intro d hd'
        have hdc : h' d = none := sub_no (sub_put hc) hd'
        refine hN _ _ ⟨_, d, rfl, sub_no sb hdc, ?_, ?_⟩
        · exact (fun x u hx => (sub_put hd') _ _ ((sub_put hc) _ _ (sb _ _ hx)))
        · rw [Las.put_eq]
          simp [sL]
    · rintro env h' ⟨o, b, rfl, hb, sb, e⟩
      rw [sL_len, List.take_length, ← outL_ps hf] at e
      simp
      exact end_at sb hb e (q b hb)
termination_by s.dep
end
end Snt
end Py
namespace Py
open PySem (Str)
namespace Snt
open Las
theorem fps_dep {a b : Las.Sen} (ha : a.dep ≤ 10) (hb : b.dep ≤ 10) : ∀ x ∈ fps a b, x.dep ≤ 40 := fun x hx => by
  rcases fps_mem.mp hx with h | h
  · have := (outL_t a x h).2; omega
  · have := (outL_t b x h).2; omega
theorem on_a {a b : Las.Sen} {m : Nat} (h : om (olL a ++ olL b) ≤ m) : On a (fps a b) m := ⟨fun x hx => fps_mem.mpr (.inl hx), fun k hk => Nat.lt_of_lt_of_le (om_lt (List.mem_append_left _ hk)) h⟩
theorem on_b {a b : Las.Sen} {m : Nat} (h : om (olL a ++ olL b) ≤ m) : On b (fps a b) m := ⟨fun x hx => fps_mem.mpr (.inr hx), fun k hk => Nat.lt_of_lt_of_le (om_lt (List.mem_append_right _ hk)) h⟩
theorem n_mx {xs : List Nat} {h : AH} : b1D .max (.o (.lst (.int (-1) :: nL xs))) h = some (.v (.int ((om xs : Int) - 1))) := by
  show ((intsL (.int (-1) :: nL xs)).bind maxI).map (fun m => Rv.v (.int m)) = _
  rw [show D.int (-1) :: nL xs = iL ((-1 : Int) :: xs.map fun (x : Nat) => (x : Int)) by simp [iL, nL], intsL_iL, Option.bind_some, mx_om]
  rfl
section
variable {P : Prog} {L : Nat} {h : AH} {Q : D → AH → Prop} {X : Xc}
theorem follow_i (S : Las.TS P) (C : SC P) {a b : Las.Sen} (ha : a.dep ≤ 6) (hb : b.dep ≤ 6) (hm : om (olL a ++ olL b) + (fps a b).length ≤ 20) (hna : nt a ≤ 100) (hnb : nt b ≤ 100) (hL : 9 ≤ L) (q : Q (.bl (FB a b)) h) : wC P L "follows_by_bits" [a.d, b.d] h Q X := by
  obtain ⟨n, rfl⟩ : ∃ n, L = n + 1 := ⟨L - 1, by omega⟩
  have oa := outL_nt a
  have ob := outL_nt b
  have la := olL_len a
  have lb := olL_len b
  have pa : 2 ^ a.dep ≤ 2 ^ 6 := Nat.pow_le_pow_right (by decide) ha
  have pb : 2 ^ b.dep ≤ 2 ^ 6 := Nat.pow_le_pow_right (by decide) hb
  have fd := fps_dep (a := a) (b := b) (by omega) (by omega)
  obtain ⟨m, em⟩ : ∃ m, m = om (olL a ++ olL b) := ⟨_, rfl⟩
  have oA := on_a (a := a) (b := b) (m := m) (by omega)
  have oB := on_b (a := a) (b := b) (m := m) (by omega)
  rw [← em] at hm
  refine wC_i C.fo rfl ?_
  simp [-v_rB, c_follows_by_bits, List.replicate]
  refine outp_i S C a (by omega) (by omega) fun x hx => ?_
  have ex : (put h x (.lst (sL (outL a)))) x = some (.lst (sL (outL a))) := Las.put_eq
  have sb1 := sub_put (o := .lst (sL (outL a))) hx
  generalize put h x (.lst (sL (outL a))) = h1 at ex sb1
  try simp [-v_rB]
  refine outp_i S C b (by omega) (by omega) fun y hy => ?_
  have ey : (put h1 y (.lst (sL (outL b)))) y = some (.lst (sL (outL b))) := Las.put_eq
  have ex2 := sub_put (o := .lst (sL (outL b))) hy _ _ ex
  have sb2 : Sub h (put h1 y (.lst (sL (outL b)))) := fun c u z => sub_put hy _ _ (sb1 _ _ z)
  generalize put h1 y (.lst (sL (outL b))) = h2 at ex2 ey sb2
  rw [o_addll ex2 ey (by rw [sL_len, sL_len]; omega), show sL (outL a) ++ sL (outL b) = sL (outL a ++ outL b) by simp [sL]]
  simp [-v_rB]
  intro c hc
  have ec : (put h2 c (.lst (sL (outL a ++ outL b)))) c = some (.lst (sL (outL a ++ outL b))) := Las.put_eq
  have sb3 : Sub h (put h2 c (.lst (sL (outL a ++ outL b)))) := fun c u z => sub_put hc _ _ (sb2 _ _ z)
  generalize put h2 c (.lst (sL (outL a ++ outL b))) = h3 at ec sb3
  refine eo_i C (fun x hx => by
    rcases List.mem_append.mp hx with z | z
    · have := outL_t a x z; exact ⟨this.1, by omega⟩
    · have := outL_t b x z; exact ⟨this.1, by omega⟩) (by rw [List.length_append]; omega) (by omega) ec fun d hd => ?_
  rw [show (outL a ++ outL b).foldl tpAdd [] = fps a b from rfl]
  have ed : (put h3 d (.lst (sL (fps a b)))) d = some (.lst (sL (fps a b))) := Las.put_eq
  have sb4 : Sub h (put h3 d (.lst (sL (fps a b)))) := fun c u z => sub_put hd _ _ (sb3 _ _ z)
  generalize put h3 d (.lst (sL (fps a b))) = h4 at ed sb4
  simp [-v_rB, ed]
  rw [v_rB]
  simp [-v_rB]
  refine outl_i S C a (by omega) (by omega) fun x hx => ?_
  have ex : (put h4 x (.lst (nL (olL a)))) x = some (.lst (nL (olL a))) := Las.put_eq
  have sb5 : Sub h (put h4 x (.lst (nL (olL a)))) := fun c u z => sub_put hx _ _ (sb4 _ _ z)
  generalize put h4 x (.lst (nL (olL a))) = h5 at ex sb5
  rw [o_addol ex (by simp; omega)]
  simp [-v_rB]
  refine outl_i S C b (by omega) (by omega) fun y hy => ?_
  have ey : (put h5 y (.lst (nL (olL b)))) y = some (.lst (nL (olL b))) := Las.put_eq
  have sb6 : Sub h (put h5 y (.lst (nL (olL b)))) := fun c u z => sub_put hy _ _ (sb5 _ _ z)
  generalize put h5 y (.lst (nL (olL b))) = h6 at ey sb6
  rw [o_addol ey (by simp; omega), show (D.int (-1) :: nL (olL a)) ++ nL (olL b) = .int (-1) :: nL (olL a ++ olL b) by simp [nL]]
  simp only [gd_some]
  rw [n_mx, ← em]
  simp [-v_rB]
  rw [v_rB]
  simp [-v_rB]
  rw [show (m : Int) + ((fps a b).length : Int) = ((m + (fps a b).length : Nat) : Int) by omega]
  refine Gue.bits_f (by omega) C.rb hm fun r hr => ?_
  have er : (put h6 r (.lst (Gue.rwsD (Gue.bitsL (m + (fps a b).length))))) r = some (.lst (Gue.rwsD (Gue.bitsL (m + (fps a b).length)))) := Las.put_eq
  have sb7 : Sub h (put h6 r (.lst (Gue.rwsD (Gue.bitsL (m + (fps a b).length))))) := fun c u z => sub_put hr _ _ (sb6 _ _ z)
  generalize put h6 r (.lst (Gue.rwsD (Gue.bitsL (m + (fps a b).length)))) = h7 at er sb7
  simp [-v_rB, c_l er]
  refine for_l (fun i env h' => h' = h7 ∧ (∃ o4 o5 o6, env = [some a.d, some b.d, some (.tup (sL (fps a b))), some (.int m), o4, o5, o6]) ∧ ∀ r ∈ (Gue.bitsL (m + (fps a b).length)).take i, (!(told (r.take m) (fps a b) (r.drop m) a) || told (r.take m) (fps a b) (r.drop m) b) = true) ⟨rfl, ⟨none, none, none, rfl⟩, by simp⟩ (fun i env h' _ z => by rw [z.1]; exact er) ?_ ?_
  · rintro i x env h' N hx ⟨rfl, ⟨o4, o5, o6, rfl⟩, al⟩ hN
    unfold Gue.rwsD at hx
    rw [List.getElem?_map, Option.map_eq_some_iff] at hx
    obtain ⟨w, hw, rfl⟩ := hx
    have wm := List.mem_of_getElem? hw
    have wb := (Gue.bits_mem _ w).mp wm
    have lt : (w.take m).length = m := by rw [List.length_take, wb.1]; omega
    have ld : (fps a b).length = (w.drop m).length := by rw [List.length_drop, wb.1]; omega
    have no : (!(told (w.take m) (fps a b) (w.drop m) a) || told (w.take m) (fps a b) (w.drop m) b) = false → someQ Q (.bl false) h' := fun f => by
      have : FB a b = false := by
        unfold FB
        rw [← em, List.all_eq_false]
        exact ⟨w, wm, by rw [f]; simp⟩
      rw [this] at q
      exact someQ_s sb7 q
    have yes : (!(told (w.take m) (fps a b) (w.drop m) a) || told (w.take m) (fps a b) (w.drop m) b) = true → ∀ o4 o5 o6, N [some a.d, some b.d, some (.tup (sL (fps a b))), some (.int m), o4, o5, o6] h' := fun f o4 o5 o6 => hN _ _ ⟨rfl, ⟨_, _, _, rfl⟩, fun r hr => by
      rw [take_snoc hw, List.mem_append, List.mem_singleton] at hr
      rcases hr with hr | rfl
      · exact al r hr
      · exact f⟩
    have n1 : cut (nL w) none (some (m : Int)) = nL (w.take m) := by rw [cutT]; simp [nL]
    have n2 : cut (nL w) (some (m : Int)) none = nL (w.drop m) := by rw [cutDr]; simp [nL]
    simp [-v_rB, n1, n2]
    rw [v_rB]
    simp
    refine tldo_i S a (by rw [lt]; exact oA) ld fd (by omega) ?_
    cases z : told (w.take m) (fps a b) (w.drop m) a with
    | false =>
      simp
      exact yes (by rw [z]; rfl) _ _ _
    | true =>
      simp
      refine tldo_i S b (by rw [lt]; exact oB) ld fd (by omega) ?_
      cases z2 : told (w.take m) (fps a b) (w.drop m) b with
      | false =>
        simp
        exact no (by rw [z, z2]; rfl)
      | true =>
        simp
        exact yes (by rw [z, z2]; rfl) _ _ _
  · rintro env h' ⟨rfl, ⟨o4, o5, o6, rfl⟩, al⟩
    simp
    have : FB a b = true := by
      unfold FB
      rw [← em, List.all_eq_true]
      intro r hr
      refine al r ?_
      simp only [Gue.rwsD_len, List.take_length]
      exact hr
    rw [this] at q
    exact someQ_s sb7 q
end
end Snt
end Py
namespace Py
open PySem (Str)
namespace Snt
open Las
theorem sm_sen : ∀ s : Las.Sen, sm s.dep s.d = true := by
  have mono : ∀ (n : Nat) (s : Las.Sen), s.dep ≤ n → sm n s.d = true := by
    intro n
    induction n with
    | zero => intro s h; cases s <;> simp only [Sen.dep] at h <;> omega
    | succ n ih =>
      intro s h
      cases s with
      | tru => cases n <;> rfl
      | lig k => cases n <;> rfl
      | neg a =>
        have := ih a (by simp only [Sen.dep] at h; omega)
        show (decide (2 ≤ 16777216) && (sm n (.str _) && (sm n a.d && true))) = true
        rw [this]; cases n <;> rfl
      | con a b =>
        have h1 := ih a (by simp only [Sen.dep] at h; omega)
        have h2 := ih b (by simp only [Sen.dep] at h; omega)
        show (decide (3 ≤ 16777216) && (sm n (.str _) && (sm n a.d && (sm n b.d && true)))) = true
        rw [h1, h2]; cases n <;> rfl
      | dis a b =>
        have h1 := ih a (by simp only [Sen.dep] at h; omega)
        have h2 := ih b (by simp only [Sen.dep] at h; omega)
        show (decide (3 ≤ 16777216) && (sm n (.str _) && (sm n a.d && (sm n b.d && true)))) = true
        rw [h1, h2]; cases n <;> rfl
      | alw a =>
        have := ih a (by simp only [Sen.dep] at h; omega)
        show (decide (2 ≤ 16777216) && (sm n (.str _) && (sm n a.d && true))) = true
        rw [this]; cases n <;> rfl
      | atl a =>
        have := ih a (by simp only [Sen.dep] at h; omega)
        show (decide (2 ≤ 16777216) && (sm n (.str _) && (sm n a.d && true))) = true
        rw [this]; cases n <;> rfl
      | unt a b =>
        have h1 := ih a (by simp only [Sen.dep] at h; omega)
        have h2 := ih b (by simp only [Sen.dep] at h; omega)
        show (decide (3 ≤ 16777216) && (sm n (.str _) && (sm n a.d && (sm n b.d && true)))) = true
        rw [h1, h2]; cases n <;> rfl
  exact fun s => mono s.dep s (Nat.le_refl _)
theorem sm_mono : ∀ (n m : Nat) (d : D), n ≤ m → sm n d = true → sm m d = true
  | 0, m, d, _, h => by cases d <;> first | (cases m <;> rfl) | (simp [sm] at h)
  | n + 1, 0, d, hm, h => by omega
  | n + 1, m + 1, d, hm, h => by
    cases d with
    | tup xs =>
      unfold sm at h ⊢
      rw [Bool.and_eq_true, List.all_eq_true] at h ⊢
      exact ⟨h.1, fun x hx => sm_mono n m x (by omega) (h.2 x hx)⟩
    | _ => first | rfl | (simp [sm] at h)
theorem sm_sL {xs : List Las.Sen} {n : Nat} (h : ∀ s ∈ xs, s.dep ≤ n) (hl : xs.length ≤ 1000) : sm (n + 1) (.tup (sL xs)) = true := by
  unfold sm
  rw [Bool.and_eq_true, List.all_eq_true]
  refine ⟨by rw [sL_len]; simp; omega, fun d hd => ?_⟩
  obtain ⟨s, hs, rfl⟩ := List.mem_map.mp hd
  exact sm_mono _ _ _ (h s hs) (sm_sen s)
section
variable {P : Prog} {L : Nat} {h : AH} {Q : D → AH → Prop} {X : Xc}
theorem lfol_i (K : SK P) (T : Gue.TQ P) {a b : Las.Sen} {many : Nat} (hk : many ≤ 10) (ha : a.dep ≤ 6) (hb : b.dep ≤ 6) (hm : om (olL a ++ olL b) ≤ many) (hf : (fps a b).length ≤ 20) (hna : nt a ≤ 100) (hnb : nt b ≤ 100) (hL : 9 ≤ L) (q : Q (.bl (LB many a b)) h) : wC P L "_law_follows" [a.d, b.d, .int many] h Q X := by
  obtain ⟨n, rfl⟩ : ∃ n, L = n + 1 := ⟨L - 1, by omega⟩
  have oa := outL_nt a
  have ob := outL_nt b
  have fd := fps_dep (a := a) (b := b) (by omega) (by omega)
  have ta := tp_take (xs := outL a) (i := (outL a).length)
  rw [List.take_length] at ta
  have tb := tp_take (xs := outL b) (i := (outL b).length)
  rw [List.take_length] at tb
  refine wC_i K.fo rfl ?_
  simp [-v_rB, c__law_follows, List.replicate]
  refine lou_i K T a (by omega) (by omega) (by omega) fun x hx => ?_
  have ex : (put h x (.lst (sL ((outL a).foldl tpAdd [])))) x = some (.lst (sL ((outL a).foldl tpAdd []))) := Las.put_eq
  have sb1 := sub_put (o := .lst (sL ((outL a).foldl tpAdd []))) hx
  generalize put h x (.lst (sL ((outL a).foldl tpAdd []))) = h1 at ex sb1
  try simp [-v_rB]
  rw [v_rB]
  simp [-v_rB]
  refine lou_i K T b (by omega) (by omega) (by omega) fun y hy => ?_
  have ey : (put h1 y (.lst (sL ((outL b).foldl tpAdd [])))) y = some (.lst (sL ((outL b).foldl tpAdd []))) := Las.put_eq
  have ex2 := sub_put (o := .lst (sL ((outL b).foldl tpAdd []))) hy _ _ ex
  have sb2 : Sub h (put h1 y (.lst (sL ((outL b).foldl tpAdd [])))) := fun c u z => sub_put hy _ _ (sb1 _ _ z)
  generalize put h1 y (.lst (sL ((outL b).foldl tpAdd []))) = h2 at ex2 ey sb2
  simp [-v_rB, c_l ey]
  have m40 : ∀ x ∈ (outL a).foldl tpAdd [], x.dep ≤ 40 := fun x hx => by
    rw [tp_mem] at hx
    have := (outL_t a x (hx.resolve_left (by simp)).1).2; omega
  refine compi_g Sen.d Sen.d (fun x => !decide (x ∈ (outL a).foldl tpAdd [])) ((outL b).foldl tpAdd []) rfl ey (by omega) (fun x hx k hkk => ?_) ?_
  · have xd : x.dep ≤ 40 := by
      rw [tp_mem] at hx
      have := (outL_t b x ((hx.resolve_left (by simp)).1)).2
      omega
    simp [wipe]
    rw [k_ninS ex2 m40 xd]
    simp
    by_cases z : x ∈ (outL a).foldl tpAdd []
    · simp [z] at hkk ⊢
      exact hkk
    · simp [z] at hkk ⊢
      exact hkk
  have fl := List.length_filter_le (fun x => !decide (x ∈ (outL a).foldl tpAdd [])) ((outL b).foldl tpAdd [])
  rw [o_addlo ex2 (by rw [sL_len, List.length_map]; omega), show sL ((outL a).foldl tpAdd []) ++ (((outL b).foldl tpAdd []).filter fun x => !decide (x ∈ (outL a).foldl tpAdd [])).map Sen.d = sL (fps a b) by
    unfold fps
    rw [List.foldl_append, Gue.tp_step (outL b) ((outL a).foldl tpAdd [])]
    simp [sL]]
  simp [-v_rB]
  intro p hp
  have ep : (put h2 p (.lst (sL (fps a b)))) p = some (.lst (sL (fps a b))) := Las.put_eq
  have sb3 : Sub h (put h2 p (.lst (sL (fps a b)))) := fun c u z => sub_put hp _ _ (sb2 _ _ z)
  generalize put h2 p (.lst (sL (fps a b))) = h3 at ep sb3
  rw [v_rB]
  simp [-v_rB]
  refine Gue.lbits_i (by omega) T (by omega) fun r hr => ?_
  have er : (put h3 r (.lst (Gue.rwsD (Gue.bitsL many)))) r = some (.lst (Gue.rwsD (Gue.bitsL many))) := Las.put_eq
  have sb4 : Sub h3 (put h3 r (.lst (Gue.rwsD (Gue.bitsL many)))) := sub_put hr
  generalize put h3 r (.lst (Gue.rwsD (Gue.bitsL many))) = h4 at er sb4
  simp [-v_rB, c_l er]
  refine for_l (fun i env h' => Sub h4 h' ∧ (∃ o4 o5 o6 o7, env = [some a.d, some b.d, some (.int many), some (.loc p), o4, o5, o6, o7]) ∧ ∀ l ∈ (Gue.bitsL many).take i, ((Gue.bitsL (fps a b).length).all fun g => !(told l (fps a b) g a) || told l (fps a b) g b) = true) ⟨sub_refl, ⟨none, none, none, none, rfl⟩, by simp⟩ (fun i env h' _ z => z.1 _ _ er) ?_ ?_
  · rintro i x env h5 N hx ⟨sb5, ⟨o4, o5, o6, o7, rfl⟩, al⟩ hN
    unfold Gue.rwsD at hx
    rw [List.getElem?_map, Option.map_eq_some_iff] at hx
    obtain ⟨l, hl, rfl⟩ := hx
    have lm := List.mem_of_getElem? hl
    have lbt := (Gue.bits_mem _ l).mp lm
    have ep5 := sb5 _ _ (sb4 _ _ ep)
    have pl := n_len_l ep5
    rw [sL_len] at pl
    simp [-v_rB, pl]
    refine Gue.lbits_i (by omega) T (by omega) fun w hw => ?_
    have ew : (put h5 w (.lst (Gue.rwsD (Gue.bitsL (fps a b).length)))) w = some (.lst (Gue.rwsD (Gue.bitsL (fps a b).length))) := Las.put_eq
    have sb6 : Sub h5 (put h5 w (.lst (Gue.rwsD (Gue.bitsL (fps a b).length)))) := sub_put hw
    generalize put h5 w (.lst (Gue.rwsD (Gue.bitsL (fps a b).length))) = h6 at ew sb6
    have ep6 := sb6 _ _ ep5
    simp [-v_rB, c_l ew]
    refine for_l (fun j env h' => h' = h6 ∧ (∃ o5 o6 o7, env = [some a.d, some b.d, some (.int many), some (.loc p), some (.tup (nL l)), o5, o6, o7]) ∧ ∀ g ∈ (Gue.bitsL (fps a b).length).take j, (!(told l (fps a b) g a) || told l (fps a b) g b) = true) ⟨rfl, ⟨_, _, _, rfl⟩, by simp⟩ (fun i env h' _ z => by rw [z.1]; exact ew) ?_ ?_
    · rintro j x env h7 N2 hx ⟨rfl, ⟨o5, o6, o7, rfl⟩, al2⟩ hN2
      unfold Gue.rwsD at hx
      rw [List.getElem?_map, Option.map_eq_some_iff] at hx
      obtain ⟨g, hg, rfl⟩ := hx
      have gm := List.mem_of_getElem? hg
      have gbt := (Gue.bits_mem _ g).mp gm
      have no : (!(told l (fps a b) g a) || told l (fps a b) g b) = false → someQ Q (.bl false) h7 := fun f => by
        have : LB many a b = false := by
          unfold LB
          rw [List.all_eq_false]
          refine ⟨l, lm, ?_⟩
          rw [Bool.not_eq_true, List.all_eq_false]
          exact ⟨g, gm, by rw [f]; simp⟩
        rw [this] at q
        exact someQ_s (fun c u z => sb6 _ _ (sb5 _ _ (sb4 _ _ (sb3 _ _ z)))) q
      have yes : (!(told l (fps a b) g a) || told l (fps a b) g b) = true → ∀ o5 o6 o7, N2 [some a.d, some b.d, some (.int many), some (.loc p), some (.tup (nL l)), o5, o6, o7] h7 := fun f o5 o6 o7 => hN2 _ _ ⟨rfl, ⟨_, _, _, rfl⟩, fun r hr => by
        rw [take_snoc hg, List.mem_append, List.mem_singleton] at hr
        rcases hr with hr | rfl
        · exact al2 r hr
        · exact f⟩
      simp
      refine lnwo_i T a (on_a (by rw [lbt.1]; exact hm)) gbt.1.symm fd (by omega) ep6 ?_
      cases z : told l (fps a b) g a with
      | false =>
        simp
        exact yes (by rw [z]; rfl) _ _ _
      | true =>
        simp
        refine lnwo_i T b (on_b (by rw [lbt.1]; exact hm)) gbt.1.symm fd (by omega) ep6 ?_
        cases z2 : told l (fps a b) g b with
        | false =>
          simp
          exact no (by rw [z, z2]; rfl)
        | true =>
          simp
          exact yes (by rw [z, z2]; rfl) _ _ _
    · rintro env h7 ⟨rfl, ⟨o5, o6, o7, rfl⟩, al2⟩
      simp
      refine hN _ _ ⟨fun c u z => sb6 _ _ (sb5 _ _ z), ⟨_, _, _, _, rfl⟩, fun r hr => ?_⟩
      rw [take_snoc hl, List.mem_append, List.mem_singleton] at hr
      rcases hr with hr | rfl
      · exact al r hr
      · rw [List.all_eq_true]
        intro g hg
        refine al2 g ?_
        simp only [Gue.rwsD_len, List.take_length]
        exact hg
  · rintro env h5 ⟨sb5, ⟨o4, o5, o6, o7, rfl⟩, al⟩
    simp
    have : LB many a b = true := by
      unfold LB
      rw [List.all_eq_true]
      intro l hl
      refine al l ?_
      simp only [Gue.rwsD_len, List.take_length]
      exact hl
    rw [this] at q
    exact someQ_s (fun c u z => sb5 _ _ (sb4 _ _ (sb3 _ _ z))) q
end
end Snt
end Py
namespace Py
open PySem (Str)
namespace Snt
open Las
section
variable {P : Prog} {L : Nat} {h : AH} {Q : D → AH → Prop} {X : Xc}
theorem guess_i (S : Las.TS P) (C : SC P) {s w : Las.Sen} {l : Itm} {bs : List Nat} (ok : s.Ok l.length) (hp : ∀ x ∈ allS s, x.isT = true → x ∈ tpL w) (hd : w.dep ≤ 10) (hs : s.dep ≤ 10) (hb : (tpL w).length = bs.length) (hL : 13 ≤ L) (q : Q (.bl (told l (tpL w) bs s)) h) : wC P L "told_by_guess" [s.d, w.d, .tup (nL l), .tup (nL bs)] h Q X := by
  obtain ⟨n, rfl⟩ : ∃ n, L = n + 1 := ⟨L - 1, by omega⟩
  refine wC_i C.tg rfl ?_
  simp [c_told_by_guess, List.replicate]
  refine time_i S (by omega) (by omega) ?_
  try simp
  refine told_i S s ok hp hb (fun x hx => by
    have := allS_dep w x (tpL_mem.mp hx).1
    omega) (by omega) ?_
  exact someQ_i q
theorem told_s (S : Las.TS P) (C : SC P) (K : SK P) (T : Gue.TQ P) (hf : P.fn "_law_is_told" = some c__law_is_told) (hs : P.fn "_law_same" = some c__law_same) {s : Las.Sen} {many : Nat} (ok : s.Ok many) (hm : many ≤ 10) (hd : s.dep ≤ 6) (hn : nt s ≤ 10) (hL : 14 ≤ L) (q : Q (.bl true) h) : wC P L "_law_is_told" [s.d, .int many] h Q X := by
  obtain ⟨n, rfl⟩ : ∃ n, L = n + 1 := ⟨L - 1, by omega⟩
  have tn := tpL_nt s
  have ll := lig_len (zS s)
  rw [zS_dep] at ll
  have p6 : 2 ^ s.dep ≤ 2 ^ 6 := Nat.pow_le_pow_right (by decide) hd
  have td : ∀ x ∈ tpL s, x.dep ≤ 6 := fun x hx => by
    have := allS_dep s x (tpL_mem.mp hx).1
    omega
  refine wC_i hf rfl ?_
  simp [-v_rB, c__law_is_told, List.replicate]
  refine Gue.times_i T s (by omega) (by omega) fun p hp => ?_
  have ep : (put h p (.lst (sL (tpL s)))) p = some (.lst (sL (tpL s))) := Las.put_eq
  have sb0 := sub_put (o := .lst (sL (tpL s))) hp
  generalize put h p (.lst (sL (tpL s))) = h1 at ep sb0
  have pl := fun (h : AH) (e : h p = some (.lst (sL (tpL s)))) => n_len_l e
  simp only [sL_len] at pl
  rw [v_rB]
  simp [-v_rB]
  refine time_i S (by omega) (by omega) ?_
  simp [-v_rB, ep]
  refine same_n hs 7 (by omega) (sm_sL td (by omega)) ?_
  simp [-v_rB]
  rw [← zS_d s]
  refine lights_i S C (by rw [zS_dep]; omega) (by rw [zS_dep]; omega) ?_
  try simp [-v_rB]
  refine llig_i K T (zS s) (by rw [zS_dep]; omega) (by rw [zS_dep]; omega) fun b hb => ?_
  have eb : (put h1 b (.lst (iL (ligL (zS s))))) b = some (.lst (iL (ligL (zS s)))) := Las.put_eq
  have ep2 := sub_put (o := .lst (iL (ligL (zS s)))) hb _ _ ep
  have sb1 : Sub h (put h1 b (.lst (iL (ligL (zS s))))) := fun c u z => sub_put hb _ _ (sb0 _ _ z)
  generalize put h1 b (.lst (iL (ligL (zS s)))) = h2 at eb ep2 sb1
  try simp only [gd_some, rv_v]
  rw [n_ssl eb (by omega)]
  simp [-v_rB]
  have sl : (sortI (ddI (ligL (zS s)))).length ≤ 16777216 := by
    rw [sortI_len]
    have := ddI_le (ligL (zS s))
    omega
  refine same_n hs 1 (by omega) (sm_iL sl) ?_
  simp [-v_rB]
  rw [v_rB]
  simp [-v_rB]
  refine depth_i S C (zS s) (by rw [zS_dep]; omega) (by rw [zS_dep]; omega) ?_
  try simp [-v_rB]
  refine ldepth_i K T (zS s) (by rw [zS_dep]; omega) (by rw [zS_dep]; omega) ?_
  try simp [-v_rB]
  refine same_n hs 1 (by omega) rfl ?_
  simp [-v_rB]
  rw [zS_d s]
  refine mom_i S (by omega) (by omega) ?_
  simp [-v_rB, pl _ ep2]
  have em : mom s = decide ((tpL s) = []) := by
    unfold mom
    exact decide_eq_decide.mpr List.length_eq_zero_iff
  rw [em]
  refine same_n hs 1 (by omega) rfl ?_
  simp [-v_rB]
  rw [v_rB]
  simp [-v_rB]
  refine Gue.lbits_i (by omega) T (by omega) fun r hr => ?_
  have er : (put h2 r (.lst (Gue.rwsD (Gue.bitsL many)))) r = some (.lst (Gue.rwsD (Gue.bitsL many))) := Las.put_eq
  have sb2 : Sub h2 (put h2 r (.lst (Gue.rwsD (Gue.bitsL many)))) := sub_put hr
  generalize put h2 r (.lst (Gue.rwsD (Gue.bitsL many))) = h3 at er sb2
  simp [-v_rB, c_l er]
  refine for_l (fun i env h' => Sub h3 h' ∧ ∃ o3 o4, env = [some s.d, some (.int many), some (.loc p), o3, o4]) ⟨sub_refl, none, none, rfl⟩ (fun i env h' _ z => z.1 _ _ er) ?_ ?_
  · rintro i x env h4 N hx ⟨sb4, o3, o4, rfl⟩ hN
    unfold Gue.rwsD at hx
    rw [List.getElem?_map, Option.map_eq_some_iff] at hx
    obtain ⟨l, hl, rfl⟩ := hx
    have lbt := (Gue.bits_mem _ l).mp (List.mem_of_getElem? hl)
    have okl : s.Ok l.length := by rw [lbt.1]; exact ok
    have ep4 := sb4 _ _ (sb2 _ _ ep2)
    -- the first question
    refine cut_i (fun env h' => Sub h3 h' ∧ ∃ o4, env = [some s.d, some (.int many), some (.loc p), some (.tup (nL l)), o4]) (fun N2 hN2 => ?_) ?_
    · by_cases z : tpL s = []
      · have pl4 := pl _ ep4
        simp [pl4, z]
        have mt : mom s = true := by rw [em, z]; rfl
        refine now_i (by omega) S s okl mt (by omega) ?_
        try simp
        intro c hc
        have ec : (put h4 c (.lst [])) c = some (.lst (sL [])) := Las.put_eq
        have sb5 := sub_put (o := .lst []) hc
        generalize put h4 c (.lst []) = h5 at ec sb5
        refine Gue.lnow_i (ps := []) (bs := []) T s okl (fun x hx hxt => ?_) rfl (by simp) (by omega) ec ?_
        · have := (mom_iff.mp mt) x hx
          rw [hxt] at this; cases this
        try simp
        refine same_n hs 1 (by omega) rfl ?_
        simp
        exact hN2 _ _ ⟨fun c u z => sb5 _ _ (sb4 _ _ z), _, rfl⟩
      · have pl4 := pl _ ep4
        have z2 : ¬ (tpL s).length = 0 := fun e => z (List.length_eq_zero_iff.mp e)
        simp [pl4, z, z2]
        exact hN2 _ _ ⟨sb4, _, rfl⟩
    rintro env h5 ⟨sb5, o4, rfl⟩
    have ep5 := sb5 _ _ (sb2 _ _ ep2)
    simp [-v_rB, pl _ ep5]
    refine Gue.lbits_i (by omega) T (by omega) fun w hw => ?_
    have ew : (put h5 w (.lst (Gue.rwsD (Gue.bitsL (tpL s).length)))) w = some (.lst (Gue.rwsD (Gue.bitsL (tpL s).length))) := Las.put_eq
    have sb6 : Sub h5 (put h5 w (.lst (Gue.rwsD (Gue.bitsL (tpL s).length)))) := sub_put hw
    generalize put h5 w (.lst (Gue.rwsD (Gue.bitsL (tpL s).length))) = h6 at ew sb6
    have ep6 := sb6 _ _ ep5
    simp [-v_rB, c_l ew]
    refine for_l (fun j env h' => h' = h6 ∧ ∃ o4, env = [some s.d, some (.int many), some (.loc p), some (.tup (nL l)), o4]) ⟨rfl, _, rfl⟩ (fun i env h' _ z => by rw [z.1]; exact ew) ?_ ?_
    · rintro j x env h7 N2 hx ⟨rfl, o4, rfl⟩ hN2
      unfold Gue.rwsD at hx
      rw [List.getElem?_map, Option.map_eq_some_iff] at hx
      obtain ⟨g, hg, rfl⟩ := hx
      have gbt := (Gue.bits_mem _ g).mp (List.mem_of_getElem? hg)
      simp
      refine guess_i S C okl (fun x hx ht => tpL_mem.mpr ⟨hx, ht⟩) (by omega) (by omega) gbt.1.symm (by omega) ?_
      try simp
      refine Gue.lnow_i T s okl (fun x hx ht => tpL_mem.mpr ⟨hx, ht⟩) gbt.1.symm (fun x hx => by have := td x hx; omega) (by omega) ep6 ?_
      try simp
      refine same_n hs 1 (by omega) rfl ?_
      simp
      exact hN2 _ _ ⟨rfl, _, rfl⟩
    · rintro env h7 ⟨rfl, o4, rfl⟩
      simp
      exact hN _ _ ⟨fun c u z => sb6 _ _ (sb5 _ _ z), _, _, rfl⟩
  · rintro env h4 ⟨sb4, o3, o4, rfl⟩
    simp
    exact someQ_s (fun c u z => sb4 _ _ (sb2 _ _ (sb1 _ _ z))) q
def trD : D := .tup [.str (tn .tru)]
theorem join2_i (C : SC P) (hL : 1 ≤ L) {x y : D} (q : Q (.tup [.str (tn .con), x, .tup [.str (tn .con), y, trD]]) h) : wC P L "joined_sentences" [.str (tn .con), .tup [x, y]] h Q X := by
  obtain ⟨n, rfl⟩ : ∃ n, L = n + 1 := ⟨L - 1, by omega⟩
  refine wC_i C.jo rfl ?_
  simp [c_joined_sentences, List.replicate, Las.m4, C.gT]
  refine Cor.for_cons ?_
  simp
  refine Cor.for_cons ?_
  simp
  refine Cor.for_nil ?_
  simp
  exact someQ_i q
theorem joinC_i (C : SC P) (hL : 1 ≤ L) (q : Q trD h) : wC P L "joined_sentences" [.str (tn .con), .tup []] h Q X := by
  obtain ⟨n, rfl⟩ : ∃ n, L = n + 1 := ⟨L - 1, by omega⟩
  refine wC_i C.jo rfl ?_
  simp [c_joined_sentences, List.replicate, Las.m4, C.gT]
  refine Cor.for_nil ?_
  simp
  exact someQ_i q
theorem join1_i (C : SC P) (hL : 1 ≤ L) {x : D} (q : Q (.tup [.str (tn .dis), x, .tup [.str (tn .neg), trD]]) h) : wC P L "joined_sentences" [.str (tn .dis), .tup [x]] h Q X := by
  obtain ⟨n, rfl⟩ : ∃ n, L = n + 1 := ⟨L - 1, by omega⟩
  refine wC_i C.jo rfl ?_
  simp [c_joined_sentences, List.replicate, Las.m3, Las.m4, C.gT]
  refine Cor.for_cons ?_
  simp
  refine Cor.for_nil ?_
  simp
  exact someQ_i q
theorem joinD_i (C : SC P) (hL : 1 ≤ L) (q : Q (.tup [.str (tn .neg), trD]) h) : wC P L "joined_sentences" [.str (tn .dis), .tup []] h Q X := by
  obtain ⟨n, rfl⟩ : ∃ n, L = n + 1 := ⟨L - 1, by omega⟩
  refine wC_i C.jo rfl ?_
  simp [c_joined_sentences, List.replicate, Las.m3, Las.m4, C.gT]
  refine Cor.for_nil ?_
  simp
  exact someQ_i q
end
end Snt
end Py
namespace Py
open PySem (Str)
namespace K70
open Las
structure Hk (P : Prog) : Prop where
  law : P.fn "law" = some Snt.c_law
  draws : P.fn "_law_draws" = some c__law_draws
  same : P.fn "_law_same" = some c__law_same
  tk : P.fn "_law_take" = some c__law_take
  cell : P.fn "_law_cell" = some c__law_cell
  mo : P.fn "_law_moment" = some Las.c__law_moment
  se : P.fn "_law_sentence" = some Las.c__law_sentence
  told : P.fn "_law_is_told" = some Snt.c__law_is_told
  chk : P.fn "_law_is_checked" = some Snt.c__law_is_checked
  x_rf : P.fn "_law_is_refused" = some Snt.c__law_is_refused
  x_s1 : P.sub "InvalidSentence" "TickError" = some true
  x_s2 : P.sub "InvalidSentence" (isaN "InvalidSentence") = some true
  x_s3 : P.sub "InvalidSentence" (isaN "ValueError") = some true
  x_s4 : P.sub "InvalidSentence" (isaN "InvalidWorld") = some false
  k_li : P.fn "_law_lights_in" = some Snt.c__law_lights_in
  k_dp : P.fn "_law_depth" = some Snt.c__law_depth
  k_ou : P.fn "_law_outer" = some Snt.c__law_outer
  k_fo : P.fn "_law_follows" = some Snt.c__law_follows
  c_li : P.fn "lights_in_sentence" = some Snt.c_lights_in_sentence
  c_ck : P.fn "check_sentence" = some Snt.c_check_sentence
  c_cm : P.fn "check_moment_sentence" = some Snt.c_check_moment_sentence
  c_dp : P.fn "depth_of_sentence" = some Snt.c_depth_of_sentence
  c_tg : P.fn "told_by_guess" = some Snt.c_told_by_guess
  c_jo : P.fn "joined_sentences" = some Snt.c_joined_sentences
  c_op : P.fn "outer_time_parts" = some Snt.c_outer_time_parts
  c_ol : P.fn "outer_lights" = some Snt.c_outer_lights
  c_eo : P.fn "each_sentence_once" = some Snt.c_each_sentence_once
  c_fo : P.fn "follows_by_bits" = some Snt.c_follows_by_bits
  c_rb : P.fn "rows_of_bits" = some Gue.c_rows_of_bits
  c_gT : P.gl "TRUE" = some (.tup [.str (Las.tn .tru)])
  q_inn : P.fn "_law_inner" = some Gue.c__law_inner
  q_tm : P.fn "_law_times" = some Gue.c__law_times
  q_now : P.fn "_law_now" = some Gue.c__law_now
  q_bits : P.fn "_law_bits" = some Gue.c__law_bits
  s_ps : P.fn "parts_of_sentence" = some Las.c_parts_of_sentence
  s_al : P.fn "all_in_sentence" = some Las.c_all_in_sentence
  s_tp : P.fn "time_parts" = some Las.c_time_parts
  s_mo : P.fn "is_of_moment" = some Las.c_is_of_moment
  s_jt : P.fn "joined_truths" = some Las.c_joined_truths
  s_tb : P.fn "told_by_bits" = some Las.c_told_by_bits
  s_hn : P.fn "holds_now" = some Las.c_holds_now
  s_gh : P.gl "TIME_HEADS" = some (.tup Las.heads)
theorem Hk.TS {P : Prog} (H : Hk P) : Las.TS P := ⟨H.s_ps, H.s_al, H.s_tp, H.s_mo, H.s_jt, H.s_tb, H.s_hn, H.s_gh⟩
theorem Hk.SC {P : Prog} (H : Hk P) : Snt.SC P := ⟨H.c_li, H.c_ck, H.c_cm, H.c_dp, H.c_tg, H.c_jo, H.c_op, H.c_ol, H.c_eo, H.c_fo, H.c_rb, H.c_gT⟩
theorem Hk.SK {P : Prog} (H : Hk P) : Snt.SK P := ⟨H.k_li, H.k_dp, H.k_ou, H.k_fo⟩
theorem Hk.SX {P : Prog} (H : Hk P) : Snt.SX P := ⟨H.x_rf, H.x_s1, H.x_s2, H.x_s3, H.x_s4⟩
theorem Hk.TQ {P : Prog} (H : Hk P) : Gue.TQ P := ⟨H.q_inn, H.q_tm, H.q_now, H.q_bits⟩
theorem Hk.SD {P : Prog} (H : Hk P) : Snt.SD P := ⟨H.tk, H.mo, H.se⟩
open Snt
def P0 : Las.Sen := .lig 0
def Q0 : Las.Sen := .lig 1
def wh : Las.Sen := .unt (.atl Q0) (.con (.alw P0) (.atl Q0))
theorem w_tp : tpL wh = [.atl Q0, .alw P0, wh] := by decide +kernel
theorem w_td : Las.told [0, 1] (tpL wh) [1, 0, 1] (.neg (.alw P0)) = true := by decide +kernel
theorem b1 : FB (.alw P0) P0 = false := by decide +kernel
theorem b2 : FB (.con P0 (.alw Q0)) (.dis (.alw Q0) (.lig 3)) = true := by decide +kernel
theorem b3 : FB P0 .tru = true := by decide +kernel
theorem b4 : FB .tru P0 = false := by decide +kernel
theorem b5 : FB (.dis (.neg .tru) (.atl P0)) (.atl P0) = true := by decide +kernel
end K70
end Py
namespace Py
open PySem (Str)
namespace K70
open Las Snt
theorem ol_lt {many : Nat} : ∀ {s : Las.Sen}, s.Ok many → ∀ k ∈ olL s, k < many
  | .tru, _, k, h => by simp [olL] at h
  | .lig j, o, k, h => by simp [olL] at h; subst h; exact o
  | .neg a, o, k, h => ol_lt (s := a) o k h
  | .con a b, o, k, h => by
    rcases List.mem_append.mp h
        with h | h
    · exact ol_lt (s := a) o.1 k h
    · exact ol_lt (s := b) o.2 k h
  | .dis a b, o, k, h => by
    rcases List.mem_append.mp h
        with h | h
    · exact ol_lt (s := a) o.1 k h
    · exact ol_lt (s := b) o.2 k h
  | .alw a, o, k, h => by simp [olL] at h
  | .atl a, o, k, h => by simp [olL] at h
  | .unt a b, o, k, h => by simp [olL] at h
def oth (s m s2 : Las.Sen) : List Las.Sen := [s, m, .dis m s, .con s m, .neg s, .alw m, s2]
theorem oth_d {s m s2 : Las.Sen} : sL (oth s m s2) = [s.d, m.d, .tup [.str (Str.ofString "or"), m.d, s.d], .tup [.str (Str.ofString "and"), s.d, m.d], .tup [.str (Str.ofString "not"), s.d], .tup [.str (Str.ofString "always"), m.d], s2.d] := rfl
theorem oth_ok {many : Nat} {s m s2 : Las.Sen} (s1 : s.Ok many ∧ nt s ≤ 4) (d1 : s.dep ≤ 5) (m1 : m.Ok many ∧ nt m = 0) (e1 : m.dep ≤ 4) (t1 : s2.Ok many ∧ nt s2 ≤ 2) (f1 : s2.dep ≤ 4) : ∀ x ∈ oth s m s2, x.Ok many ∧ nt x ≤ 4 ∧ x.dep ≤ 6 := by
  intro x hx
  simp [oth] at hx
  obtain ⟨a1, a2⟩ := s1
  obtain ⟨b1, b2⟩ := m1
  obtain ⟨c1, c2⟩ := t1
  rcases hx with rfl | rfl | rfl | rfl | rfl | rfl | rfl
  · exact ⟨a1, a2, by omega⟩
  · exact ⟨b1, by omega, by omega⟩
  · exact ⟨⟨b1, a1⟩, by simp only [nt]; omega, by simp only [Las.Sen.dep]; omega⟩
  · exact ⟨⟨a1, b1⟩, by simp only [nt]; omega, by simp only [Las.Sen.dep]; omega⟩
  · exact ⟨a1, by simp only [nt]; omega, by simp only [Las.Sen.dep]; omega⟩
  · exact ⟨b1, by simp only [nt]; omega, by simp only [Las.Sen.dep]; omega⟩
  · exact ⟨c1, by omega, by omega⟩
theorem law70 {P : Prog} (H : Hk P) (ns : List Int) (hn : ns.length ≤ 63) : wC P 16 "law" [.fl (iL ns)] (fun _ => none) (fun v _ => v = .bl true) noX := by
  have s3' : small62 3 = true := by decide
  refine wC_i H.law rfl ?_
  simp only [Snt.c_law, v_start, List.replicate, List.length_cons, List.length_nil, List.map_cons, List.map_nil, List.cons_append, List.nil_append]
  try simp [-v_rB]
  refine draws_i (m := 320) H.draws hn (by decide) (by decide) fun g ds ng => ?_
  rw [v_rB]
  try simp [-v_rB]
  have hg : (put (fun _ => none) g (.lst (iL ds)) : AH) g ≠ none := by rw [Las.put_eq]; simp
  have kd0 : Kd (put (fun _ => none) g (.lst (iL ds))) g (put (fun _ => none) g (.lst (iL ds))) := Kd.refl (ds := ds) Las.put_eq
  generalize (put (fun _ => none) g (.lst (iL ds)) : AH) = h0 at hg kd0
  refine cell_i H.cell fun cell => ?_
  rw [v_rB]
  try simp [-v_rB]
  refine take_k (m := 3) (by omega) H.tk kd0 (by omega) fun v h1 hv kd1 _ => ?_
  obtain ⟨many, em⟩ : ∃ m, m = v + 1 := ⟨_, rfl⟩
  have em2 : (1 : Int) + (v : Int) = (many : Int) := by omega
  have m1 : 0 < many := by omega
  have m3 : many ≤ 3 := by omega
  simp [-v_rB, em2]
  rw [v_rB]
  try simp [-v_rB]
  refine sen_t (t := 4) H.SD m1 5 (by omega) (by omega) kd1 fun s h2 sk sd kd2 => ?_
  rw [v_rB]
  try simp [-v_rB]
  refine mom_t H.SD m1 4 (by omega) (by omega) kd2 fun m h3 mk md kd3 => ?_
  rw [v_rB]
  try simp [-v_rB]
  refine for_f (fun i env h' => h' = h3 ∧ ∃ o, env = [some (.fl (iL ns)), some (.loc g), some (.int cell), some (.int many), some s.d, some m.d, o, none, none, none, none, none, none, none, none, none]) ⟨rfl, none, rfl⟩ ?_ ?_
  · rintro i x env h' N hx ⟨rfl, o, rfl⟩ hN
    obtain ⟨z, rfl, zk, zd, zn⟩ : ∃ z : Las.Sen, x = z.d ∧ z.Ok many ∧ z.dep ≤ 6 ∧ nt z ≤ 10 := by
      have := List.mem_of_getElem? hx
      simp at this
      rcases this with rfl | rfl
      · exact ⟨s, rfl, sk.1, by omega, by omega⟩
      · exact ⟨m, rfl, mk.1, by omega, by omega⟩
    try simp [-v_rB]
    refine told_s H.TS H.SC H.SK H.TQ H.told H.same zk (by omega) zd zn (by omega) ?_
    try simp [-v_rB]
    rw [← zS_d z]
    refine chkd_i H.TS H.SC H.SK H.TQ H.SX H.chk (by rw [zS_dep]; omega) (by rw [zS_dep]; omega) ?_
    try simp [-v_rB]
    refine chkd_i (many := (many : Int) - 1) H.TS H.SC H.SK H.TQ H.SX H.chk (by rw [zS_dep]; omega) (by rw [zS_dep]; omega) ?_
    try simp [-v_rB]
    exact hN _ _ ⟨rfl, _, by rw [zS_d]⟩
  · rintro env h' ⟨rfl, o6, rfl⟩
    simp only [v_nx]
    rw [v_rB]
    try simp [-v_rB]
    refine for_f (fun i env h'' => h'' = h' ∧ ∃ o, env = [some (.fl (iL ns)), some (.loc g), some (.int cell), some (.int many), some s.d, some m.d, o6, o, none, none, none, none, none, none, none, none]) ⟨rfl, none, rfl⟩ ?_ ?_
    · rintro i x env h'' N hx ⟨rfl, o, rfl⟩ hN
      obtain ⟨k, rfl⟩ : ∃ k : Int, x = .int k := by
        have := List.mem_of_getElem? hx
        simp at this
        rcases this with rfl | rfl | rfl <;> exact ⟨_, rfl⟩
      try simp [-v_rB]
      rw [show D.tup [D.str (Str.ofString "or"), s.d, D.tup [D.str (Str.ofString "not"), D.tup [D.str (Str.ofString "light"), D.int k]]] = (LZ.Sen.dis (zS s) (.neg (.lig k))).d by simp only [LZ.Sen.d, zS_d]; rfl]
      refine chkd_i H.TS H.SC H.SK H.TQ H.SX H.chk (by simp only [LZ.Sen.dep, zS_dep]; omega) (by simp only [LZ.Sen.dep, zS_dep]; omega) ?_
      try simp [-v_rB]
      exact hN _ _ ⟨rfl, _, rfl⟩
    · rintro env h'' ⟨rfl, o7, rfl⟩
      simp only [v_nx]
      rw [v_rB]
      try simp [-v_rB]
      refine sen_t (t := 2) H.SD m1 4 (by omega) (by omega) kd3 fun s2 h4 sk2 sd2 kd4 => ?_
      try simp [-v_rB]
      intro b hb
      rw [← oth_d]
      obtain ⟨b0, bg⟩ := kd4.free hg hb
      obtain ⟨ds4, eg4⟩ := kd4.dr
      have eb : (put h4 b (.lst (sL (oth s m s2)))) b = some (.lst (sL (oth s m s2))) := Las.put_eq
      have kd5 : Kd (put h4 b (.lst (sL (oth s m s2)))) g (put h4 b (.lst (sL (oth s m s2)))) := Kd.refl (ds := ds4) (by rw [put_ne (Ne.symm bg)]; exact eg4)
      generalize put h4 b (.lst (sL (oth s m s2))) = h5 at eb kd5
      have ook := oth_ok sk sd mk md sk2 sd2
      have ol : (oth s m s2).length = 7 := rfl
      generalize oth s m s2 = xs at eb ook ol
      rw [v_rB]
      try simp [-v_rB, s3']
      refine for_f (fun i env h'' => Kd h5 g h'' ∧ ∃ o9 o10 o11, env = [some (.fl (iL ns)), some (.loc g), some (.int cell), some (.int many), some s.d, some m.d, o6, o7, some (.loc b), o9, o10, o11, none, none, none, none]) ⟨kd5, none, none, none, rfl⟩ ?_ ?_
      · rintro i x env h'' N hx ⟨kd6, o9, o10, o11, rfl⟩ hN
        obtain ⟨hi, rfl⟩ := rngL_at hx
        try simp [-v_rB]
        refine take_k (m := 7) (by omega) H.tk kd6 (by omega) fun k1 h7 hk1 kd7 _ => ?_
        have e7 : h7 b = some (.lst (sL xs)) := kd7.kp b _ bg eb
        simp [-v_rB, ixD, e7, Gue.sL_at (show k1 < xs.length by omega)]
        refine take_k (m := 7) (by omega) H.tk kd7 (by omega) fun k2 h8 hk2 kd8 _ => ?_
        have e8 : h8 b = some (.lst (sL xs)) := kd8.kp b _ bg eb
        simp [-v_rB, ixD, e8, Gue.sL_at (show k2 < xs.length by omega)]
        obtain ⟨a1, a2, a3⟩ := ook (gt xs k1) (by rw [gt_get (show k1 < xs.length by omega)]; exact List.getElem_mem _)
        obtain ⟨c1, c2, c3⟩ := ook (gt xs k2) (by rw [gt_get (show k2 < xs.length by omega)]; exact List.getElem_mem _)
        generalize gt xs k1 = x1 at a1 a2 a3
        generalize gt xs k2 = x2 at c1 c2 c3
        have hom : om (olL x1 ++ olL x2) ≤ many := om_le fun k hk => by
          rcases List.mem_append.mp hk
              with hk | hk
          · exact ol_lt a1 k hk
          · exact ol_lt c1 k hk
        have hfp := fps_len x1 x2
        rw [v_rB]
        try simp [-v_rB]
        refine follow_i H.TS H.SC a3 c3 (by omega) (by omega) (by omega) (by omega) ?_
        try simp [-v_rB]
        refine lfol_i (many := many) H.SK H.TQ (by omega) a3 c3 hom (by omega) (by omega) (by omega) (by omega) ?_
        rw [← FB_LB hom]
        try simp [-v_rB]
        refine same_n H.same 1 (by omega) rfl ?_
        try simp [-v_rB]
        exact hN _ _ ⟨kd8, _, _, _, rfl⟩
      · rintro env h9 ⟨kd6, o9, o10, o11, rfl⟩
        simp only [v_nx]
        rw [v_rB]
        try simp [-v_rB]
        rw [v_rB]
        try simp [-v_rB]
        refine join2_i H.SC (by omega) ?_
        try simp [-v_rB]
        refine same_n H.same 3 (by omega) (by decide +kernel) ?_
        try simp [-v_rB]
        refine join1_i H.SC (by omega) ?_
        try simp [-v_rB]
        refine same_n H.same 3 (by omega) (by decide +kernel) ?_
        try simp [-v_rB]
        rw [v_rB]
        try simp [-v_rB]
        refine joinD_i H.SC (by omega) ?_
        try simp [-v_rB]
        refine same_n H.same 3 (by omega) (by decide +kernel) ?_
        try simp [-v_rB]
        refine joinC_i H.SC (by omega) ?_
        try simp [-v_rB]
        refine same_n H.same 3 (by omega) (by decide +kernel) ?_
        try simp [-v_rB]
        rw [v_rB]
        try simp [-v_rB]
        rw [v_rB]
        try simp [-v_rB]
        refine time_i (s := wh) H.TS (by decide) (by decide) ?_
        rw [w_tp]
        refine same_n H.same 6 (by omega) (by decide +kernel) ?_
        try simp [-v_rB]
        refine guess_i (s := .neg (.alw P0)) (w := wh) (l := [0, 1]) (bs := [1, 0, 1]) H.TS H.SC (by simp [Las.Sen.Ok, P0]) (by rw [w_tp]; decide +kernel) (by decide) (by decide) (by rw [w_tp]; rfl) (by omega) ?_
        rw [w_td]
        try simp [-v_rB]
        refine same_n H.same 1 (by omega) (by decide +kernel) ?_
        try simp [-v_rB]
        rw [v_rB]
        try simp [-v_rB]
        refine follow_i (a := .alw P0) (b := P0) H.TS H.SC (by decide) (by decide) (by decide +kernel) (by decide) (by decide) (by omega) ?_
        rw [b1]
        try simp [-v_rB]
        refine follow_i (a := .con P0 (.alw Q0)) (b := .dis (.alw Q0) (.lig 3)) H.TS H.SC (by decide) (by decide) (by decide +kernel) (by decide) (by decide) (by omega) ?_
        rw [b2]
        try simp [-v_rB]
        intro c hc
        rw [v_rB]
        try simp [-v_rB]
        refine follow_i (a := P0) (b := .tru) H.TS H.SC (by decide) (by decide) (by decide +kernel) (by decide) (by decide) (by omega) ?_
        rw [b3]
        try simp [-v_rB]
        refine follow_i (a := .tru) (b := P0) H.TS H.SC (by decide) (by decide) (by decide +kernel) (by decide) (by decide) (by omega) ?_
        rw [b4]
        try simp [-v_rB]
        refine follow_i (a := .dis (.neg .tru) (.atl P0)) (b := .atl P0) H.TS H.SC (by decide) (by decide) (by decide +kernel) (by decide) (by decide) (by omega) ?_
        rw [b5]
        try simp [-v_rB]
        intro a ha
        have ea : (put (put h9 c (.lst [.bl false, .bl true])) a (.lst [.bl false, .bl true, .bl true, .bl false, .bl true])) a = some (.lst [.bl false, .bl true, .bl true, .bl false, .bl true]) := Las.put_eq
        generalize put (put h9 c (.lst [.bl false, .bl true])) a (.lst [.bl false, .bl true, .bl true, .bl false, .bl true]) = h10 at ea
        rw [v_rB]
        simp [-v_rB, ea]
        refine same_n H.same 1 (by omega) (by decide +kernel) ?_
        try simp [-v_rB]
        refine refs_i (s := .unt (.lig 0) (.lig 1)) (many := 1) (m := false) H.TS H.SC H.SX (by decide) (by decide) (.inl (by decide)) ?_
        try simp
        exact someQ_i rfl
end K70
end Py
namespace Lk70
open L2 Py PySem
def tp (i : Nat) : PySem.Stmt := PySem.Challenge.pw_texttoticks_k70_sentences_of_moments_and.main.body.getD i (.Pass ⟨0, 0, 0, 0⟩)
def c_parts_of_sentence : Fn := ⟨1, 1, (.cons (.ret (.ite (.cmp .inn (.ix (.var 0) (.lit (.int 0))) (.tup (.cons (.lit (.str "true")) (.cons (.lit (.str "light")) .nil)))) (.tup .nil) (.sl (.var 0) (.so (.lit (.int 1))) .no))) .nil)⟩
def c_all_in_sentence : Fn := ⟨1, 3, (.cons (.asg (.nm 1) (.lst .nil)) (.cons (.for_ (.nm 2) (.seq (.call "parts_of_sentence" (.cons (.var 0) .nil))) (.cons (.aug 1 .add (.call "all_in_sentence" (.cons (.var 2) .nil))) .nil)) (.cons (.ret (.bin .add (.var 1) (.lst (.cons (.var 0) .nil)))) .nil)))⟩
def c_lights_in_sentence : Fn := ⟨1, 3, (.cons (.ret (.b1 .tup (.b1 .sset (.compi (.nm 2) (.seq (.call "all_in_sentence" (.cons (.var 0) .nil))) [1, 2] (.cmp .eq (.ix (.var 2) (.lit (.int 0))) (.lit (.str "light"))) (.ix (.var 2) (.lit (.int 1))))))) .nil)⟩
def c_check_sentence : Fn := ⟨2, 4, (.cons (.ifs (.not (.b1 .all (.comp (.nm 3) (.seq (.call "lights_in_sentence" (.cons (.var 0) .nil))) [2, 3] (.chain .le .lt (.lit (.int 0)) (.var 3) (.var 1))))) (.cons (.rais "InvalidSentence") .nil) .nil) .nil)⟩
def c_time_parts : Fn := ⟨1, 3, (.cons (.asg (.nm 1) (.lst .nil)) (.cons (.for_ (.nm 2) (.seq (.call "all_in_sentence" (.cons (.var 0) .nil))) (.cons (.ifs (.and (.cmp .inn (.ix (.var 2) (.lit (.int 0))) (.glo "TIME_HEADS")) (.cmp .nin (.var 2) (.var 1))) (.cons (.expr (.mt .append (.var 1) (.cons (.var 2) .nil))) .nil) .nil) .nil)) (.cons (.ret (.b1 .tup (.var 1))) .nil)))⟩
def c_is_of_moment : Fn := ⟨1, 1, (.cons (.ret (.cmp .eq (.b1 .len (.call "time_parts" (.cons (.var 0) .nil))) (.lit (.int 0)))) .nil)⟩
def c_check_moment_sentence : Fn := ⟨2, 2, (.cons (.expr (.call "check_sentence" (.cons (.var 0) (.cons (.var 1) .nil)))) (.cons (.ifs (.not (.call "is_of_moment" (.cons (.var 0) .nil))) (.cons (.rais "InvalidSentence") .nil) .nil) .nil))⟩
def c_depth_of_sentence : Fn := ⟨1, 3, (.cons (.ret (.bin .add (.lit (.int 1)) (.b1 .max (.bin .add (.lst (.cons (.lit (.int 0)) .nil)) (.comp (.nm 2) (.seq (.call "parts_of_sentence" (.cons (.var 0) .nil))) [1, 2] (.call "depth_of_sentence" (.cons (.var 2) .nil))))))) .nil)⟩
def c_joined_truths : Fn := ⟨2, 2, (.cons (.ifs (.cmp .eq (.ix (.var 0) (.lit (.int 0))) (.lit (.str "not"))) (.cons (.ret (.not (.ix (.var 1) (.lit (.int 0))))) .nil) .nil) (.cons (.ret (.ite (.cmp .eq (.ix (.var 0) (.lit (.int 0))) (.lit (.str "and"))) (.and (.ix (.var 1) (.lit (.int 0))) (.ix (.var 1) (.lit (.int 1)))) (.or (.ix (.var 1) (.lit (.int 0))) (.ix (.var 1) (.lit (.int 1)))))) .nil))⟩
def c_told_by_bits : Fn := ⟨4, 6, (.cons (.ifs (.cmp .eq (.ix (.var 0) (.lit (.int 0))) (.lit (.str "true"))) (.cons (.ret (.lit (.bl true))) .nil) .nil) (.cons (.ifs (.cmp .eq (.ix (.var 0) (.lit (.int 0))) (.lit (.str "light"))) (.cons (.ret (.cmp .eq (.ix (.var 1) (.ix (.var 0) (.lit (.int 1)))) (.lit (.int 1)))) .nil) .nil) (.cons (.ifs (.cmp .inn (.ix (.var 0) (.lit (.int 0))) (.glo "TIME_HEADS")) (.cons (.ret (.cmp .eq (.ix (.var 3) (.mt .index (.var 2) (.cons (.var 0) .nil))) (.lit (.int 1)))) .nil) .nil) (.cons (.ret (.call "joined_truths" (.cons (.var 0) (.cons (.comp (.nm 5) (.seq (.call "parts_of_sentence" (.cons (.var 0) .nil))) [4, 5] (.call "told_by_bits" (.cons (.var 5) (.cons (.var 1) (.cons (.var 2) (.cons (.var 3) .nil)))))) .nil)))) .nil))))⟩
def c_holds_now : Fn := ⟨2, 2, (.cons (.ret (.call "told_by_bits" (.cons (.var 0) (.cons (.var 1) (.cons (.tup .nil) (.cons (.tup .nil) .nil)))))) .nil)⟩
def c_told_by_guess : Fn := ⟨4, 4, (.cons (.ret (.call "told_by_bits" (.cons (.var 0) (.cons (.var 2) (.cons (.call "time_parts" (.cons (.var 1) .nil)) (.cons (.var 3) .nil)))))) .nil)⟩
def c_joined_sentences : Fn := ⟨2, 4, (.cons (.asg (.nm 2) (.ite (.cmp .eq (.var 0) (.lit (.str "and"))) (.glo "TRUE") (.tup (.cons (.lit (.str "not")) (.cons (.glo "TRUE") .nil))))) (.cons (.for_ (.nm 3) (.seq (.sls (.var 1) .no .no (-1))) (.cons (.asg (.nm 2) (.tup (.cons (.var 0) (.cons (.var 3) (.cons (.var 2) .nil))))) .nil)) (.cons (.ret (.var 2)) .nil)))⟩
def c_outer_time_parts : Fn := ⟨1, 3, (.cons (.ifs (.cmp .inn (.ix (.var 0) (.lit (.int 0))) (.glo "TIME_HEADS")) (.cons (.ret (.lst (.cons (.var 0) .nil))) .nil) .nil) (.cons (.asg (.nm 1) (.lst .nil)) (.cons (.for_ (.nm 2) (.seq (.call "parts_of_sentence" (.cons (.var 0) .nil))) (.cons (.aug 1 .add (.call "outer_time_parts" (.cons (.var 2) .nil))) .nil)) (.cons (.ret (.var 1)) .nil))))⟩
def c_outer_lights : Fn := ⟨1, 3, (.cons (.ifs (.cmp .eq (.ix (.var 0) (.lit (.int 0))) (.lit (.str "light"))) (.cons (.ret (.lst (.cons (.ix (.var 0) (.lit (.int 1))) .nil))) .nil) .nil) (.cons (.asg (.nm 1) (.lst .nil)) (.cons (.ifs (.cmp .nin (.ix (.var 0) (.lit (.int 0))) (.glo "TIME_HEADS")) (.cons (.for_ (.nm 2) (.seq (.call "parts_of_sentence" (.cons (.var 0) .nil))) (.cons (.aug 1 .add (.call "outer_lights" (.cons (.var 2) .nil))) .nil)) .nil) .nil) (.cons (.ret (.var 1)) .nil))))⟩
def c_each_sentence_once : Fn := ⟨1, 3, (.cons (.asg (.nm 1) (.lst .nil)) (.cons (.for_ (.nm 2) (.seq (.var 0)) (.cons (.ifs (.cmp .nin (.var 2) (.var 1)) (.cons (.expr (.mt .append (.var 1) (.cons (.var 2) .nil))) .nil) .nil) .nil)) (.cons (.ret (.var 1)) .nil)))⟩
def c_rows_of_bits : Fn := ⟨1, 6, (.cons (.asg (.nm 1) (.lst (.cons (.tup .nil) .nil))) (.cons (.for_ (.nm 2) (.rng1 (.var 0)) (.cons (.asg (.nm 1) (.comp2 (.nm 4) (.seq (.var 1)) [3, 4, 5] (.nm 5) (.seq (.tup (.cons (.lit (.int 0)) (.cons (.lit (.int 1)) .nil)))) [5] (.bin .add (.var 4) (.tup (.cons (.var 5) .nil))))) .nil)) (.cons (.ret (.var 1)) .nil)))⟩
def c_follows_by_bits : Fn := ⟨2, 7, (.cons (.asg (.nm 2) (.b1 .tup (.call "each_sentence_once" (.cons (.bin .add (.call "outer_time_parts" (.cons (.var 0) .nil)) (.call "outer_time_parts" (.cons (.var 1) .nil))) .nil)))) (.cons (.asg (.nm 3) (.bin .add (.b1 .max (.bin .add (.bin .add (.lst (.cons (.neg (.lit (.int 1))) .nil)) (.call "outer_lights" (.cons (.var 0) .nil))) (.call "outer_lights" (.cons (.var 1) .nil)))) (.lit (.int 1)))) (.cons (.for_ (.nm 4) (.seq (.call "rows_of_bits" (.cons (.bin .add (.var 3) (.b1 .len (.var 2))) .nil))) (.cons (.asg (.tp (.cons (.nm 5) (.cons (.nm 6) .nil))) (.tup (.cons (.sl (.var 4) .no (.so (.var 3))) (.cons (.sl (.var 4) (.so (.var 3)) .no) .nil)))) (.cons (.ifs (.and (.call "told_by_bits" (.cons (.var 0) (.cons (.var 5) (.cons (.var 2) (.cons (.var 6) .nil))))) (.not (.call "told_by_bits" (.cons (.var 1) (.cons (.var 5) (.cons (.var 2) (.cons (.var 6) .nil))))))) (.cons (.ret (.lit (.bl false))) .nil) .nil) .nil))) (.cons (.ret (.lit (.bl true))) .nil))))⟩
def c__law_draws : Fn := ⟨2, 10, (.cons (.asg (.nm 2) (.comp (.nm 9) (.seq (.var 0)) [8, 9] (.b1 .int (.var 9)))) (.cons (.ifs (.cmp .eq (.b1 .len (.var 2)) (.lit (.int 0))) (.cons (.expr (.mt .append (.var 2) (.cons (.lit (.int 0)) .nil))) .nil) .nil) (.cons (.asg (.nm 3) (.b1 .lst (.var 2))) (.cons (.asg (.nm 4) (.lst .nil)) (.cons (.for_ (.nm 5) (.rng1 (.var 1)) (.cons (.asg (.nm 6) (.bin .mod (.var 5) (.b1 .len (.var 2)))) (.cons (.ifs (.and (.cmp .ge (.ix (.var 2) (.var 6)) (.bin .pow (.lit (.int 10)) (.lit (.int 18)))) (.cmp .gt (.ix (.var 3) (.var 6)) (.lit (.int 0)))) (.cons (.expr (.mt .append (.var 4) (.cons (.bin .mod (.b1 .int (.ix (.var 3) (.var 6))) (.lit (.int 1000))) .nil))) (.cons (.set (.var 3) (.var 6) (.bin .fdiv (.ix (.var 3) (.var 6)) (.lit (.int 1000)))) .nil)) (.cons (.asg (.nm 7) (.bin .mod (.b1 .int (.bin .add (.bin .add (.bin .mul (.ix (.var 2) (.var 6)) (.lit (.int 48271))) (.bin .mul (.var 5) (.lit (.int 69621)))) (.lit (.int 11)))) (.lit (.int 2147483647)))) (.cons (.expr (.mt .append (.var 4) (.cons (.bin .mod (.b1 .int (.bin .add (.bin .add (.bin .mul (.var 7) (.var 7)) (.bin .mul (.lit (.int 3)) (.var 7))) (.var 5))) (.lit (.int 1000003))) .nil))) .nil))) .nil))) (.cons (.expr (.mt .reverse (.var 4) .nil)) (.cons (.ret (.var 4)) .nil)))))))⟩
def c__law_take : Fn := ⟨2, 2, (.cons (.ifs (.cmp .eq (.b1 .len (.var 0)) (.lit (.int 0))) (.cons (.ret (.lit (.int 0))) .nil) .nil) (.cons (.ret (.bin .mod (.b1 .int (.mt .pop (.var 0) .nil)) (.var 1))) .nil))⟩
def c__law_cell : Fn := ⟨1, 2, (.cons (.ifs (.cmp .eq (.b1 .len (.var 0)) (.lit (.int 0))) (.cons (.ret (.lit (.int 0))) .nil) .nil) (.cons (.asg (.nm 1) (.b1 .int (.ix (.var 0) (.bin .mod (.bin .mod (.b1 .int (.bin .sub (.b1 .len (.var 0)) (.lit (.int 1)))) (.lit (.int 7))) (.b1 .len (.var 0)))))) (.cons (.ifs (.cmp .lt (.var 1) (.lit (.int 0))) (.cons (.ret (.neg (.bin .mod (.b1 .int (.neg (.var 1))) (.bin .pow (.lit (.int 10)) (.lit (.int 60)))))) .nil) .nil) (.cons (.ret (.bin .mod (.b1 .int (.var 1)) (.bin .pow (.lit (.int 10)) (.lit (.int 60))))) .nil))))⟩
def c__law_same : Fn := ⟨2, 3, (.cons (.ifs (.b1 (.isa .bool) (.var 1)) (.cons (.ret (.and (.b1 (.isa .bool) (.var 0)) (.cmp .eq (.var 0) (.var 1)))) .nil) .nil) (.cons (.ifs (.b1 (.isa .int) (.var 1)) (.cons (.ret (.and (.b1 (.isa .int) (.var 0)) (.and (.not (.b1 (.isa .bool) (.var 0))) (.cmp .eq (.var 0) (.var 1))))) .nil) .nil) (.cons (.ifs (.b1 (.isa .str) (.var 1)) (.cons (.ret (.and (.b1 (.isa .str) (.var 0)) (.cmp .eq (.var 0) (.var 1)))) .nil) .nil) (.cons (.ifs (.isc false (.var 1) .non) (.cons (.ret (.isc false (.var 0) .non)) .nil) .nil) (.cons (.ifs (.or (.not (.b1 (.isa .tup) (.var 0))) (.cmp .ne (.b1 .len (.var 0)) (.b1 .len (.var 1)))) (.cons (.ret (.lit (.bl false))) .nil) .nil) (.cons (.for_ (.nm 2) (.rng1 (.b1 .len (.var 1))) (.cons (.ifs (.not (.call "_law_same" (.cons (.ix (.var 0) (.var 2)) (.cons (.ix (.var 1) (.var 2)) .nil)))) (.cons (.ret (.lit (.bl false))) .nil) .nil) .nil)) (.cons (.ret (.lit (.bl true))) .nil)))))))⟩
def c__law_moment : Fn := ⟨3, 4, (.cons (.asg (.nm 3) (.call "_law_take" (.cons (.var 0) (.cons (.lit (.int 7)) .nil)))) (.cons (.ifs (.or (.and (.cmp .eq (.var 3) (.lit (.int 0))) (.cmp .lt (.var 2) (.lit (.int 2)))) (.and (.cmp .eq (.var 1) (.lit (.int 0))) (.cmp .lt (.var 2) (.lit (.int 2))))) (.cons (.ret (.tup (.cons (.lit (.str "true")) .nil))) .nil) .nil) (.cons (.ifs (.or (.cmp .lt (.var 3) (.lit (.int 4))) (.cmp .lt (.var 2) (.lit (.int 2)))) (.cons (.ifs (.cmp .eq (.var 1) (.lit (.int 0))) (.cons (.ret (.tup (.cons (.lit (.str "true")) .nil))) .nil) .nil) (.cons (.ret (.tup (.cons (.lit (.str "light")) (.cons (.call "_law_take" (.cons (.var 0) (.cons (.var 1) .nil))) .nil)))) .nil)) .nil) (.cons (.ifs (.cmp .eq (.var 3) (.lit (.int 4))) (.cons (.ret (.tup (.cons (.lit (.str "not")) (.cons (.call "_law_moment" (.cons (.var 0) (.cons (.var 1) (.cons (.bin .sub (.var 2) (.lit (.int 1))) .nil)))) .nil)))) .nil) .nil) (.cons (.ret (.tup (.cons (.ix (.lst (.cons (.lit (.str "and")) (.cons (.lit (.str "or")) .nil))) (.bin .sub (.var 3) (.lit (.int 5)))) (.cons (.call "_law_moment" (.cons (.var 0) (.cons (.var 1) (.cons (.bin .sub (.var 2) (.lit (.int 1))) .nil)))) (.cons (.call "_law_moment" (.cons (.var 0) (.cons (.var 1) (.cons (.bin .sub (.var 2) (.lit (.int 1))) .nil)))) .nil))))) .nil)))))⟩
def c__law_sentence : Fn := ⟨4, 5, (.cons (.ifs (.or (.cmp .eq (.var 3) (.lit (.int 0))) (.cmp .lt (.var 2) (.lit (.int 2)))) (.cons (.ret (.call "_law_moment" (.cons (.var 0) (.cons (.var 1) (.cons (.b2 .min (.var 2) (.lit (.int 2))) .nil))))) .nil) .nil) (.cons (.asg (.nm 4) (.call "_law_take" (.cons (.var 0) (.cons (.lit (.int 8)) .nil)))) (.cons (.ifs (.cmp .lt (.var 4) (.lit (.int 2))) (.cons (.ret (.tup (.cons (.lit (.str "always")) (.cons (.call "_law_sentence" (.cons (.var 0) (.cons (.var 1) (.cons (.bin .sub (.var 2) (.lit (.int 1))) (.cons (.bin .sub (.var 3) (.lit (.int 1))) .nil))))) .nil)))) .nil) .nil) (.cons (.ifs (.cmp .lt (.var 4) (.lit (.int 4))) (.cons (.ret (.tup (.cons (.lit (.str "atlast")) (.cons (.call "_law_sentence" (.cons (.var 0) (.cons (.var 1) (.cons (.bin .sub (.var 2) (.lit (.int 1))) (.cons (.bin .sub (.var 3) (.lit (.int 1))) .nil))))) .nil)))) .nil) .nil) (.cons (.ifs (.cmp .lt (.var 4) (.lit (.int 6))) (.cons (.ret (.tup (.cons (.lit (.str "until")) (.cons (.call "_law_sentence" (.cons (.var 0) (.cons (.var 1) (.cons (.bin .sub (.var 2) (.lit (.int 1))) (.cons (.bin .fdiv (.bin .sub (.var 3) (.lit (.int 1))) (.lit (.int 2))) .nil))))) (.cons (.call "_law_sentence" (.cons (.var 0) (.cons (.var 1) (.cons (.bin .sub (.var 2) (.lit (.int 1))) (.cons (.bin .fdiv (.bin .sub (.var 3) (.lit (.int 1))) (.lit (.int 2))) .nil))))) .nil))))) .nil) .nil) (.cons (.ifs (.cmp .eq (.var 4) (.lit (.int 6))) (.cons (.ret (.tup (.cons (.lit (.str "not")) (.cons (.call "_law_sentence" (.cons (.var 0) (.cons (.var 1) (.cons (.bin .sub (.var 2) (.lit (.int 1))) (.cons (.var 3) .nil))))) .nil)))) .nil) .nil) (.cons (.ret (.tup (.cons (.ix (.lst (.cons (.lit (.str "and")) (.cons (.lit (.str "or")) .nil))) (.call "_law_take" (.cons (.var 0) (.cons (.lit (.int 2)) .nil)))) (.cons (.call "_law_sentence" (.cons (.var 0) (.cons (.var 1) (.cons (.bin .sub (.var 2) (.lit (.int 1))) (.cons (.bin .fdiv (.var 3) (.lit (.int 2))) .nil))))) (.cons (.call "_law_sentence" (.cons (.var 0) (.cons (.var 1) (.cons (.bin .sub (.var 2) (.lit (.int 1))) (.cons (.bin .fdiv (.var 3) (.lit (.int 2))) .nil))))) .nil))))) .nil)))))))⟩
def c__law_inner : Fn := ⟨1, 1, (.cons (.ifs (.cmp .inn (.ix (.var 0) (.lit (.int 0))) (.tup (.cons (.lit (.str "true")) (.cons (.lit (.str "light")) .nil)))) (.cons (.ret (.tup .nil)) .nil) .nil) (.cons (.ret (.sl (.var 0) (.so (.lit (.int 1))) .no)) .nil))⟩
def c__law_times : Fn := ⟨1, 5, (.cons (.asg (.nm 1) (.lst .nil)) (.cons (.for_ (.nm 2) (.seq (.call "_law_inner" (.cons (.var 0) .nil))) (.cons (.asg (.nm 1) (.bin .add (.var 1) (.compi (.nm 4) (.seq (.call "_law_times" (.cons (.var 2) .nil))) [3, 4] (.cmp .nin (.var 4) (.var 1)) (.var 4)))) .nil)) (.cons (.ifs (.and (.cmp .inn (.ix (.var 0) (.lit (.int 0))) (.tup (.cons (.lit (.str "always")) (.cons (.lit (.str "atlast")) (.cons (.lit (.str "until")) .nil))))) (.cmp .nin (.var 0) (.var 1))) (.cons (.expr (.mt .append (.var 1) (.cons (.var 0) .nil))) .nil) .nil) (.cons (.ret (.var 1)) .nil))))⟩
def c__law_now : Fn := ⟨4, 4, (.cons (.ifs (.cmp .eq (.ix (.var 0) (.lit (.int 0))) (.lit (.str "true"))) (.cons (.ret (.lit (.bl true))) .nil) .nil) (.cons (.ifs (.cmp .eq (.ix (.var 0) (.lit (.int 0))) (.lit (.str "light"))) (.cons (.ret (.cmp .eq (.ix (.var 1) (.ix (.var 0) (.lit (.int 1)))) (.lit (.int 1)))) .nil) .nil) (.cons (.ifs (.cmp .inn (.ix (.var 0) (.lit (.int 0))) (.tup (.cons (.lit (.str "always")) (.cons (.lit (.str "atlast")) (.cons (.lit (.str "until")) .nil))))) (.cons (.ret (.cmp .eq (.ix (.var 3) (.mt .index (.var 2) (.cons (.var 0) .nil))) (.lit (.int 1)))) .nil) .nil) (.cons (.ifs (.cmp .eq (.ix (.var 0) (.lit (.int 0))) (.lit (.str "not"))) (.cons (.ret (.not (.call "_law_now" (.cons (.ix (.var 0) (.lit (.int 1))) (.cons (.var 1) (.cons (.var 2) (.cons (.var 3) .nil))))))) .nil) .nil) (.cons (.ifs (.cmp .eq (.ix (.var 0) (.lit (.int 0))) (.lit (.str "and"))) (.cons (.ret (.and (.call "_law_now" (.cons (.ix (.var 0) (.lit (.int 1))) (.cons (.var 1) (.cons (.var 2) (.cons (.var 3) .nil))))) (.call "_law_now" (.cons (.ix (.var 0) (.lit (.int 2))) (.cons (.var 1) (.cons (.var 2) (.cons (.var 3) .nil))))))) .nil) .nil) (.cons (.ret (.or (.call "_law_now" (.cons (.ix (.var 0) (.lit (.int 1))) (.cons (.var 1) (.cons (.var 2) (.cons (.var 3) .nil))))) (.call "_law_now" (.cons (.ix (.var 0) (.lit (.int 2))) (.cons (.var 1) (.cons (.var 2) (.cons (.var 3) .nil))))))) .nil))))))⟩
def c__law_bits : Fn := ⟨1, 5, (.cons (.asg (.nm 1) (.lst (.cons (.tup .nil) .nil))) (.cons (.for_ (.nm 2) (.rng1 (.var 0)) (.cons (.asg (.nm 3) (.lst .nil)) (.cons (.for_ (.nm 4) (.seq (.var 1)) (.cons (.asg (.nm 3) (.bin .add (.var 3) (.lst (.cons (.bin .add (.var 4) (.tup (.cons (.lit (.int 0)) .nil))) (.cons (.bin .add (.var 4) (.tup (.cons (.lit (.int 1)) .nil))) .nil))))) .nil)) (.cons (.asg (.nm 1) (.var 3)) .nil)))) (.cons (.ret (.var 1)) .nil)))⟩
def c__law_lights_in : Fn := ⟨1, 3, (.cons (.ifs (.cmp .eq (.ix (.var 0) (.lit (.int 0))) (.lit (.str "light"))) (.cons (.ret (.lst (.cons (.ix (.var 0) (.lit (.int 1))) .nil))) .nil) .nil) (.cons (.asg (.nm 1) (.lst .nil)) (.cons (.for_ (.nm 2) (.seq (.call "_law_inner" (.cons (.var 0) .nil))) (.cons (.asg (.nm 1) (.bin .add (.var 1) (.call "_law_lights_in" (.cons (.var 2) .nil)))) .nil)) (.cons (.ret (.var 1)) .nil))))⟩
def c__law_depth : Fn := ⟨1, 3, (.cons (.ret (.bin .add (.lit (.int 1)) (.b1 .max (.bin .add (.lst (.cons (.lit (.int 0)) .nil)) (.comp (.nm 2) (.seq (.call "_law_inner" (.cons (.var 0) .nil))) [1, 2] (.call "_law_depth" (.cons (.var 2) .nil))))))) .nil)⟩
def c__law_is_refused : Fn := ⟨3, 4, (.cons (.tryi (.cons (.ifs (.var 2) (.cons (.expr (.call "check_moment_sentence" (.cons (.var 0) (.cons (.var 1) .nil)))) .nil) (.cons (.expr (.call "check_sentence" (.cons (.var 0) (.cons (.var 1) .nil)))) .nil)) .nil) "TickError" [(true, "InvalidSentence"), (true, "ValueError"), (false, "InvalidWorld")]) (.cons (.ret (.lit (.bl false))) .nil))⟩
def c__law_is_checked : Fn := ⟨2, 7, (.cons (.asg (.nm 2) (.cmp .eq (.b1 .len (.compi (.nm 6) (.seq (.call "_law_lights_in" (.cons (.var 0) .nil))) [5, 6] (.or (.cmp .lt (.var 6) (.lit (.int 0))) (.cmp .ge (.var 6) (.var 1))) (.var 6))) (.lit (.int 0)))) (.cons (.for_ (.nm 3) (.seq (.lst (.cons (.lit (.bl false)) (.cons (.lit (.bl true)) .nil)))) (.cons (.ifs (.and (.var 2) (.or (.not (.var 3)) (.cmp .eq (.b1 .len (.call "_law_times" (.cons (.var 0) .nil))) (.lit (.int 0))))) (.cons (.asg (.nm 4) (.ite (.var 3) (.call "check_moment_sentence" (.cons (.var 0) (.cons (.var 1) .nil))) (.call "check_sentence" (.cons (.var 0) (.cons (.var 1) .nil))))) (.cons (.ifs (.isc true (.var 4) .non) (.cons (.ret (.lit (.bl false))) .nil) .nil) .nil)) (.cons (.ifs (.not (.call "_law_is_refused" (.cons (.var 0) (.cons (.var 1) (.cons (.var 3) .nil))))) (.cons (.ret (.lit (.bl false))) .nil) .nil) .nil)) .nil)) (.cons (.ret (.lit (.bl true))) .nil)))⟩
def c__law_is_told : Fn := ⟨2, 5, (.cons (.asg (.nm 2) (.call "_law_times" (.cons (.var 0) .nil))) (.cons (.ifs (.or (.not (.call "_law_same" (.cons (.call "time_parts" (.cons (.var 0) .nil)) (.cons (.b1 .tup (.var 2)) .nil)))) (.not (.call "_law_same" (.cons (.call "lights_in_sentence" (.cons (.var 0) .nil)) (.cons (.b1 .tup (.b1 .sset (.call "_law_lights_in" (.cons (.var 0) .nil)))) .nil))))) (.cons (.ret (.lit (.bl false))) .nil) .nil) (.cons (.ifs (.or (.not (.call "_law_same" (.cons (.call "depth_of_sentence" (.cons (.var 0) .nil)) (.cons (.call "_law_depth" (.cons (.var 0) .nil)) .nil)))) (.not (.call "_law_same" (.cons (.call "is_of_moment" (.cons (.var 0) .nil)) (.cons (.cmp .eq (.b1 .len (.var 2)) (.lit (.int 0))) .nil))))) (.cons (.ret (.lit (.bl false))) .nil) .nil) (.cons (.for_ (.nm 3) (.seq (.call "_law_bits" (.cons (.var 1) .nil))) (.cons (.ifs (.and (.cmp .eq (.b1 .len (.var 2)) (.lit (.int 0))) (.not (.call "_law_same" (.cons (.call "holds_now" (.cons (.var 0) (.cons (.var 3) .nil))) (.cons (.call "_law_now" (.cons (.var 0) (.cons (.var 3) (.cons (.lst .nil) (.cons (.tup .nil) .nil))))) .nil))))) (.cons (.ret (.lit (.bl false))) .nil) .nil) (.cons (.for_ (.nm 4) (.seq (.call "_law_bits" (.cons (.b1 .len (.var 2)) .nil))) (.cons (.ifs (.not (.call "_law_same" (.cons (.call "told_by_guess" (.cons (.var 0) (.cons (.var 0) (.cons (.var 3) (.cons (.var 4) .nil))))) (.cons (.call "_law_now" (.cons (.var 0) (.cons (.var 3) (.cons (.var 2) (.cons (.var 4) .nil))))) .nil)))) (.cons (.ret (.lit (.bl false))) .nil) .nil) .nil)) .nil))) (.cons (.ret (.lit (.bl true))) .nil)))))⟩
def c__law_outer : Fn := ⟨1, 5, (.cons (.ifs (.cmp .inn (.ix (.var 0) (.lit (.int 0))) (.tup (.cons (.lit (.str "always")) (.cons (.lit (.str "atlast")) (.cons (.lit (.str "until")) .nil))))) (.cons (.ret (.lst (.cons (.var 0) .nil))) .nil) .nil) (.cons (.asg (.nm 1) (.lst .nil)) (.cons (.for_ (.nm 2) (.seq (.call "_law_inner" (.cons (.var 0) .nil))) (.cons (.asg (.nm 1) (.bin .add (.var 1) (.compi (.nm 4) (.seq (.call "_law_outer" (.cons (.var 2) .nil))) [3, 4] (.cmp .nin (.var 4) (.var 1)) (.var 4)))) .nil)) (.cons (.ret (.var 1)) .nil))))⟩
def c__law_follows : Fn := ⟨3, 8, (.cons (.asg (.nm 3) (.call "_law_outer" (.cons (.var 0) .nil))) (.cons (.asg (.nm 3) (.bin .add (.var 3) (.compi (.nm 7) (.seq (.call "_law_outer" (.cons (.var 1) .nil))) [6, 7] (.cmp .nin (.var 7) (.var 3)) (.var 7)))) (.cons (.for_ (.nm 4) (.seq (.call "_law_bits" (.cons (.var 2) .nil))) (.cons (.for_ (.nm 5) (.seq (.call "_law_bits" (.cons (.b1 .len (.var 3)) .nil))) (.cons (.ifs (.and (.call "_law_now" (.cons (.var 0) (.cons (.var 4) (.cons (.var 3) (.cons (.var 5) .nil))))) (.not (.call "_law_now" (.cons (.var 1) (.cons (.var 4) (.cons (.var 3) (.cons (.var 5) .nil))))))) (.cons (.ret (.lit (.bl false))) .nil) .nil) .nil)) .nil)) (.cons (.ret (.lit (.bl true))) .nil))))⟩
def c_law : Fn := ⟨1, 16, (.cons (.asg (.nm 1) (.call "_law_draws" (.cons (.var 0) (.cons (.lit (.int 320)) .nil)))) (.cons (.asg (.nm 2) (.call "_law_cell" (.cons (.var 0) .nil))) (.cons (.asg (.nm 3) (.bin .add (.lit (.int 1)) (.call "_law_take" (.cons (.var 1) (.cons (.lit (.int 3)) .nil))))) (.cons (.asg (.nm 4) (.call "_law_sentence" (.cons (.var 1) (.cons (.var 3) (.cons (.lit (.int 5)) (.cons (.lit (.int 4)) .nil)))))) (.cons (.asg (.nm 5) (.call "_law_moment" (.cons (.var 1) (.cons (.var 3) (.cons (.lit (.int 4)) .nil))))) (.cons (.for_ (.nm 6) (.seq (.lst (.cons (.var 4) (.cons (.var 5) .nil)))) (.cons (.ifs (.or (.not (.call "_law_is_told" (.cons (.var 6) (.cons (.var 3) .nil)))) (.or (.not (.call "_law_is_checked" (.cons (.var 6) (.cons (.var 3) .nil)))) (.not (.call "_law_is_checked" (.cons (.var 6) (.cons (.bin .sub (.var 3) (.lit (.int 1))) .nil)))))) (.cons (.ret (.lit (.bl false))) .nil) .nil) .nil)) (.cons (.for_ (.nm 7) (.seq (.lst (.cons (.var 3) (.cons (.neg (.lit (.int 1))) (.cons (.bin .add (.var 3) (.b1 .abs (.var 2))) .nil))))) (.cons (.ifs (.not (.call "_law_is_checked" (.cons (.tup (.cons (.lit (.str "or")) (.cons (.var 4) (.cons (.tup (.cons (.lit (.str "not")) (.cons (.tup (.cons (.lit (.str "light")) (.cons (.var 7) .nil))) .nil))) .nil)))) (.cons (.var 3) .nil)))) (.cons (.ret (.lit (.bl false))) .nil) .nil) .nil)) (.cons (.asg (.nm 8) (.lst (.cons (.var 4) (.cons (.var 5) (.cons (.tup (.cons (.lit (.str "or")) (.cons (.var 5) (.cons (.var 4) .nil)))) (.cons (.tup (.cons (.lit (.str "and")) (.cons (.var 4) (.cons (.var 5) .nil)))) (.cons (.tup (.cons (.lit (.str "not")) (.cons (.var 4) .nil))) (.cons (.tup (.cons (.lit (.str "always")) (.cons (.var 5) .nil))) (.cons (.call "_law_sentence" (.cons (.var 1) (.cons (.var 3) (.cons (.lit (.int 4)) (.cons (.lit (.int 2)) .nil))))) .nil))))))))) (.cons (.for_ (.nm 9) (.rng1 (.lit (.int 3))) (.cons (.asg (.tp (.cons (.nm 10) (.cons (.nm 11) .nil))) (.tup (.cons (.ix (.var 8) (.call "_law_take" (.cons (.var 1) (.cons (.lit (.int 7)) .nil)))) (.cons (.ix (.var 8) (.call "_law_take" (.cons (.var 1) (.cons (.lit (.int 7)) .nil)))) .nil)))) (.cons (.ifs (.not (.call "_law_same" (.cons (.call "follows_by_bits" (.cons (.var 10) (.cons (.var 11) .nil))) (.cons (.call "_law_follows" (.cons (.var 10) (.cons (.var 11) (.cons (.var 3) .nil)))) .nil)))) (.cons (.ret (.lit (.bl false))) .nil) .nil) .nil))) (.cons (.asg (.tp (.cons (.nm 12) (.cons (.nm 13) .nil))) (.tup (.cons (.tup (.cons (.lit (.str "light")) (.cons (.lit (.int 0)) .nil))) (.cons (.tup (.cons (.lit (.str "light")) (.cons (.lit (.int 1)) .nil))) .nil)))) (.cons (.ifs (.or (.not (.call "_law_same" (.cons (.call "joined_sentences" (.cons (.lit (.str "and")) (.cons (.tup (.cons (.var 12) (.cons (.var 13) .nil))) .nil))) (.cons (.tup (.cons (.lit (.str "and")) (.cons (.var 12) (.cons (.tup (.cons (.lit (.str "and")) (.cons (.var 13) (.cons (.tup (.cons (.lit (.str "true")) .nil)) .nil)))) .nil)))) .nil)))) (.not (.call "_law_same" (.cons (.call "joined_sentences" (.cons (.lit (.str "or")) (.cons (.tup (.cons (.var 12) .nil)) .nil))) (.cons (.tup (.cons (.lit (.str "or")) (.cons (.var 12) (.cons (.tup (.cons (.lit (.str "not")) (.cons (.tup (.cons (.lit (.str "true")) .nil)) .nil))) .nil)))) .nil))))) (.cons (.ret (.lit (.bl false))) .nil) .nil) (.cons (.ifs (.or (.not (.call "_law_same" (.cons (.call "joined_sentences" (.cons (.lit (.str "or")) (.cons (.tup .nil) .nil))) (.cons (.tup (.cons (.lit (.str "not")) (.cons (.tup (.cons (.lit (.str "true")) .nil)) .nil))) .nil)))) (.not (.call "_law_same" (.cons (.call "joined_sentences" (.cons (.lit (.str "and")) (.cons (.tup .nil) .nil))) (.cons (.tup (.cons (.lit (.str "true")) .nil)) .nil))))) (.cons (.ret (.lit (.bl false))) .nil) .nil) (.cons (.asg (.nm 14) (.tup (.cons (.lit (.str "until")) (.cons (.tup (.cons (.lit (.str "atlast")) (.cons (.var 13) .nil))) (.cons (.tup (.cons (.lit (.str "and")) (.cons (.tup (.cons (.lit (.str "always")) (.cons (.var 12) .nil))) (.cons (.tup (.cons (.lit (.str "atlast")) (.cons (.var 13) .nil))) .nil)))) .nil))))) (.cons (.ifs (.or (.not (.call "_law_same" (.cons (.call "time_parts" (.cons (.var 14) .nil)) (.cons (.tup (.cons (.tup (.cons (.lit (.str "atlast")) (.cons (.var 13) .nil))) (.cons (.tup (.cons (.lit (.str "always")) (.cons (.var 12) .nil))) (.cons (.var 14) .nil)))) .nil)))) (.not (.call "_law_same" (.cons (.call "told_by_guess" (.cons (.tup (.cons (.lit (.str "not")) (.cons (.tup (.cons (.lit (.str "always")) (.cons (.var 12) .nil))) .nil))) (.cons (.var 14) (.cons (.tup (.cons (.lit (.int 0)) (.cons (.lit (.int 1)) .nil))) (.cons (.tup (.cons (.lit (.int 1)) (.cons (.lit (.int 0)) (.cons (.lit (.int 1)) .nil)))) .nil))))) (.cons (.lit (.bl true)) .nil))))) (.cons (.ret (.lit (.bl false))) .nil) .nil) (.cons (.asg (.nm 15) (.lst (.cons (.call "follows_by_bits" (.cons (.tup (.cons (.lit (.str "always")) (.cons (.var 12) .nil))) (.cons (.var 12) .nil))) (.cons (.call "follows_by_bits" (.cons (.tup (.cons (.lit (.str "and")) (.cons (.var 12) (.cons (.tup (.cons (.lit (.str "always")) (.cons (.var 13) .nil))) .nil)))) (.cons (.tup (.cons (.lit (.str "or")) (.cons (.tup (.cons (.lit (.str "always")) (.cons (.var 13) .nil))) (.cons (.tup (.cons (.lit (.str "light")) (.cons (.lit (.int 3)) .nil))) .nil)))) .nil))) .nil)))) (.cons (.asg (.nm 15) (.bin .add (.var 15) (.lst (.cons (.call "follows_by_bits" (.cons (.var 12) (.cons (.tup (.cons (.lit (.str "true")) .nil)) .nil))) (.cons (.call "follows_by_bits" (.cons (.tup (.cons (.lit (.str "true")) .nil)) (.cons (.var 12) .nil))) (.cons (.call "follows_by_bits" (.cons (.tup (.cons (.lit (.str "or")) (.cons (.tup (.cons (.lit (.str "not")) (.cons (.tup (.cons (.lit (.str "true")) .nil)) .nil))) (.cons (.tup (.cons (.lit (.str "atlast")) (.cons (.var 12) .nil))) .nil)))) (.cons (.tup (.cons (.lit (.str "atlast")) (.cons (.var 12) .nil))) .nil))) .nil)))))) (.cons (.ret (.and (.call "_law_same" (.cons (.b1 .tup (.var 15)) (.cons (.tup (.cons (.lit (.bl false)) (.cons (.lit (.bl true)) (.cons (.lit (.bl true)) (.cons (.lit (.bl false)) (.cons (.lit (.bl true)) .nil)))))) .nil))) (.call "_law_is_refused" (.cons (.tup (.cons (.lit (.str "until")) (.cons (.var 12) (.cons (.tup (.cons (.lit (.str "light")) (.cons (.lit (.int 1)) .nil))) .nil)))) (.cons (.lit (.int 1)) (.cons (.lit (.bl false)) .nil)))))) .nil)))))))))))))))))⟩
def t_parts_of_sentence : FnT := ⟨"parts_of_sentence", defArgs (tp 7), defBody (tp 7), defScope (tp 7), ["sentence"], ["sentence"], c_parts_of_sentence⟩
def t_all_in_sentence : FnT := ⟨"all_in_sentence", defArgs (tp 8), defBody (tp 8), defScope (tp 8), ["sentence"], ["sentence", "found", "part"], c_all_in_sentence⟩
def t_lights_in_sentence : FnT := ⟨"lights_in_sentence", defArgs (tp 9), defBody (tp 9), defScope (tp 9), ["sentence"], ["sentence", ".0", "part"], c_lights_in_sentence⟩
def t_check_sentence : FnT := ⟨"check_sentence", defArgs (tp 10), defBody (tp 10), defScope (tp 10), ["sentence", "many"], ["sentence", "many", ".0", "number"], c_check_sentence⟩
def t_time_parts : FnT := ⟨"time_parts", defArgs (tp 11), defBody (tp 11), defScope (tp 11), ["sentence"], ["sentence", "found", "part"], c_time_parts⟩
def t_is_of_moment : FnT := ⟨"is_of_moment", defArgs (tp 12), defBody (tp 12), defScope (tp 12), ["sentence"], ["sentence"], c_is_of_moment⟩
def t_check_moment_sentence : FnT := ⟨"check_moment_sentence", defArgs (tp 13), defBody (tp 13), defScope (tp 13), ["sentence", "many"], ["sentence", "many"], c_check_moment_sentence⟩
def t_depth_of_sentence : FnT := ⟨"depth_of_sentence", defArgs (tp 14), defBody (tp 14), defScope (tp 14), ["sentence"], ["sentence", ".0", "part"], c_depth_of_sentence⟩
def t_joined_truths : FnT := ⟨"joined_truths", defArgs (tp 15), defBody (tp 15), defScope (tp 15), ["sentence", "truths"], ["sentence", "truths"], c_joined_truths⟩
def t_told_by_bits : FnT := ⟨"told_by_bits", defArgs (tp 16), defBody (tp 16), defScope (tp 16), ["sentence", "lights", "parts", "bits"], ["sentence", "lights", "parts", "bits", ".0", "part"], c_told_by_bits⟩
def t_holds_now : FnT := ⟨"holds_now", defArgs (tp 17), defBody (tp 17), defScope (tp 17), ["sentence", "lights"], ["sentence", "lights"], c_holds_now⟩
def t_told_by_guess : FnT := ⟨"told_by_guess", defArgs (tp 18), defBody (tp 18), defScope (tp 18), ["sentence", "whole", "lights", "guess"], ["sentence", "whole", "lights", "guess"], c_told_by_guess⟩
def t_joined_sentences : FnT := ⟨"joined_sentences", defArgs (tp 19), defBody (tp 19), defScope (tp 19), ["name", "sentences"], ["name", "sentences", "found", "sentence"], c_joined_sentences⟩
def t_outer_time_parts : FnT := ⟨"outer_time_parts", defArgs (tp 20), defBody (tp 20), defScope (tp 20), ["sentence"], ["sentence", "found", "part"], c_outer_time_parts⟩
def t_outer_lights : FnT := ⟨"outer_lights", defArgs (tp 21), defBody (tp 21), defScope (tp 21), ["sentence"], ["sentence", "found", "part"], c_outer_lights⟩
def t_each_sentence_once : FnT := ⟨"each_sentence_once", defArgs (tp 22), defBody (tp 22), defScope (tp 22), ["sentences"], ["sentences", "found", "sentence"], c_each_sentence_once⟩
def t_rows_of_bits : FnT := ⟨"rows_of_bits", defArgs (tp 23), defBody (tp 23), defScope (tp 23), ["many"], ["many", "rows", "_", ".0", "row", "bit"], c_rows_of_bits⟩
def t_follows_by_bits : FnT := ⟨"follows_by_bits", defArgs (tp 24), defBody (tp 24), defScope (tp 24), ["sentence", "other"], ["sentence", "other", "parts", "many", "row", "lights", "bits"], c_follows_by_bits⟩
def t__law_draws : FnT := ⟨"_law_draws", defArgs (tp 26), defBody (tp 26), defScope (tp 26), ["script", "many"], ["script", "many", "cells", "rest", "draws", "k", "at", "once", ".0", "cell"], c__law_draws⟩
def t__law_take : FnT := ⟨"_law_take", defArgs (tp 27), defBody (tp 27), defScope (tp 27), ["draws", "many"], ["draws", "many"], c__law_take⟩
def t__law_cell : FnT := ⟨"_law_cell", defArgs (tp 28), defBody (tp 28), defScope (tp 28), ["script"], ["script", "cell"], c__law_cell⟩
def t__law_same : FnT := ⟨"_law_same", defArgs (tp 29), defBody (tp 29), defScope (tp 29), ["actual", "due"], ["actual", "due", "k"], c__law_same⟩
def t__law_moment : FnT := ⟨"_law_moment", defArgs (tp 30), defBody (tp 30), defScope (tp 30), ["draws", "many", "deep"], ["draws", "many", "deep", "pick"], c__law_moment⟩
def t__law_sentence : FnT := ⟨"_law_sentence", defArgs (tp 31), defBody (tp 31), defScope (tp 31), ["draws", "many", "deep", "times"], ["draws", "many", "deep", "times", "pick"], c__law_sentence⟩
def t__law_inner : FnT := ⟨"_law_inner", defArgs (tp 32), defBody (tp 32), defScope (tp 32), ["sentence"], ["sentence"], c__law_inner⟩
def t__law_times : FnT := ⟨"_law_times", defArgs (tp 33), defBody (tp 33), defScope (tp 33), ["sentence"], ["sentence", "found", "part", ".0", "own"], c__law_times⟩
def t__law_now : FnT := ⟨"_law_now", defArgs (tp 34), defBody (tp 34), defScope (tp 34), ["sentence", "lights", "parts", "bits"], ["sentence", "lights", "parts", "bits"], c__law_now⟩
def t__law_bits : FnT := ⟨"_law_bits", defArgs (tp 35), defBody (tp 35), defScope (tp 35), ["many"], ["many", "rows", "step", "longer", "row"], c__law_bits⟩
def t__law_lights_in : FnT := ⟨"_law_lights_in", defArgs (tp 36), defBody (tp 36), defScope (tp 36), ["sentence"], ["sentence", "found", "part"], c__law_lights_in⟩
def t__law_depth : FnT := ⟨"_law_depth", defArgs (tp 37), defBody (tp 37), defScope (tp 37), ["sentence"], ["sentence", ".0", "part"], c__law_depth⟩
def t__law_is_refused : FnT := ⟨"_law_is_refused", defArgs (tp 38), defBody (tp 38), defScope (tp 38), ["sentence", "many", "moment"], ["sentence", "many", "moment", "e"], c__law_is_refused⟩
def t__law_is_checked : FnT := ⟨"_law_is_checked", defArgs (tp 39), defBody (tp 39), defScope (tp 39), ["sentence", "many"], ["sentence", "many", "good", "moment", "told", ".0", "k"], c__law_is_checked⟩
def t__law_is_told : FnT := ⟨"_law_is_told", defArgs (tp 40), defBody (tp 40), defScope (tp 40), ["sentence", "many"], ["sentence", "many", "parts", "lights", "guess"], c__law_is_told⟩
def t__law_outer : FnT := ⟨"_law_outer", defArgs (tp 41), defBody (tp 41), defScope (tp 41), ["sentence"], ["sentence", "found", "part", ".0", "own"], c__law_outer⟩
def t__law_follows : FnT := ⟨"_law_follows", defArgs (tp 42), defBody (tp 42), defScope (tp 42), ["one", "other", "many"], ["one", "other", "many", "parts", "lights", "bits", ".0", "own"], c__law_follows⟩
def t_law : FnT := ⟨"law", defArgs (tp 43), defBody (tp 43), defScope (tp 43), ["script"], ["script", "draws", "cell", "many", "sentence", "moment", "own", "k", "others", "turn", "one", "other", "p", "q", "whole", "told"], c_law⟩
def tb : List FnT := [t_parts_of_sentence, t_all_in_sentence, t_lights_in_sentence, t_check_sentence, t_time_parts, t_is_of_moment, t_check_moment_sentence, t_depth_of_sentence, t_joined_truths, t_told_by_bits, t_holds_now, t_told_by_guess, t_joined_sentences, t_outer_time_parts, t_outer_lights, t_each_sentence_once, t_rows_of_bits, t_follows_by_bits, t__law_draws, t__law_take, t__law_cell, t__law_same, t__law_moment, t__law_sentence, t__law_inner, t__law_times, t__law_now, t__law_bits, t__law_lights_in, t__law_depth, t__law_is_refused, t__law_is_checked, t__law_is_told, t__law_outer, t__law_follows, t_law]
def gl : List (Str × D) := [("TIME_HEADS", (.tup [(.str "always"), (.str "atlast"), (.str "until")])), ("TRUE", (.tup [(.str "true")]))]
def sb : List (Str × Str × Bool) := [("TickError", "TickError", true), ("InvalidWorld", "InvalidWorld", true), ("InvalidSentence", "InvalidSentence", true), ("TickError", "InvalidWorld", false), ("TickError", "InvalidSentence", false), ("InvalidWorld", "TickError", true), ("InvalidWorld", "InvalidSentence", false), ("InvalidSentence", "TickError", true), ("InvalidSentence", "InvalidWorld", false), ("TickError", isaN "TickError", true), ("TickError", isaN "InvalidWorld", false), ("TickError", isaN "InvalidSentence", false), ("TickError", isaN "ValueError", true), ("InvalidWorld", isaN "TickError", true), ("InvalidWorld", isaN "InvalidWorld", true), ("InvalidWorld", isaN "InvalidSentence", false), ("InvalidWorld", isaN "ValueError", true), ("InvalidSentence", isaN "TickError", true), ("InvalidSentence", isaN "InvalidWorld", false), ("InvalidSentence", isaN "InvalidSentence", true), ("InvalidSentence", isaN "ValueError", true)]
def xs : List Str := ["TickError", "InvalidWorld", "InvalidSentence"]
theorem o_parts_of_sentence : t_parts_of_sentence.Ok (inF tb) xs.contains := ⟨by kernel_rfl, by decide +kernel, rfl, rfl, fun _ _ _ _ _ _ us hl => match us, hl with | [_], _ => rfl⟩
theorem o_all_in_sentence : t_all_in_sentence.Ok (inF tb) xs.contains := ⟨by kernel_rfl, by decide +kernel, rfl, rfl, fun _ _ _ _ _ _ us hl => match us, hl with | [_], _ => rfl⟩
theorem o_lights_in_sentence : t_lights_in_sentence.Ok (inF tb) xs.contains := ⟨by kernel_rfl, by decide +kernel, rfl, rfl, fun _ _ _ _ _ _ us hl => match us, hl with | [_], _ => rfl⟩
theorem o_check_sentence : t_check_sentence.Ok (inF tb) xs.contains := ⟨by kernel_rfl, by decide +kernel, rfl, rfl, fun _ _ _ _ _ _ us hl => match us, hl with | [_, _], _ => rfl⟩
theorem o_time_parts : t_time_parts.Ok (inF tb) xs.contains := ⟨by kernel_rfl, by decide +kernel, rfl, rfl, fun _ _ _ _ _ _ us hl => match us, hl with | [_], _ => rfl⟩
theorem o_is_of_moment : t_is_of_moment.Ok (inF tb) xs.contains := ⟨by kernel_rfl, by decide +kernel, rfl, rfl, fun _ _ _ _ _ _ us hl => match us, hl with | [_], _ => rfl⟩
theorem o_check_moment_sentence : t_check_moment_sentence.Ok (inF tb) xs.contains := ⟨by kernel_rfl, by decide +kernel, rfl, rfl, fun _ _ _ _ _ _ us hl => match us, hl with | [_, _], _ => rfl⟩
theorem o_depth_of_sentence : t_depth_of_sentence.Ok (inF tb) xs.contains := ⟨by kernel_rfl, by decide +kernel, rfl, rfl, fun _ _ _ _ _ _ us hl => match us, hl with | [_], _ => rfl⟩
theorem o_joined_truths : t_joined_truths.Ok (inF tb) xs.contains := ⟨by kernel_rfl, by decide +kernel, rfl, rfl, fun _ _ _ _ _ _ us hl => match us, hl with | [_, _], _ => rfl⟩
theorem o_told_by_bits : t_told_by_bits.Ok (inF tb) xs.contains := ⟨by kernel_rfl, by decide +kernel, rfl, rfl, fun _ _ _ _ _ _ us hl => match us, hl with | [_, _, _, _], _ => rfl⟩
theorem o_holds_now : t_holds_now.Ok (inF tb) xs.contains := ⟨by kernel_rfl, by decide +kernel, rfl, rfl, fun _ _ _ _ _ _ us hl => match us, hl with | [_, _], _ => rfl⟩
theorem o_told_by_guess : t_told_by_guess.Ok (inF tb) xs.contains := ⟨by kernel_rfl, by decide +kernel, rfl, rfl, fun _ _ _ _ _ _ us hl => match us, hl with | [_, _, _, _], _ => rfl⟩
theorem o_joined_sentences : t_joined_sentences.Ok (inF tb) xs.contains := ⟨by kernel_rfl, by decide +kernel, rfl, rfl, fun _ _ _ _ _ _ us hl => match us, hl with | [_, _], _ => rfl⟩
theorem o_outer_time_parts : t_outer_time_parts.Ok (inF tb) xs.contains := ⟨by kernel_rfl, by decide +kernel, rfl, rfl, fun _ _ _ _ _ _ us hl => match us, hl with | [_], _ => rfl⟩
theorem o_outer_lights : t_outer_lights.Ok (inF tb) xs.contains := ⟨by kernel_rfl, by decide +kernel, rfl, rfl, fun _ _ _ _ _ _ us hl => match us, hl with | [_], _ => rfl⟩
theorem o_each_sentence_once : t_each_sentence_once.Ok (inF tb) xs.contains := ⟨by kernel_rfl, by decide +kernel, rfl, rfl, fun _ _ _ _ _ _ us hl => match us, hl with | [_], _ => rfl⟩
theorem o_rows_of_bits : t_rows_of_bits.Ok (inF tb) xs.contains := ⟨by kernel_rfl, by decide +kernel, rfl, rfl, fun _ _ _ _ _ _ us hl => match us, hl with | [_], _ => rfl⟩
theorem o_follows_by_bits : t_follows_by_bits.Ok (inF tb) xs.contains := ⟨by kernel_rfl, by decide +kernel, rfl, rfl, fun _ _ _ _ _ _ us hl => match us, hl with | [_, _], _ => rfl⟩
theorem o__law_draws : t__law_draws.Ok (inF tb) xs.contains := ⟨by kernel_rfl, by decide +kernel, rfl, rfl, fun _ _ _ _ _ _ us hl => match us, hl with | [_, _], _ => rfl⟩
theorem o__law_take : t__law_take.Ok (inF tb) xs.contains := ⟨by kernel_rfl, by decide +kernel, rfl, rfl, fun _ _ _ _ _ _ us hl => match us, hl with | [_, _], _ => rfl⟩
theorem o__law_cell : t__law_cell.Ok (inF tb) xs.contains := ⟨by kernel_rfl, by decide +kernel, rfl, rfl, fun _ _ _ _ _ _ us hl => match us, hl with | [_], _ => rfl⟩
theorem o__law_same : t__law_same.Ok (inF tb) xs.contains := ⟨by kernel_rfl, by decide +kernel, rfl, rfl, fun _ _ _ _ _ _ us hl => match us, hl with | [_, _], _ => rfl⟩
theorem o__law_moment : t__law_moment.Ok (inF tb) xs.contains := ⟨by kernel_rfl, by decide +kernel, rfl, rfl, fun _ _ _ _ _ _ us hl => match us, hl with | [_, _, _], _ => rfl⟩
theorem o__law_sentence : t__law_sentence.Ok (inF tb) xs.contains := ⟨by kernel_rfl, by decide +kernel, rfl, rfl, fun _ _ _ _ _ _ us hl => match us, hl with | [_, _, _, _], _ => rfl⟩
theorem o__law_inner : t__law_inner.Ok (inF tb) xs.contains := ⟨by kernel_rfl, by decide +kernel, rfl, rfl, fun _ _ _ _ _ _ us hl => match us, hl with | [_], _ => rfl⟩
theorem o__law_times : t__law_times.Ok (inF tb) xs.contains := ⟨by kernel_rfl, by decide +kernel, rfl, rfl, fun _ _ _ _ _ _ us hl => match us, hl with | [_], _ => rfl⟩
theorem o__law_now : t__law_now.Ok (inF tb) xs.contains := ⟨by kernel_rfl, by decide +kernel, rfl, rfl, fun _ _ _ _ _ _ us hl => match us, hl with | [_, _, _, _], _ => rfl⟩
theorem o__law_bits : t__law_bits.Ok (inF tb) xs.contains := ⟨by kernel_rfl, by decide +kernel, rfl, rfl, fun _ _ _ _ _ _ us hl => match us, hl with | [_], _ => rfl⟩
theorem o__law_lights_in : t__law_lights_in.Ok (inF tb) xs.contains := ⟨by kernel_rfl, by decide +kernel, rfl, rfl, fun _ _ _ _ _ _ us hl => match us, hl with | [_], _ => rfl⟩
theorem o__law_depth : t__law_depth.Ok (inF tb) xs.contains := ⟨by kernel_rfl, by decide +kernel, rfl, rfl, fun _ _ _ _ _ _ us hl => match us, hl with | [_], _ => rfl⟩
theorem o__law_is_refused : t__law_is_refused.Ok (inF tb) xs.contains := ⟨by kernel_rfl, by decide +kernel, rfl, rfl, fun _ _ _ _ _ _ us hl => match us, hl with | [_, _, _], _ => rfl⟩
theorem o__law_is_checked : t__law_is_checked.Ok (inF tb) xs.contains := ⟨by kernel_rfl, by decide +kernel, rfl, rfl, fun _ _ _ _ _ _ us hl => match us, hl with | [_, _], _ => rfl⟩
theorem o__law_is_told : t__law_is_told.Ok (inF tb) xs.contains := ⟨by kernel_rfl, by decide +kernel, rfl, rfl, fun _ _ _ _ _ _ us hl => match us, hl with | [_, _], _ => rfl⟩
theorem o__law_outer : t__law_outer.Ok (inF tb) xs.contains := ⟨by kernel_rfl, by decide +kernel, rfl, rfl, fun _ _ _ _ _ _ us hl => match us, hl with | [_], _ => rfl⟩
theorem o__law_follows : t__law_follows.Ok (inF tb) xs.contains := ⟨by kernel_rfl, by decide +kernel, rfl, rfl, fun _ _ _ _ _ _ us hl => match us, hl with | [_, _, _], _ => rfl⟩
theorem o_law : t_law.Ok (inF tb) xs.contains := ⟨by kernel_rfl, by decide +kernel, rfl, rfl, fun _ _ _ _ _ _ us hl => match us, hl with | [_], _ => rfl⟩
theorem tok : TOk tb gl xs := ⟨(mC o_parts_of_sentence (mC o_all_in_sentence (mC o_lights_in_sentence (mC o_check_sentence (mC o_time_parts (mC o_is_of_moment (mC o_check_moment_sentence (mC o_depth_of_sentence (mC o_joined_truths (mC o_told_by_bits (mC o_holds_now (mC o_told_by_guess (mC o_joined_sentences (mC o_outer_time_parts (mC o_outer_lights (mC o_each_sentence_once (mC o_rows_of_bits (mC o_follows_by_bits (mC o__law_draws (mC o__law_take (mC o__law_cell (mC o__law_same (mC o__law_moment (mC o__law_sentence (mC o__law_inner (mC o__law_times (mC o__law_now (mC o__law_bits (mC o__law_lights_in (mC o__law_depth (mC o__law_is_refused (mC o__law_is_checked (mC o__law_is_told (mC o__law_outer (mC o__law_follows (mC o_law mN)))))))))))))))))))))))))))))))))))), by kernel_rfl⟩
abbrev Pg : Prog := progOf tb gl sb
end Lk70

namespace Lk70
open Py
theorem hk1 : K70.Hk Pg := ⟨by kernel_rfl, by kernel_rfl, by kernel_rfl, by kernel_rfl, by kernel_rfl, by kernel_rfl, by kernel_rfl, by kernel_rfl, by kernel_rfl, by kernel_rfl, by kernel_rfl, by kernel_rfl, by kernel_rfl, by kernel_rfl, by kernel_rfl, by kernel_rfl, by kernel_rfl, by kernel_rfl, by kernel_rfl, by kernel_rfl, by kernel_rfl, by kernel_rfl, by kernel_rfl, by kernel_rfl, by kernel_rfl, by kernel_rfl, by kernel_rfl, by kernel_rfl, by kernel_rfl, by kernel_rfl, by kernel_rfl, by kernel_rfl, by kernel_rfl, by kernel_rfl, by kernel_rfl, by kernel_rfl, by kernel_rfl, by kernel_rfl, by kernel_rfl, by kernel_rfl, by kernel_rfl, by kernel_rfl⟩
theorem fact (ns : List Int) (h : ns.length ≤ 63) : wC Pg 16 (HandSHeadRun.topDef (PySem.W.OpenLaw.row PySem.Challenge.rw_texttoticks_k70_sentences_of_moments_and).prog 43).name [.fl (ns.map D.int)] (fun _ => none) (fun v _ => v = .bl true) noX := by
  have e : (HandSHeadRun.topDef (PySem.W.OpenLaw.row PySem.Challenge.rw_texttoticks_k70_sentences_of_moments_and).prog 43).name = ("law" : PySem.Str) := by kernel_rfl
  rw [e]
  exact K70.law70 hk1 ns h
end Lk70
namespace Lk70
open L2 Py PySem
def lo0 : List Str := ["parts_of_sentence", "all_in_sentence", "lights_in_sentence", "check_sentence", "time_parts", "is_of_moment", "check_moment_sentence", "depth_of_sentence", "joined_truths", "told_by_bits", "holds_now", "told_by_guess", "joined_sentences", "outer_time_parts", "outer_lights", "each_sentence_once", "rows_of_bits", "follows_by_bits", "_law_draws", "_law_take", "_law_cell", "_law_same", "_law_moment", "_law_sentence", "_law_inner", "_law_times", "_law_now", "_law_bits", "_law_lights_in", "_law_depth"]
def lo1 : List Str := ["_law_is_refused", "_law_is_checked", "_law_is_told", "_law_outer", "_law_follows", "TickError", "InvalidWorld", "InvalidSentence", "TIME_HEADS", "TRUE"]
def loo : List Str := lo0 ++ lo1
abbrev rr : PySem.W.OpenRow := PySem.W.OpenLaw.row PySem.Challenge.rw_texttoticks_k70_sentences_of_moments_and
abbrev hk : PySem.W.Hook := hookP 5 (faOf tb sb xs) (tb.map FnT.d) gl sb
def ob (s : PySem.W.SharedT) : AlP := obsP 5 (faOf tb sb xs) (tb.map FnT.d) gl sb (HandSHeadRun.getT s)
theorem obe (s : PySem.W.SharedT) : ob s = hk.obs s.abs := obsP_eq (HandSHeadRun.getT_eq s)
open PySem.W PySem.Calls
theorem at_of {α β : Type} {x : Option α} {s : α} {f : α → β} {b : β} (e : x = some s) (h : x.map f = some b) : f s = b := by
  subst e
  exact Option.some.inj h
theorem run_of {α β γ δ : Type} {x : Option α} {A : α → β} {B : α → γ} {C : α → δ} {a : β} {b : γ} {c : δ} (hA : x.map A = some a) (hB : x.map B = some b) (hC : ∀ s, x = some s → C s = c) : x.map (fun s => (A s, B s, C s)) = some (a, b, c) := by
  cases x with
  | none => cases hA
  | some s => rw [Option.map_some, at_of rfl hA, at_of rfl hB, hC s rfl]
theorem rnA (w : World) (os : OsState) : (HandSHeadRun.endF (HandSHeadRun.stepQ (HandSHeadRun.denQ HandSHeadRun.tabQ) rr.prog w) 4000 rr.prog w os).map (fun s => HandSHeadRun.looksF rr.prog (boot_heap w.params) s.abs) = some true := by
  kernel_rfl
theorem rnB (w : World) (os : OsState) : (HandSHeadRun.endF (HandSHeadRun.stepQ (HandSHeadRun.denQ HandSHeadRun.tabQ) rr.prog w) 4000 rr.prog w os).map (fun s => HandSHeadRun.seenQ (PySem.W.view rr.prog [43]) loo (importedModules rr.prog.main.body) (fun s => PySem.W.xlAt (PySem.W.view rr.prog [43]) [] s && PySem.W.recOk rr.toRowW.records s) s.abs) = some (PySem.W.openGood (PySem.W.view rr.prog [43]) loo) := by
  kernel_rfl
theorem rnO (w : World) (os : OsState) : (HandSHeadRun.endF (HandSHeadRun.stepQ (HandSHeadRun.denQ HandSHeadRun.tabQ) rr.prog w) 4000 rr.prog w os).map (fun s => obsP 5 (faOf tb sb xs) (tb.map FnT.d) gl sb (HandSHeadRun.getT s)) = some (He.valD (tb.map FnT.d), true) := by
  kernel_rfl
theorem run_fin {r : PySem.W.OpenRow} {q : Program} {H : PySem.W.Hook} {ob : PySem.W.SharedT → H.α} {M : Nat} {loose : List Str} {w : World} (hA : ∀ os : OsState, (HandSHeadRun.endF (HandSHeadRun.stepQ (HandSHeadRun.denQ HandSHeadRun.tabQ) r.prog w) M r.prog w os).map (fun s => HandSHeadRun.looksF r.prog (boot_heap w.params) s.abs) = some true) (hB : ∀ os : OsState, (HandSHeadRun.endF (HandSHeadRun.stepQ (HandSHeadRun.denQ HandSHeadRun.tabQ) r.prog w) M r.prog w os).map (fun s => HandSHeadRun.seenQ q loose (importedModules r.prog.main.body) (fun s => PySem.W.xlAt q [] s && PySem.W.recOk r.toRowW.records s) s.abs) = some (PySem.W.openGood q loose)) (hC : ∀ (os : OsState) (s : PySem.W.SharedT), (HandSHeadRun.endF (HandSHeadRun.stepQ (HandSHeadRun.denQ HandSHeadRun.tabQ) r.prog w) M r.prog w os) = some s → ob s = H.val w) : HandSHeadRun.RunEq r q H ob M loose w := fun os => run_of (hA os) (hB os) (hC os)
theorem rnC (w : World) (os : OsState) (s : PySem.W.SharedT) (e : (HandSHeadRun.endF (HandSHeadRun.stepQ (HandSHeadRun.denQ HandSHeadRun.tabQ) rr.prog w) 4000 rr.prog w os) = some s) : obsP 5 (faOf tb sb xs) (tb.map FnT.d) gl sb (HandSHeadRun.getT s) = (He.valD (tb.map FnT.d), true) := by
  have h := at_of e (rnO w os)
  exact h
theorem rn (w : World) : HandSHeadRun.RunEq rr (PySem.W.view rr.prog [43]) hk ob 4000 loo w := run_fin (rnA w) (rnB w) (rnC w)
end Lk70
open PySem PySem.W PySem.Calls in
theorem PySem.Challenge.cw_texttoticks_k70_sentences_of_moments_and_holds : PySem.Challenge.rw_texttoticks_k70_sentences_of_moments_and.Holds := by
  w_on; o_law
  refine HandSHeadRun.head_any (r := Lk70.rr) (q := view Lk70.rr.prog [43]) (H := Lk70.hk) (ob := Lk70.ob) (M := 4000) (loose := Lk70.loo) (d := HandSHeadRun.topDef Lk70.rr.prog 43) (kwd := []) Lk70.obe
    (by kernel_rfl) (fun s => by kernel_rfl) Lk70.rn (by kernel_rfl) (by kernel_rfl) (by kernel_rfl) rfl (by first | assumption | decide +kernel) (by decide +kernel) ⟨rfl, rfl, rfl, rfl, rfl, by decide +kernel⟩ ?hw ?hc
  case hw => w_witness2
  case hc => exact Py.law_end (k := 16) (x := "script") (t := Lk70.t_law) rfl (by kernel_rfl) ⟨rfl, by decide, by decide⟩ Lk70.tok (by kernel_rfl) (by kernel_rfl) rfl Lk70.fact

