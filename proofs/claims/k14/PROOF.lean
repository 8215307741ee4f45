import PyProof.Rows.All
import Wide.All
import OpenK.AllK
import Wide.FinOn
import KE.KStateDown
import Lean
import HandS.Base
import HandS.Call
import HandS.CallLocal
import HandS.CallSlots
import HandS.Conv
import HandS.Deep
import HandS.Defaults
import HandS.Ends
import HandS.ExcOwn
import HandS.Flow
import HandS.ForMost
import HandS.Head0
import HandS.Head1
import HandS.Head2
import HandS.HeadEnd
import HandS.HeadHook1
import HandS.HeadHook2
import HandS.HeadHook4
import HandS.IsInst
import HandS.More
import HandS.SetFor
import HandS.SortInts
import HandS.Strs
import HandS.Style
import HandS.TryOnly
import HandS.TupAny
import HandS.TupMul
import HandS.Wide
import HandS.Words
import HandS.WordsExc
import KE.DataCmp
import PySem.Challenge.RW_texttoticks_k14_codes_and_ways
set_option Elab.async false
set_option linter.all false
set_option maxRecDepth 100000
set_option maxHeartbeats 40000000
/-! The abstract reading of the Python used here: pure data D, a heap of lists and dicts, and what must hold so that a piece of syntax comes to an end that is wanted. -/
namespace Py
open PySem (Str)

/-- data: tuples are pure; a list or a dict stands at an address -/
inductive D where
  | non | bl (b : Bool) | int (i : Int) | str (s : Str) | tup (xs : List D) | loc (a : Nat) | fn (x : Str)
  /-- a list that stands locked: the script -/
  | fl (xs : List D)
  deriving Inhabited
inductive AO where
  | lst (xs : List D)
  | dct (kvs : List (D × D))
abbrev AH := Nat → Option AO
def put (h : AH) (a : Nat) (o : AO) : AH := fun b => if b = a then some o else h b
@[simp] theorem put_self {h : AH} {a : Nat} {o : AO} : put h a o a = some o := by simp [put]
theorem put_ne {h : AH} {a b : Nat} {o : AO} (e : b ≠ a) : put h a o b = h b := by simp [put, e]
@[simp] theorem put_put {h : AH} {a : Nat} {o o' : AO} : put (put h a o) a o' = put h a o' := by
  funext b; simp only [put]; split <;> rfl

/-! ### equality of data, as Python has it -/
mutual
def eqv : D → D → Bool
  | .tup xs, .tup ys => eqvs xs ys
  | .non, .non => true
  | .bl a, .bl b => a == b
  | .bl a, .int j => (if a then 1 else 0) == j
  | .int i, .bl b => i == (if b then 1 else 0)
  | .int i, .int j => i == j
  | .str x, .str y => x == y
  | _, _ => false
def eqvs : List D → List D → Bool
  | [], [] => true
  | x :: xs, y :: ys => eqv x y && eqvs xs ys
  | _, _ => false
end
/-- data that can be compared: no address, texts of code points, not deep -/
def pu : Nat → D → Bool
  | _, .non => true
  | _, .bl _ => true
  | _, .int _ => true
  | _, .str s => s.cps.all (· < 0x110000)
  | n + 1, .tup xs => xs.all (pu n)
  | _, _ => false
/-- the same, without bools -/
def pk : Nat → D → Bool
  | _, .non => true
  | _, .int _ => true
  | _, .str s => s.cps.all (· < 0x110000)
  | n + 1, .tup xs => xs.all (pk n)
  | _, _ => false

/-! ### what an expression comes to: a value, or an object that is just made -/
inductive Rv where
  | v (d : D)
  | o (x : AO)
def gd {α : Type} (o : Option α) (k : α → Prop) : Prop := ∃ a, o = some a ∧ k a
@[simp] theorem gd_some {α : Type} {a : α} {k : α → Prop} : gd (some a) k = k a := by simp [gd]
@[simp] theorem gd_none {α : Type} {k : α → Prop} : gd (none : Option α) k = False := by simp [gd]
theorem gd_ite {α : Type} {c : Prop} [Decidable c] {a b : Option α} {k : α → Prop} : gd (if c then a else b) k = if c then gd a k else gd b k := by split <;> rfl
theorem gd_bite {α : Type} {c : Bool} {a b : Option α} {k : α → Prop} : gd (bif c then a else b) k = if c = true then gd a k else gd b k := by cases c <;> rfl
theorem gd.mono {α : Type} {o : Option α} {k k' : α → Prop} (h : gd o k) (m : ∀ a, k a → k' a) : gd o k' := let ⟨a, e, q⟩ := h; ⟨a, e, m a q⟩
theorem ite_false_and {c : Prop} [Decidable c] {p : Prop} : (if c then p else False) = (c ∧ p) := by split <;> simp [*]

def rv (r : Rv) (h : AH) (Q : D → AH → Prop) : Prop := match r with
  | .v d => Q d h
  | .o x => ∀ a, h a = none → Q (.loc a) (put h a x)
@[simp] theorem rv_v {d : D} {h : AH} {Q : D → AH → Prop} : rv (.v d) h Q = Q d h := rfl
@[simp] theorem rv_o {x : AO} {h : AH} {Q : D → AH → Prop} : rv (.o x) h Q = ∀ a, h a = none → Q (.loc a) (put h a x) := rfl
theorem rv.mono {r : Rv} {h : AH} {Q Q' : D → AH → Prop} (q : rv r h Q) (m : ∀ d h, Q d h → Q' d h) : rv r h Q' := by
  cases r with
  | v d => exact m _ _ q
  | o x => exact fun a e => m _ _ (q a e)

/-- the object that is read -/
def ob (r : Rv) (h : AH) : Option AO := match r with
  | .v (.loc a) => h a
  | .o x => some x
  | _ => none
/-- the items of a list -/
def lsV (r : Rv) (h : AH) : Option (List D) := match r with
  | .v (.fl xs) => some xs
  | _ => match ob r h with
    | some (.lst xs) => some xs
    | _ => none
/-- .. of one that is not locked -/
def ltV (r : Rv) (h : AH) : Option (List D) := match ob r h with
  | some (.lst xs) => some xs
  | _ => none
/-- the items of a list or a tuple -/
def sqV (r : Rv) (h : AH) : Option (List D) := match r with
  | .v (.tup xs) => some xs
  | _ => lsV r h
def dcV (r : Rv) (h : AH) : Option (List (D × D)) := match ob r h with
  | some (.dct kvs) => some kvs
  | _ => none
def tru (r : Rv) (h : AH) : Option Bool := match r with
  | .v .non => some false
  | .v (.bl b) => some b
  | .v (.int i) => some (i != 0)
  | .v (.str s) => if s.length ≤ 16777216 then some (s.length != 0) else none
  | .v (.tup xs) => some (!xs.isEmpty)
  | _ => match ob r h with
    | some (.lst xs) => some (!xs.isEmpty)
    | some (.dct kvs) => some (!kvs.isEmpty)
    | none => none
def asInt (r : Rv) : Option Int := match r with
  | .v (.int i) => some i
  | _ => none
def asBool (r : Rv) : Option Bool := match r with
  | .v (.bl b) => some b
  | _ => none

/-! ### operators -/
inductive Bop | add | sub | mul | fdiv | mod | pow | shl | shr | band | bxor | bor
inductive Cop | eq | ne | lt | le | gt | ge | inn | nin
def mulOk (i j : Int) : Bool := (decide (-18446744073709551616 < i) && decide (i < 18446744073709551616)) || (decide (-18446744073709551616 < j) && decide (j < 18446744073709551616))
def wideOk (i j : Int) : Bool := decide (i.natAbs < 2 ^ 4000) && decide (j.natAbs < 2 ^ 4000)
def intOp (op : Bop) (i j : Int) : Option Int := match op with
  | .add => none
  | .sub => some (i - j)
  | .mul => none
  | .fdiv => if 0 < j ∧ j < 1073741824 then some (i / j) else none
  | .mod => if 0 < j then some (i % j) else none
  | .pow => if 0 ≤ j ∧ j ≤ 1000000 ∧ i.natAbs < 2 ^ 64 then some (i ^ j.toNat) else none
  | .shl => if 0 ≤ j ∧ j ≤ 1000000 ∧ i.natAbs < 2 ^ 64 then some (i * 2 ^ j.toNat) else none
  | .shr => if 0 ≤ j then some (i / 2 ^ j.toNat) else none
  | .band => some (PySem.Builtin.bitAnd i j)
  | .bxor => some (PySem.Builtin.bitXor i j)
  | .bor => some (PySem.Builtin.bitOr i j)
def rept (xs : List D) (k : Int) : List D := (List.replicate k.toNat xs).flatten
def addD (x y : Rv) (h : AH) : Option Rv := match x, y with
  | .v (.int i), .v (.int j) => some (.v (.int (i + j)))
  | .v (.str s), .v (.str t) => if s.length + t.length ≤ 16777216 then some (.v (.str (s ++ t))) else none
  | .v (.tup xs), .v (.tup ys) => if xs.length + ys.length ≤ 16777216 then some (.v (.tup (xs ++ ys))) else none
  | .v (.int i), .v (.bl b) => some (.v (.int (i + if b then 1 else 0)))
  | x, y => match ltV x h with
    | none => none
    | some xs => match ltV y h with
      | none => none
      | some ys => if xs.length + ys.length ≤ 16777216 then some (.o (.lst (xs ++ ys))) else none
def mulD (x y : Rv) (h : AH) : Option Rv := match y with
  | .v (.int k) => match x with
    | .v (.int i) => if mulOk i k || wideOk i k then some (.v (.int (i * k))) else none
    | .v (.tup xs) => if -9223372036854775808 ≤ k ∧ k < 9223372036854775808 ∧ xs.length * k.toNat ≤ 16777216 then some (.v (.tup (rept xs k))) else none
    | x => match ltV x h with
      | some xs => if -9223372036854775808 ≤ k ∧ k < 9223372036854775808 ∧ xs.length * k.toNat ≤ 16777216 then some (.o (.lst (rept xs k))) else none
      | none => none
  | _ => none
def binD (op : Bop) (x y : Rv) (h : AH) : Option Rv := match op with
  | .add => addD x y h
  | .mul => mulD x y h
  | op => match x with
    | .v (.int i) => match y with
      | .v (.int j) => match intOp op i j with
        | some k => some (.v (.int k))
        | none => none
      | _ => none
    | _ => none
/-- x op= y: the value and the heap -/
def augD (op : Bop) (x : D) (y : Rv) (h : AH) : Option (Rv × AH) := match x with
  | .loc a => match op with
    | .add => match h a with
      | some (.lst xs) => match ltV y h with
        | some ys => if xs.length + ys.length ≤ 16777216 then some (.v (.loc a), put h a (.lst (xs ++ ys))) else none
        | none => none
      | _ => none
    | _ => none
  | .int i => match y with
    | .v (.int j) => match op with
      | .add => some (.v (.int (i + j)), h)
      | .sub => some (.v (.int (i - j)), h)
      | _ => none
    | _ => none
  | .str s => match y with
    | .v (.str t) => match op with
      | .add => if s.length + t.length ≤ 16777216 then some (.v (.str (s ++ t)), h) else none
      | _ => none
    | _ => none
  | _ => none
def eqD (x y : Rv) (h : AH) : Option Bool := match x, y with
  | .v (.int i), .v (.int j) => some (decide (i = j))
  | .v (.str s), .v (.str t) => some (decide (s = t))
  | .v (.tup xs), .v (.tup ys) => if xs.all (pu 40) && ys.all (pu 40) then some (eqvs xs ys) else none
  | x, y => match lsV x h, lsV y h with
    | some xs, some ys => if xs.all (pu 40) && ys.all (pu 40) then some (eqvs xs ys) else none
    | none, none => match x, y with
      | .v d, .v e => if pu 40 d && pu 40 e then some (eqv d e) else none
      | _, _ => none
    | _, _ => none
def inD (x y : Rv) (h : AH) : Option Bool := match x with
  | .v d => match sqV y h with
    | some ys => if pu 40 d && ys.all (pu 40) then some (ys.any fun z => eqv z d) else none
    | none => match dcV y h with
      | some kvs => if pk 8 d then some (kvs.any fun p => eqv p.1 d) else none
      | none => none
  | _ => none
def cmpD (op : Cop) (x y : Rv) (h : AH) : Option Bool := match op with
  | .eq => eqD x y h
  | .ne => (eqD x y h).map (!·)
  | .inn => inD x y h
  | .nin => (inD x y h).map (!·)
  | .lt => match x, y with
    | .v (.int i), .v (.int j) => some (decide (i < j))
    | .v (.tup [.int a, .int b]), .v (.tup [.int c, .int d]) => some (decide (a < c ∨ (a = c ∧ b < d)))
    | _, _ => none
  | .le => match x, y with
    | .v (.int i), .v (.int j) => some (decide (i ≤ j))
    | _, _ => none
  | .gt => match x, y with
    | .v (.int i), .v (.int j) => some (decide (j < i))
    | _, _ => none
  | .ge => match x, y with
    | .v (.int i), .v (.int j) => some (decide (j ≤ i))
    | _, _ => none
/-- x is None, x is True, x is False -/
def isD (x : Rv) (c : D) : Option Bool := match c with
  | .non => match x with
    | .v .non => some true
    | _ => some false
  | .bl b => match x with
    | .v (.bl k) => some (k == b)
    | _ => none
  | _ => none

/-! ### items and slices -/
def ixN (n : Nat) (i : Int) : Option Nat :=
    if 0 ≤ i then (if i < n then some i.toNat else none) else if -(n : Int) ≤ i then some (i + n).toNat else none
def atI {α : Type} (xs : List α) (i : Int) : Option α := (ixN xs.length i).bind fun j =>
    xs[j]?
def look (kvs : List (D × D)) (k : D) : Option D := match kvs.find? fun p => eqv p.1 k with
  | some p => some p.2
  | none => none
def dput (kvs : List (D × D)) (k v : D) : List (D × D) := match kvs with
  | [] => [(k, v)]
  | p :: r => if eqv p.1 k then (p.1, v) :: r else p :: dput r k v
def ixD (x i : Rv) (h : AH) : Option D := match i with
  | .v k => match sqV x h with
    | some xs => match k with
      | .int j => atI xs j
      | _ => none
    | none => match dcV x h with
      | some kvs => if pk 8 k then look kvs k else none
      | none => match x, k with
        | .v (.str z), .int j => if z.length ≤ 16777216 then (atI z.cps.toList j).map fun c => .str ⟨#[c]⟩ else none
        | _, _ => none
  | _ => none
def sIx (n d : Nat) :
    Option Int → Nat
  | none => d
  | some v =>
      if v < 0 then (v + (n : Int)).toNat else min v.toNat n
def cut {α : Type} (xs : List α) (lo hi : Option Int) : List α := (xs.drop (sIx xs.length 0 lo)).take (sIx xs.length xs.length hi - sIx xs.length 0 lo)
def slD (x : Rv) (lo hi : Option Int) (h : AH) : Option Rv := match x with
  | .v (.tup xs) => some (.v (.tup (cut xs lo hi)))
  | x => match lsV x h with
    | some xs => some (.o (.lst (cut xs lo hi)))
    | none => none
/-- the items of xs[lo:hi:st], a list's -/
def pkL {α : Type} (st : Int) (lo hi : Option Int) (xs : List α) : List α := (PySem.sliceRange (PySem.sliceBounds lo hi (some st) xs.length).1 (PySem.sliceBounds lo hi (some st) xs.length).2.1 (PySem.sliceBounds lo hi (some st) xs.length).2.2).filterMap fun k => xs[k]?
/-- .. a tuple's -/
def pkT {α : Type} (st : Int) (lo hi : Option Int) (xs : List α) : List α := ((List.range (PySem.Builtin.Slice.slicePlaces (PySem.Builtin.Slice.sliceAdjust lo hi st xs.length).1 (PySem.Builtin.Slice.sliceAdjust lo hi st xs.length).2 st)).map fun (k : Nat) => ((PySem.Builtin.Slice.sliceAdjust lo hi st xs.length).1 + (k : Int) * st).toNat).filterMap fun k => xs[k]?
/-- a[lo:hi:st] -/
def slsD (x : Rv) (lo hi : Option Int) (st : Int) (h : AH) : Option Rv := match x with
  | .v (.tup xs) => if (pkT st lo hi xs).length ≤ 16777216 then some (.v (.tup (pkT st lo hi xs))) else none
  | x => match lsV x h with
    | some xs => if (pkL st lo hi xs).length ≤ 16777216 then some (.o (.lst (pkL st lo hi xs))) else none
    | none => none
def setD (o i d : D) (h : AH) : Option AH := match o with
  | .loc a => match h a with
    | some (.lst xs) => match i with
      | .int k => (ixN xs.length k).map fun j => put h a (.lst (xs.set j d))
      | _ => none
    | some (.dct kvs) => if pk 8 i ∧ kvs.length < 16777216 then some (put h a (.dct (dput kvs i d))) else none
    | _ => none
  | _ => none

/-! ### built-ins and methods -/
inductive Ty | int | bool | str | tup
inductive Bi | len | int | bool | str | tup | lst | abs | any | all | sum | min | max | sorted | lens | sset | isa (t : Ty)
inductive B2 | min | max
inductive Mt | append | pop | popi | index | reverse | extend | get | get2 | insert | count
def intsL : List D → Option (List Int)
  | [] => some []
  | .int i :: r => (intsL r).map (i :: ·)
  | _ :: _ => none
def blsL : List D → Option (List Bool)
  | [] => some []
  | .bl b :: r => (blsL r).map (b :: ·)
  | _ :: _ => none
def maxI : List Int → Option Int
  | [] => none
  | i :: r => some (r.foldl (fun m x => if m < x then x else m) i)
def minI : List Int → Option Int
  | [] => none
  | i :: r => some (r.foldl (fun m x => if x < m then x else m) i)
def insI (x : Int) :
    List Int → List Int
  | [] => [x]
  | y :: r => if x ≤ y then x :: y :: r else y :: insI x r
def sortI : List Int → List Int
  | [] => []
  | x :: r => insI x (sortI r)
def isTy (x : Rv) (t : Ty) (h : AH) : Option Bool := match x with
  | .v .non => some false
  | .v (.bl _) => some (match t with | .bool => true | .int => true | _ => false)
  | .v (.int _) => some (match t with | .int => true | _ => false)
  | .v (.str _) => some (match t with | .str => true | _ => false)
  | .v (.tup _) => some (match t with | .tup => true | _ => false)
  | x => match lsV x h with
    | some _ => some false
    | none => none
/-- unlike ints, in order -/
def ddI (ns : List Int) : List Int := ns.foldl (fun acc x => if acc.any (· == x) then acc else acc ++ [x]) []
/-- sorted(set(..)) -/
def ssetI (xs : List D) : Option Rv := (intsL xs).bind fun ns => if ns.length < 64 then some (.o (.lst ((sortI (ddI ns)).map D.int))) else none
/-- len(set(..)) -/
def lensI (xs : List D) : Option Rv := (intsL xs).bind fun ns => if ns.length < 4000 then some (.v (.int (ddI ns).length)) else none
def b1D (b : Bi) (x : Rv) (h : AH) : Option Rv := match b with
  | .lens => match x with
    | .v (.tup xs) => lensI xs
    | x => match lsV x h with
      | some xs => lensI xs
      | none => none
  | .len => match sqV x h with
    | some xs => some (.v (.int xs.length))
    | none => match dcV x h with
      | some kvs => some (.v (.int kvs.length))
      | none => match x with
        | .v (.str s) => if s.length ≤ 16777216 then some (.v (.int s.length)) else none
        | _ => none
  | .int => match x with
    | .v (.int i) => some (.v (.int i))
    | .v (.bl b) => some (.v (.int (if b then 1 else 0)))
    | _ => none
  | .bool => match x with
    | .v (.int i) => some (.v (.bl (i != 0)))
    | .v (.bl b) => some (.v (.bl b))
    | _ => none
  | .str => match x with
    | .v (.int i) => if i.natAbs.log2 < 1920 then some (.v (.str (toString i))) else none
    | _ => none
  | .tup => (sqV x h).map fun xs => .v (.tup xs)
  | .lst => (sqV x h).map fun xs => .o (.lst xs)
  | .abs => match x with
    | .v (.int i) => some (.v (.int (if i < 0 then -i else i)))
    | _ => none
  | .any => match lsV x h with
    | some xs => (blsL xs).map fun bs => .v (.bl (bs.any id))
    | none => none
  | .all => match lsV x h with
    | some xs => (blsL xs).map fun bs => .v (.bl (bs.all id))
    | none => none
  | .sum => match lsV x h with
    | some xs => (intsL xs).map fun ns => .v (.int ns.sum)
    | none => none
  | .min => match lsV x h with
    | some xs => ((intsL xs).bind minI).map fun m => .v (.int m)
    | none => none
  | .max => match lsV x h with
    | some xs => ((intsL xs).bind maxI).map fun m => .v (.int m)
    | none => none
  | .sorted => match lsV x h with
    | some xs => (intsL xs).map fun ns => .o (.lst ((sortI ns).map D.int))
    | none => none
  | .sset => match lsV x h with
    | some xs => ssetI xs
    | none => none
  | .isa t => (isTy x t h).map fun b => .v (.bl b)
def b2D (b : B2) (x y : D) : Option D := match b, x, y with
  | .min, .int i, .int j => some (.int (if j < i then j else i))
  | .max, .int i, .int j => some (.int (if i < j then j else i))
  | _, _, _ => none
def idx (ys : List D) (x : D) : Option Nat := ys.findIdx? fun z => eqv z x
/-- the list that a method is called of -/
def mLs (o : Rv) (h : AH) (k : Nat → List D → Option (Rv × AH)) : Option (Rv × AH) := match o with
  | .v (.loc a) => match h a with
    | some (.lst xs) => k a xs
    | _ => none
  | _ => none
def mtD (m : Mt) (o : Rv) (es : List D) (h : AH) : Option (Rv × AH) := match m with
  | .append => mLs o h fun a xs => match es with
    | [x] => if xs.length < 16777216 then some (.v .non, put h a (.lst (xs ++ [x]))) else none
    | _ => none
  | .pop => mLs o h fun a xs => match es with
    | [] => match xs[xs.length - 1]? with
      | some y => some (.v y, put h a (.lst xs.dropLast))
      | none => none
    | _ => none
  | .popi => mLs o h fun a xs => match es with
    | [i] => match asInt (.v i) with
      | some i => if -9223372036854775808 ≤ i ∧ i < 9223372036854775808 then (match ixN xs.length i with
        | some k => match xs[k]? with
          | some y => some (.v y, put h a (.lst (xs.eraseIdx k)))
          | none => none
        | none => none) else none
      | none => none
    | _ => none
  | .insert => mLs o h fun a xs => match es with
    | [i, x] => match asInt (.v i) with
      | some i => if 0 ≤ i ∧ i < 9223372036854775808 ∧ xs.length < 16777216 then some (.v .non, put h a (.lst (xs.take i.toNat ++ [x] ++ xs.drop i.toNat))) else none
      | none => none
    | _ => none
  | .reverse => mLs o h fun a xs => match es with
    | [] => some (.v .non, put h a (.lst xs.reverse))
    | _ => none
  | .extend => mLs o h fun a xs => match es with
    | [b] => match ltV (.v b) h with
      | some ys => if xs.length + ys.length ≤ 16777216 then some (.v .non, put h a (.lst (xs ++ ys))) else none
      | none => none
    | _ => none
  | .index => match es with
    | [x] => match sqV o h with
      | some ys => if pu 40 x && ys.all (pu 40) then (match idx ys x with
        | some j => some (.v (.int j), h)
        | none => none) else none
      | none => none
    | _ => none
  | .count => none
  | .get => match es with
    | [k] => match dcV o h with
      | some kvs => if pk 8 k then some (.v ((look kvs k).getD .non), h) else none
      | none => none
    | _ => none
  | .get2 => match es with
    | [k, d] => match dcV o h with
      | some kvs => if pk 8 k then some (.v ((look kvs k).getD d), h) else none
      | none => none
    | _ => none

/-! ### syntax -/
mutual
inductive Ex where
  | lit (d : D) | var (i : Nat) | glo (x : Str)
  | bin (op : Bop) (a b : Ex) | cmp (op : Cop) (a b : Ex) | chain (o1 o2 : Cop) (a b c : Ex) | isc (neg : Bool) (a : Ex) (c : D)
  | and (a b : Ex) | or (a b : Ex) | not (a : Ex) | neg (a : Ex) | ite (c a b : Ex)
  | tup (es : Es) | lst (es : Es) | dct
  | call (f : Str) (es : Es) | callv (i : Nat) (es : Es)
  | b1 (b : Bi) (a : Ex) | b2 (b : B2) (a c : Ex) | mt (m : Mt) (o : Ex) (es : Es)
  | ix (a i : Ex) | sl (a : Ex) (lo hi : Oe) | sls (a : Ex) (lo hi : Oe) (st : Int) | rng (t : Bool) (it : It)
  | comp (t : Tg) (it : It) (own : List Nat) (e : Ex) | compi (t : Tg) (it : It) (own : List Nat) (c e : Ex)
  | comp2 (t : Tg) (it : It) (own : List Nat) (t1 : Tg) (it1 : It) (own1 : List Nat) (e : Ex)
inductive Es where
  | nil | cons (e : Ex) (es : Es)
inductive Oe where
  | no | so (e : Ex)
inductive It where
  | seq (e : Ex) | rng1 (a : Ex) | rng2 (a b : Ex) | rng3 (a b c : Ex)
inductive Tg where
  | nm (i : Nat) | tp (ts : Tgs)
inductive Tgs where
  | nil | cons (t : Tg) (ts : Tgs)
end
mutual
inductive St where
  | asg (t : Tg) (e : Ex) | set (o i e : Ex) | aug (i : Nat) (op : Bop) (e : Ex) | expr (e : Ex)
  | ifs (c : Ex) (a b : Sts) | whl (c : Ex) (b : Sts) | for_ (t : Tg) (it : It) (b : Sts)
  | ret (e : Ex) | retn | rais (c : Str) | tryx (b : Sts) (c : Str) (d : D) | pass | brk | cnt
inductive Sts where
  | nil | cons (s : St) (r : Sts)
end
/-- a def: its parameters' number, its slots' number, its body -/
structure Fn where
  np : Nat
  nn : Nat
  body : Sts

/-! ### what is wanted -/
abbrev Env := List (Option D)
abbrev Xc := Str → AH → Prop
abbrev Cal := Str → List D → AH → (D → AH → Prop) → Xc → Prop
def noX : Xc := fun _ _ => False
/-- what is walked -/
inductive Src where
  | fix (xs : List D)
  | lst (a : Nat) (xs : List D)
def Src.items : Src → List D
  | .fix xs => xs
  | .lst _ xs => xs
def Src.chk : Src → AH → Prop
  | .fix _, _ => True
  | .lst a xs, h => h a = some (.lst xs)
def srcOf (r : Rv) (h : AH) : Option Src := match r with
  | .v (.tup xs) => some (.fix xs)
  | .v (.fl xs) => some (.fix xs)
  | .v (.loc a) => match h a with
    | some (.lst xs) => some (.lst a xs)
    | _ => none
  | .o (.lst xs) => some (.fix xs)
  | _ => none
def rngL (lo : Int) (n : Nat) : List D := (List.range n).map fun (i : Nat) => D.int (lo + i)
def rngLC (lo c : Int) (n : Nat) : List D := (List.range n).map fun (i : Nat) => D.int (lo + i * c)
def stepOk (s : Int) : Bool := decide (s ≠ 0) && decide (-1073741824 < s) && decide (s < 1073741824)
def small62 (i : Int) : Bool := decide (-4611686018427387904 ≤ i) && decide (i < 4611686018427387904)
/-- how many turns range(i, j, c) has -/
def rngN (i j c : Int) : Nat := (PySem.Builtin.Range.rangeSize i j c).toNat
def wipe (env : Env) : List Nat → Env
  | [] => env
  | v :: vs => (wipe env vs).set v none
def lk (env : Env) (i : Nat) : Option D := match env[i]? with
  | some (some d) => some d
  | _ => none
abbrev TX := Env → AH → (Rv → AH → Prop) → Xc → Prop
abbrev TEs := Env → AH → (List D → AH → Prop) → Xc → Prop
abbrev TO := Env → AH → (Option Int → AH → Prop) → Xc → Prop
abbrev TI := Env → AH → (Src → AH → Prop) → Xc → Prop
abbrev TG := D → Env → AH → (Env → AH → Prop) → Prop
abbrev TGs := List D → Env → AH → (Env → AH → Prop) → Prop
/-- here: what is wanted behind a statement -/
structure Ks where
  nx : Env → AH → Prop
  rt : D → AH → Prop
  bk : Env → AH → Prop
  ct : Env → AH → Prop
  ex : Env → Xc
abbrev TS := Env → AH → Ks → Prop
def gNm (i : Nat) : TG := fun d env h k => k (env.set i (some d)) h
def gTp (t : TGs) : TG := fun d env h k => gd (sqV (.v d) h) fun xs => t xs env h k
def gNil : TGs := fun xs env h k => xs = [] ∧ k env h
def gCons (t : TG) (u : TGs) : TGs := fun xs env h k => match xs with
  | [] => False
  | x :: r => t x env h fun env1 h1 => u r env1 h1 k
mutual
def wTg : Tg → TG
  | .nm i => gNm i
  | .tp ts => gTp (wTgs ts)
def wTgs : Tgs → TGs
  | .nil => gNil
  | .cons t ts => gCons (wTg t) (wTgs ts)
end
/-- a comprehension's turns -/
def wComp (chk : AH → Prop) (step : D → AH → (Option D → AH → Prop) → Prop) : List D → List D → AH → (List D → AH → Prop) → Prop
  | [], acc, h, Q => chk h ∧ Q acc h
  | x :: r, acc, h, Q => chk h ∧ step x h fun o h1 => match o with
    | none => wComp chk step r acc h1 Q
    | some y => acc.length < 16777216 ∧ wComp chk step r (acc ++ [y]) h1 Q
/-- .. of two clauses -/
def wComp2 (chk : AH → Prop) (step : D → List D → AH → (List D → AH → Prop) → Prop) : List D → List D → AH → (List D → AH → Prop) → Prop
  | [], acc, h, Q => chk h ∧ Q acc h
  | x :: r, acc, h, Q => chk h ∧ step x acc h fun acc1 h1 => wComp2 chk step r acc1 h1 Q
def wFor (chk : AH → Prop) (bd : D → Env → AH → (Env → AH → Prop) → Prop) (nx : Env → AH → Prop) : List D → Env → AH → Prop
  | [], env, h => chk h ∧ nx env h
  | x :: r, env, h => chk h ∧ bd x env h fun env1 h1 => wFor chk bd nx r env1 h1

/-! ### expressions -/
def xLit (d : D) : TX := fun env h Q X => Q (.v d) h
def xVar (i : Nat) : TX := fun env h Q X => gd (lk env i) fun d => Q (.v d) h
def xGlo (G : Str → Option D) (x : Str) : TX := fun env h Q X => gd (G x) fun d => Q (.v d) h
def xBin (op : Bop) (a b : TX) : TX := fun env h Q X => a env h (fun x h1 => b env h1 (fun y h2 => gd (binD op x y h2) fun r => Q r h2) X) X
def xCmp (op : Cop) (a b : TX) : TX := fun env h Q X => a env h (fun x h1 => b env h1 (fun y h2 => gd (cmpD op x y h2) fun k => Q (.v (.bl k)) h2) X) X
def xChain (o1 o2 : Cop) (a b c : TX) : TX := fun env h Q X => a env h (fun x h1 => b env h1 (fun y h2 => gd (cmpD o1 x y h2) fun k =>
  if k = true then c env h2 (fun z h3 => gd (cmpD o2 y z h3) fun k2 => Q (.v (.bl k2)) h3) X else Q (.v (.bl false)) h2) X) X
def xIsc (neg : Bool) (a : TX) (c : D) : TX := fun env h Q X => a env h (fun x h1 => gd (isD x c) fun k => Q (.v (.bl (k != neg))) h1) X
def xAnd (a b : TX) : TX := fun env h Q X => a env h (fun x h1 => gd (tru x h1) fun k => if k = true then b env h1 Q X else Q x h1) X
def xOr (a b : TX) : TX := fun env h Q X => a env h (fun x h1 => gd (tru x h1) fun k => if k = true then Q x h1 else b env h1 Q X) X
def xNot (a : TX) : TX := fun env h Q X => a env h (fun x h1 => gd (tru x h1) fun k => Q (.v (.bl (!k))) h1) X
def xNeg (a : TX) : TX := fun env h Q X => a env h (fun x h1 => gd (asInt x) fun i => Q (.v (.int (-i))) h1) X
def xIte (c a b : TX) : TX := fun env h Q X => c env h (fun x h1 => gd (tru x h1) fun k => if k = true then a env h1 Q X else b env h1 Q X) X
def xTup (es : TEs) : TX := fun env h Q X => es env h (fun ds h1 => ds.length ≤ 16777216 ∧ Q (.v (.tup ds)) h1) X
def xLst (es : TEs) : TX := fun env h Q X => es env h (fun ds h1 => ds.length ≤ 16777216 ∧ Q (.o (.lst ds)) h1) X
def xDct : TX := fun env h Q X => Q (.o (.dct [])) h
def xCall (cal : Cal) (f : Str) (es : TEs) : TX := fun env h Q X => es env h (fun ds h1 => cal f ds h1 (fun d h2 => Q (.v d) h2) X) X
def asFn (d : D) : Option Str := match d with
  | .fn f => some f
  | _ => none
def isFn (G : Str → Option D) (f : Str) : Prop := (G f).bind asFn = some f
def xCallv (cal : Cal) (G : Str → Option D) (i : Nat) (es : TEs) : TX := fun env h Q X => gd ((lk env i).bind asFn) fun f => isFn G f ∧ es env h (fun ds h1 => cal f ds h1 (fun d h2 => Q (.v d) h2) X) X
def xB1 (b : Bi) (a : TX) : TX := fun env h Q X => a env h (fun x h1 => gd (b1D b x h1) fun r => Q r h1) X
def xB2 (b : B2) (a c : TX) : TX := fun env h Q X => a env h (fun x h1 => rv x h1 fun x1 h2 => c env h2 (fun y h3 => rv y h3 fun y1 h4 => gd (b2D b x1 y1) fun r => Q (.v r) h4) X) X
def mtChk (m : Mt) (x : Rv) (h : AH) : Bool := match m with
  | .index => (sqV x h).isSome
  | .count => (sqV x h).isSome
  | .get => (dcV x h).isSome
  | .get2 => (dcV x h).isSome
  | _ => (ltV x h).isSome
def xMt (m : Mt) (o : TX) (es : TEs) : TX := fun env h Q X => o env h (fun x h1 => mtChk m x h1 = true ∧ es env h1 (fun ds h2 => gd (mtD m x ds h2) fun p => Q p.1 p.2) X) X
def xIx (a i : TX) : TX := fun env h Q X => a env h (fun x h1 => i env h1 (fun y h2 => gd (ixD x y h2) fun d => Q (.v d) h2) X) X
def xSl (a : TX) (lo hi : TO) : TX := fun env h Q X => a env h (fun x h1 => lo env h1 (fun l h2 => hi env h2 (fun u h3 => gd (slD x l u h3) fun r => Q r h3) X) X) X
def xSls (a : TX) (lo hi : TO) (st : Int) : TX := fun env h Q X => a env h (fun x h1 => lo env h1 (fun l h2 => hi env h2 (fun u h3 => gd (slsD x l u st h3) fun r => Q r h3) X) X) X
def xRng (t : Bool) (it : TI) : TX := fun env h Q X => it env h (fun s h1 => s.items.length ≤ 16777216 ∧ Q (if t = true then .v (.tup s.items) else .o (.lst s.items)) h1) X
def stepC (t : TG) (env : Env) (own : List Nat) (e : TX) : D → AH → (Option D → AH → Prop) → Prop := fun x h k => t x (wipe env own) h fun env2 h3 => e env2 h3 (fun r h4 => rv r h4 fun d h5 => k (some d) h5) noX
def stepCi (t : TG) (env : Env) (own : List Nat) (c e : TX) : D → AH → (Option D → AH → Prop) → Prop := fun x h k => t x (wipe env own) h fun env2 h3 =>
  c env2 h3 (fun b h4 => gd (tru b h4) fun b => if b = true then e env2 h4 (fun r h5 => rv r h5 fun d h6 => k (some d) h6) noX else k none h4) noX
def xComp (t : TG) (it : TI) (own : List Nat) (e : TX) : TX := fun env h Q X => it env h (fun s h1 => wComp s.chk (stepC t env own e) s.items [] h1 fun acc h2 => Q (.o (.lst acc)) h2) X
def xCompi (t : TG) (it : TI) (own : List Nat) (c e : TX) : TX := fun env h Q X => it env h (fun s h1 => wComp s.chk (stepCi t env own c e) s.items [] h1 fun acc h2 => Q (.o (.lst acc)) h2) X
def stepC2 (t : TG) (env : Env) (own : List Nat) (t1 : TG) (it1 : TI) (own1 : List Nat) (e : TX) : D → List D → AH → (List D → AH → Prop) → Prop := fun x acc h k => t x (wipe env own) h fun env2 h3 =>
  it1 env2 h3 (fun s1 h4 => wComp s1.chk (stepC t1 env2 own1 e) s1.items acc h4 k) noX
def xComp2 (t : TG) (it : TI) (own : List Nat) (t1 : TG) (it1 : TI) (own1 : List Nat) (e : TX) : TX := fun env h Q X => it env h (fun s h1 => wComp2 s.chk (stepC2 t env own t1 it1 own1 e) s.items [] h1 fun acc h2 => Q (.o (.lst acc)) h2) X
def esNil : TEs := fun env h Q X => Q [] h
def esCons (e : TX) (es : TEs) : TEs := fun env h Q X => e env h (fun r h1 => rv r h1 fun d h2 => es env h2 (fun ds h3 => Q (d :: ds) h3) X) X
def oNo : TO := fun env h Q X => Q none h
def oSo (e : TX) : TO := fun env h Q X => e env h (fun r h1 => gd (asInt r) fun i => Q (some i) h1) X
def iSeq (e : TX) : TI := fun env h Q X => e env h (fun r h1 => gd (srcOf r h1) fun s => Q s h1) X
def iR1 (a : TX) : TI := fun env h Q X => a env h (fun r h1 => gd (asInt r) fun j => small62 j = true ∧ Q (.fix (rngL 0 j.toNat)) h1) X
def iR2 (a b : TX) : TI := fun env h Q X => a env h (fun r h1 => gd (asInt r) fun i => b env h1 (fun r2 h2 => gd (asInt r2) fun j => (small62 i && small62 j) = true ∧ Q (.fix (rngL i (j - i).toNat)) h2) X) X
def iR3 (a b c : TX) : TI := fun env h Q X => a env h (fun r h1 => gd (asInt r) fun i => b env h1 (fun r2 h2 => gd (asInt r2) fun j => c env h2 (fun r3 h3 => gd (asInt r3) fun s =>
  (small62 i && small62 j && stepOk s) = true ∧ Q (.fix (rngLC i s (rngN i j s))) h3) X) X) X
section
variable (cal : Cal) (G : Str → Option D)
mutual
def wX : Ex → TX
  | .lit d => xLit d
  | .var i => xVar i
  | .glo x => xGlo G x
  | .bin op a b => xBin op (wX a) (wX b)
  | .cmp op a b => xCmp op (wX a) (wX b)
  | .chain o1 o2 a b c => xChain o1 o2 (wX a) (wX b) (wX c)
  | .isc neg a c => xIsc neg (wX a) c
  | .and a b => xAnd (wX a) (wX b)
  | .or a b => xOr (wX a) (wX b)
  | .not a => xNot (wX a)
  | .neg a => xNeg (wX a)
  | .ite c a b => xIte (wX c) (wX a) (wX b)
  | .tup es => xTup (wEs es)
  | .lst es => xLst (wEs es)
  | .dct => xDct
  | .call f es => xCall cal f (wEs es)
  | .callv i es => xCallv cal G i (wEs es)
  | .b1 b a => xB1 b (wX a)
  | .b2 b a c => xB2 b (wX a) (wX c)
  | .mt m o es => xMt m (wX o) (wEs es)
  | .ix a i => xIx (wX a) (wX i)
  | .sl a lo hi => xSl (wX a) (wO lo) (wO hi)
  | .sls a lo hi st => xSls (wX a) (wO lo) (wO hi) st
  | .rng t it => xRng t (wI it)
  | .comp t it own e => xComp (wTg t) (wI it) own (wX e)
  | .compi t it own c e => xCompi (wTg t) (wI it) own (wX c) (wX e)
  | .comp2 t it own t1 it1 own1 e => xComp2 (wTg t) (wI it) own (wTg t1) (wI it1) own1 (wX e)
def wEs : Es → TEs
  | .nil => esNil
  | .cons e es => esCons (wX e) (wEs es)
def wO : Oe → TO
  | .no => oNo
  | .so e => oSo (wX e)
def wI : It → TI
  | .seq e => iSeq (wX e)
  | .rng1 a => iR1 (wX a)
  | .rng2 a b => iR2 (wX a) (wX b)
  | .rng3 a b c => iR3 (wX a) (wX b) (wX c)
end
end
/-! ### statements -/
def tE (a : TX) : Env → AH → (D → AH → Prop) → Xc → Prop := fun env h Q X => a env h (fun r h1 => rv r h1 Q) X
def tT (a : TX) : Env → AH → (Bool → AH → Prop) → Xc → Prop := fun env h Q X => a env h (fun r h1 => gd (tru r h1) fun k => Q k h1) X
def sAsg (t : TG) (e : TX) : TS := fun env h K => tE e env h (fun d h1 => t d env h1 K.nx) (K.ex env)
def sSet (o i e : TX) : TS := fun env h K => tE e env h (fun d h1 => tE o env h1 (fun a h2 => tE i env h2 (fun k h3 => gd (setD a k d h3) fun h4 => K.nx env h4) (K.ex env)) (K.ex env)) (K.ex env)
def sAug (i : Nat) (op : Bop) (e : TX) : TS := fun env h K => gd (lk env i) fun x => e env h (fun r h1 => gd (augD op x r h1) fun p => rv p.1 p.2 fun d h2 => K.nx (env.set i (some d)) h2) (K.ex env)
def sExpr (e : TX) : TS := fun env h K => e env h (fun _ h1 => K.nx env h1) (K.ex env)
def sIf (c : TX) (a b : TS) : TS := fun env h K => tT c env h (fun k h1 => if k = true then a env h1 K else b env h1 K) (K.ex env)
def Ks.turn (K : Ks) (n : Env → AH → Prop) : Ks := ⟨n, K.rt, K.nx, n, K.ex⟩
def Ks.then (K : Ks) (n : Env → AH → Prop) : Ks := ⟨n, K.rt, K.bk, K.ct, K.ex⟩
def sWhl (c : TX) (b : TS) : TS := fun env h K => ∃ W : Nat → Env → AH → Prop, (∃ m, W m env h) ∧ ∀ m env h, W m env h → tT c env h (fun k h1 =>
  if k = true then b env h1 (K.turn fun env1 h2 => ∃ m', m' < m ∧ W m' env1 h2) else K.nx env h1) (K.ex env)
def bdF (t : TG) (b : TS) (K : Ks) : D → Env → AH → (Env → AH → Prop) → Prop := fun x env h k => t x env h fun env3 h3 => b env3 h3 (K.turn k)
def sFor (t : TG) (it : TI) (b : TS) : TS := fun env h K => it env h (fun s h1 => wFor s.chk (bdF t b K) K.nx s.items env h1) (K.ex env)
def sRet (e : TX) : TS := fun env h K => tE e env h K.rt (K.ex env)
def sRetn : TS := fun env h K => K.rt .non h
def sRais (c : Str) : TS := fun env h K => K.ex env c h
def sTry (Sub : Str → Str → Option Bool) (b : TS) (c : Str) (d : D) : TS := fun env h K => b env h ⟨K.nx, K.rt, K.bk, K.ct, fun env1 x h1 => gd (Sub x c) fun k => if k = true then K.rt d h1 else K.ex env1 x h1⟩
def sPass : TS := fun env h K => K.nx env h
def sBrk : TS := fun env h K => K.bk env h
def sCnt : TS := fun env h K => K.ct env h
def bCons (s r : TS) : TS := fun env h K => s env h (K.then fun env1 h1 => r env1 h1 K)
section
variable (cal : Cal) (G : Str → Option D) (Sub : Str → Str → Option Bool)
mutual
def wS : St → TS
  | .asg t e => sAsg (wTg t) (wX cal G e)
  | .set o i e => sSet (wX cal G o) (wX cal G i) (wX cal G e)
  | .aug i op e => sAug i op (wX cal G e)
  | .expr e => sExpr (wX cal G e)
  | .ifs c a b => sIf (wX cal G c) (wB a) (wB b)
  | .whl c b => sWhl (wX cal G c) (wB b)
  | .for_ t it b => sFor (wTg t) (wI cal G it) (wB b)
  | .ret e => sRet (wX cal G e)
  | .retn => sRetn
  | .rais c => sRais c
  | .tryx b c d => sTry Sub (wB b) c d
  | .pass => sPass
  | .brk => sBrk
  | .cnt => sCnt
def wB : Sts → TS
  | .nil => sPass
  | .cons s r => bCons (wS s) (wB r)
end
end
/-- the program: its defs, the constants of its top, which class of exceptions is below which -/
structure Prog where
  fn : Str → Option Fn
  gl : Str → Option D
  sub : Str → Str → Option Bool
def start (n : Nat) (ds : List D) : Env := ds.map some ++ List.replicate (n - ds.length) none
def ksOf (Q : D → AH → Prop) (X : Xc) : Ks := ⟨fun _ h => Q .non h, Q, fun _ _ => False, fun _ _ => False, fun _ => X⟩
/-- a part of the heap -/
def Sub (h' h : AH) : Prop := ∀ a o, h' a = some o → h a = some o
/-- what is wanted of a part of the heap: the rest is forgotten -/
def someQ (Q : D → AH → Prop) : D → AH → Prop := fun d h => ∃ h', Sub h' h ∧ Q d h'
def someX (X : Xc) : Xc := fun c h => ∃ h', Sub h' h ∧ X c h'
/-- a call, by at most n levels -/
def wC (P : Prog) : Nat → Cal
  | 0 => fun _ _ _ _ _ => False
  | n + 1 => fun f ds h Q X => gd (P.fn f) fun c => ds.length = c.np ∧ wB (wC P n) P.gl P.sub c.body (start c.nn ds) h (ksOf (someQ Q) (someX X))
end Py
namespace Py
open PySem (Str)
def Mono (cal : Cal) : Prop := ∀ f ds h (Q Q' : D → AH → Prop) (X X' : Xc), (∀ d h, Q d h → Q' d h) → (∀ c h, X c h → X' c h) → cal f ds h Q X → cal f ds h Q' X'
def MX (t : TX) : Prop := ∀ env h (Q Q' : Rv → AH → Prop) (X X' : Xc), (∀ r h, Q r h → Q' r h) → (∀ c h, X c h → X' c h) → t env h Q X → t env h Q' X'
def MEs (t : TEs) : Prop := ∀ env h (Q Q' : List D → AH → Prop) (X X' : Xc), (∀ r h, Q r h → Q' r h) → (∀ c h, X c h → X' c h) → t env h Q X → t env h Q' X'
def MO (t : TO) : Prop := ∀ env h (Q Q' : Option Int → AH → Prop) (X X' : Xc), (∀ r h, Q r h → Q' r h) → (∀ c h, X c h → X' c h) → t env h Q X → t env h Q' X'
def MI (t : TI) : Prop := ∀ env h (Q Q' : Src → AH → Prop) (X X' : Xc), (∀ r h, Q r h → Q' r h) → (∀ c h, X c h → X' c h) → t env h Q X → t env h Q' X'
def MG (t : TG) : Prop := ∀ d env h (k k' : Env → AH → Prop), (∀ e h, k e h → k' e h) → t d env h k → t d env h k'
def MGs (t : TGs) : Prop := ∀ d env h (k k' : Env → AH → Prop), (∀ e h, k e h → k' e h) → t d env h k → t d env h k'
theorem rv_mono {r : Rv} {h : AH} {Q Q' : D → AH → Prop} (m : ∀ d h, Q d h → Q' d h) (q : rv r h Q) : rv r h Q' := q.mono m
theorem gd_mono {α : Type} {o : Option α} {k k' : α → Prop} (m : ∀ a, k a → k' a) (h : gd o k) : gd o k' := h.mono m
theorem ite_mono {c : Prop} [Decidable c] {a b a' b' : Prop} (h1 : a → a') (h2 : b → b') (q : if c then a else b) : if c then a' else b' := by
  split at q
  · rw [if_pos (by assumption)]; exact h1 q
  · rw [if_neg (by assumption)]; exact h2 q
mutual
theorem mTg : ∀ t : Tg, MG (wTg t)
  | .nm i => fun d env h k k' m q => m _ _ q
  | .tp ts => fun d env h k k' m q => gd_mono (fun xs q => mTgs ts xs env h k k' m q) q
theorem mTgs : ∀ t : Tgs, MGs (wTgs t)
  | .nil => fun d env h k k' m q => ⟨q.1, m _ _ q.2⟩
  | .cons t ts => fun xs env h k k' m q => by
    cases xs with
    | nil => exact q
    | cons x r => exact mTg t x env h _ _ (fun e h q => mTgs ts r e h k k' m q) q
end
theorem wComp_mono {chk : AH → Prop} {step step' : D → AH → (Option D → AH → Prop) → Prop} (hs : ∀ x h k k', (∀ o h, k o h → k' o h) → step x h k → step' x h k') :
    ∀ (xs acc : List D) (h : AH) (Q Q' : List D → AH → Prop), (∀ a h, Q a h → Q' a h) → wComp chk step xs acc h Q → wComp chk step' xs acc h Q'
  | [], acc, h, Q, Q', m, q => ⟨q.1, m _ _ q.2⟩
  | x :: r, acc, h, Q, Q', m, q => by
    refine ⟨q.1, hs x h _ _ (fun o h1 q => ?_) q.2⟩
    cases o with
    | none => exact wComp_mono hs r acc h1 Q Q' m q
    | some y => exact ⟨q.1, wComp_mono hs r _ h1 Q Q' m q.2⟩
theorem wComp2_mono {chk : AH → Prop} {step step' : D → List D → AH → (List D → AH → Prop) → Prop} (hs : ∀ x a h k k', (∀ o h, k o h → k' o h) → step x a h k → step' x a h k') :
    ∀ (xs acc : List D) (h : AH) (Q Q' : List D → AH → Prop), (∀ a h, Q a h → Q' a h) → wComp2 chk step xs acc h Q → wComp2 chk step' xs acc h Q'
  | [], acc, h, Q, Q', m, q => ⟨q.1, m _ _ q.2⟩
  | x :: r, acc, h, Q, Q', m, q => ⟨q.1, hs x acc h _ _ (fun o h1 q => wComp2_mono hs r o h1 Q Q' m q) q.2⟩
theorem wFor_mono {chk : AH → Prop} {bd bd' : D → Env → AH → (Env → AH → Prop) → Prop} {nx nx' : Env → AH → Prop} (hb : ∀ x e h k k', (∀ e h, k e h → k' e h) → bd x e h k → bd' x e h k') (hn : ∀ e h, nx e h → nx' e h) :
    ∀ (xs : List D) (env : Env) (h : AH), wFor chk bd nx xs env h → wFor chk bd' nx' xs env h
  | [], env, h, q => ⟨q.1, hn _ _ q.2⟩
  | x :: r, env, h, q => ⟨q.1, hb x env h _ _ (fun e h1 q => wFor_mono hb hn r e h1 q) q.2⟩
section
variable {a b c e : TX} {es : TEs} {t t1 : TG} {it it1 : TI} {lo hi : TO}
theorem m2 (ha : MX a) (hb : MX b) {env : Env} {h : AH} {Q Q' : Rv → Rv → AH → Prop} {X X' : Xc} (m : ∀ x y h, Q x y h → Q' x y h) (mx : ∀ c h, X c h → X' c h)
    (q : a env h (fun x h1 => b env h1 (fun y h2 => Q x y h2) X) X) : a env h (fun x h1 => b env h1 (fun y h2 => Q' x y h2) X') X' :=
  ha _ _ _ _ _ _ (fun x h1 q => hb _ _ _ _ _ _ (fun y h2 => m x y h2) mx q) mx q
theorem mStepC (ht : MG t) (he : MX e) {env : Env} {own : List Nat} : ∀ x h k k', (∀ o h, k o h → k' o h) → stepC t env own e x h k → stepC t env own e x h k' := fun x h k k' mk q =>
  ht _ _ _ _ _ (fun env2 h3 q => he _ _ _ _ _ _ (fun r h4 q => rv_mono (fun d h5 q => mk _ _ q) q) (fun _ _ z => z) q) q
theorem mStepCi (ht : MG t) (hc : MX c) (he : MX e) {env : Env} {own : List Nat} : ∀ x h k k', (∀ o h, k o h → k' o h) → stepCi t env own c e x h k → stepCi t env own c e x h k' := fun x h k k' mk q =>
  ht _ _ _ _ _ (fun env2 h3 q => hc _ _ _ _ _ _ (fun b h4 q => gd_mono (fun b q => ite_mono (fun q => he _ _ _ _ _ _ (fun r h4 q => rv_mono (fun d h5 q => mk _ _ q) q) (fun _ _ z => z) q) (fun q => mk _ _ q) q) q) (fun _ _ z => z) q) q
theorem mStepC2 (ht : MG t) (ht1 : MG t1) (hi1 : MI it1) (he : MX e) {env : Env} {own own1 : List Nat} : ∀ x a h k k', (∀ o h, k o h → k' o h) → stepC2 t env own t1 it1 own1 e x a h k → stepC2 t env own t1 it1 own1 e x a h k' := fun x a h k k' mk q =>
  ht _ _ _ _ _ (fun env2 h3 q => hi1 _ _ _ _ _ _ (fun s1 h4 q => wComp_mono (mStepC ht1 he) _ _ _ _ _ mk q) (fun _ _ z => z) q) q
end
section
variable {cal : Cal} {G : Str → Option D} (hc : Mono cal)
include hc
mutual
theorem mX : ∀ e : Ex, MX (wX cal G e)
  | .lit d => fun env h Q Q' X X' m mx q => m _ _ q
  | .var i => fun env h Q Q' X X' m mx q => gd_mono (fun _ => m _ _) q
  | .glo x => fun env h Q Q' X X' m mx q => gd_mono (fun _ => m _ _) q
  | .bin op a b => fun env h Q Q' X X' m mx q => m2 (mX a) (mX b) (fun x y h2 q => gd_mono (fun _ => m _ _) q) mx q
  | .cmp op a b => fun env h Q Q' X X' m mx q => m2 (mX a) (mX b) (fun x y h2 q => gd_mono (fun _ => m _ _) q) mx q
  | .chain o1 o2 a b c => fun env h Q Q' X X' m mx q => m2 (mX a) (mX b) (fun x y h2 q => gd_mono (fun k q => ite_mono (fun q => mX c _ _ _ _ _ _ (fun z h3 q => gd_mono (fun _ => m _ _) q) mx q) (fun q => m _ _ q) q) q) mx q
  | .isc neg a c => fun env h Q Q' X X' m mx q => mX a _ _ _ _ _ _ (fun x h1 q => gd_mono (fun _ => m _ _) q) mx q
  | .and a b => fun env h Q Q' X X' m mx q => mX a _ _ _ _ _ _ (fun x h1 q => gd_mono (fun k q => ite_mono (fun q => mX b _ _ _ _ _ _ m mx q) (fun q => m _ _ q) q) q) mx q
  | .or a b => fun env h Q Q' X X' m mx q => mX a _ _ _ _ _ _ (fun x h1 q => gd_mono (fun k q => ite_mono (fun q => m _ _ q) (fun q => mX b _ _ _ _ _ _ m mx q) q) q) mx q
  | .not a => fun env h Q Q' X X' m mx q => mX a _ _ _ _ _ _ (fun x h1 q => gd_mono (fun _ => m _ _) q) mx q
  | .neg a => fun env h Q Q' X X' m mx q => mX a _ _ _ _ _ _ (fun x h1 q => gd_mono (fun _ => m _ _) q) mx q
  | .ite c a b => fun env h Q Q' X X' m mx q => mX c _ _ _ _ _ _ (fun x h1 q => gd_mono (fun k q => ite_mono (fun q => mX a _ _ _ _ _ _ m mx q) (fun q => mX b _ _ _ _ _ _ m mx q) q) q) mx q
  | .tup es => fun env h Q Q' X X' m mx q => mEs es _ _ _ _ _ _ (fun ds h1 q => ⟨q.1, m _ _ q.2⟩) mx q
  | .lst es => fun env h Q Q' X X' m mx q => mEs es _ _ _ _ _ _ (fun ds h1 q => ⟨q.1, m _ _ q.2⟩) mx q
  | .dct => fun env h Q Q' X X' m mx q => m _ _ q
  | .call f es => fun env h Q Q' X X' m mx q => mEs es _ _ _ _ _ _ (fun ds h1 q => hc _ _ _ _ _ _ _ (fun d h2 => m _ _) mx q) mx q
  | .callv i es => fun env h Q Q' X X' m mx q => gd_mono (fun f q => ⟨q.1, mEs es _ _ _ _ _ _ (fun ds h1 q => hc _ _ _ _ _ _ _ (fun d h2 => m _ _) mx q) mx q.2⟩) q
  | .b1 b a => fun env h Q Q' X X' m mx q => mX a _ _ _ _ _ _ (fun x h1 q => gd_mono (fun _ => m _ _) q) mx q
  | .b2 b a c => fun env h Q Q' X X' m mx q => mX a _ _ _ _ _ _ (fun x h1 q => rv_mono (fun x1 h2 q => mX c _ _ _ _ _ _ (fun y h3 q => rv_mono (fun y1 h4 q => gd_mono (fun _ => m _ _) q) q) mx q) q) mx q
  | .mt mm o es => fun env h Q Q' X X' m mx q => mX o _ _ _ _ _ _ (fun x h1 q => ⟨q.1, mEs es _ _ _ _ _ _ (fun ds h2 q => gd_mono (fun _ => m _ _) q) mx q.2⟩) mx q
  | .ix a b => fun env h Q Q' X X' m mx q => m2 (mX a) (mX b) (fun x y h2 q => gd_mono (fun _ => m _ _) q) mx q
  | .sl a lo hi => fun env h Q Q' X X' m mx q => mX a _ _ _ _ _ _ (fun x h1 q => mO lo _ _ _ _ _ _ (fun l h2 q => mO hi _ _ _ _ _ _ (fun u h3 q => gd_mono (fun _ => m _ _) q) mx q) mx q) mx q
  | .sls a lo hi st => fun env h Q Q' X X' m mx q => mX a _ _ _ _ _ _ (fun x h1 q => mO lo _ _ _ _ _ _ (fun l h2 q => mO hi _ _ _ _ _ _ (fun u h3 q => gd_mono (fun _ => m _ _) q) mx q) mx q) mx q
  | .rng t it => fun env h Q Q' X X' m mx q => mI it _ _ _ _ _ _ (fun s h1 q => ⟨q.1, m _ _ q.2⟩) mx q
  | .comp t it own e => fun env h Q Q' X X' m mx q => mI it _ _ _ _ _ _ (fun s h1 q => wComp_mono (mStepC (mTg t) (mX e)) _ _ _ _ _ (fun a h => m _ _) q) mx q
  | .compi t it own c e => fun env h Q Q' X X' m mx q => mI it _ _ _ _ _ _ (fun s h1 q => wComp_mono (mStepCi (mTg t) (mX c) (mX e)) _ _ _ _ _ (fun a h => m _ _) q) mx q
  | .comp2 t it own t1 it1 own1 e => fun env h Q Q' X X' m mx q => mI it _ _ _ _ _ _ (fun s h1 q => wComp2_mono (mStepC2 (mTg t) (mTg t1) (mI it1) (mX e)) _ _ _ _ _ (fun a h => m _ _) q) mx q
theorem mEs : ∀ es : Es, MEs (wEs cal G es)
  | .nil => fun env h Q Q' X X' m mx q => m _ _ q
  | .cons e es => fun env h Q Q' X X' m mx q => mX e _ _ _ _ _ _ (fun r h1 q => rv_mono (fun d h2 q => mEs es _ _ _ _ _ _ (fun ds h3 q => m _ _ q) mx q) q) mx q
theorem mO : ∀ o : Oe, MO (wO cal G o)
  | .no => fun env h Q Q' X X' m mx q => m _ _ q
  | .so e => fun env h Q Q' X X' m mx q => mX e _ _ _ _ _ _ (fun r h1 q => gd_mono (fun _ => m _ _) q) mx q
theorem mI : ∀ it : It, MI (wI cal G it)
  | .seq e => fun env h Q Q' X X' m mx q => mX e _ _ _ _ _ _ (fun r h1 q => gd_mono (fun _ => m _ _) q) mx q
  | .rng1 a => fun env h Q Q' X X' m mx q => mX a _ _ _ _ _ _ (fun r h1 q => gd_mono (fun _ q => ⟨q.1, m _ _ q.2⟩) q) mx q
  | .rng2 a b => fun env h Q Q' X X' m mx q => mX a _ _ _ _ _ _ (fun r h1 q => gd_mono (fun _ q => mX b _ _ _ _ _ _ (fun r2 h2 q => gd_mono (fun _ q => ⟨q.1, m _ _ q.2⟩) q) mx q) q) mx q
  | .rng3 a b c => fun env h Q Q' X X' m mx q => mX a _ _ _ _ _ _ (fun r h1 q => gd_mono (fun _ q => mX b _ _ _ _ _ _ (fun r2 h2 q => gd_mono (fun _ q => mX c _ _ _ _ _ _ (fun r3 h3 q => gd_mono (fun _ q => ⟨q.1, m _ _ q.2⟩) q) mx q) q) mx q) q) mx q
end
end
structure Ks.le (K K' : Ks) : Prop where
  nx : ∀ e h, K.nx e h → K'.nx e h
  rt : ∀ d h, K.rt d h → K'.rt d h
  bk : ∀ e h, K.bk e h → K'.bk e h
  ct : ∀ e h, K.ct e h → K'.ct e h
  ex : ∀ e c h, K.ex e c h → K'.ex e c h
theorem Ks.le.turn {K K' : Ks} (m : K.le K') {n n' : Env → AH → Prop} (hn : ∀ e h, n e h → n' e h) : (K.turn n).le (K'.turn n') := ⟨hn, m.rt, m.nx, hn, m.ex⟩
theorem Ks.le.then {K K' : Ks} (m : K.le K') {n n' : Env → AH → Prop} (hn : ∀ e h, n e h → n' e h) : (K.then n).le (K'.then n') := ⟨hn, m.rt, m.bk, m.ct, m.ex⟩
def MS (t : TS) : Prop := ∀ env h (K K' : Ks), K.le K' → t env h K → t env h K'
theorem tE_mono {a : TX} (ha : MX a) {env : Env} {h : AH} {Q Q' : D → AH → Prop} {X X' : Xc} (m : ∀ r h, Q r h → Q' r h) (mx : ∀ c h, X c h → X' c h) (q : tE a env h Q X) : tE a env h Q' X' := ha _ _ _ _ _ _ (fun r h1 q => rv_mono m q) mx q
theorem tT_mono {a : TX} (ha : MX a) {env : Env} {h : AH} {Q Q' : Bool → AH → Prop} {X X' : Xc} (m : ∀ r h, Q r h → Q' r h) (mx : ∀ c h, X c h → X' c h) (q : tT a env h Q X) : tT a env h Q' X' := ha _ _ _ _ _ _ (fun r h1 q => gd_mono (fun k => m _ _) q) mx q
section
variable {cal : Cal} {G : Str → Option D} {Sub : Str → Str → Option Bool} (hc : Mono cal)
include hc
mutual
theorem mS : ∀ s : St, MS (wS cal G Sub s)
  | .asg t e => fun env h K K' m q => tE_mono (mX hc e) (fun d h1 q => mTg t d _ _ _ _ m.nx q) (m.ex env) q
  | .set o i e => fun env h K K' m q => tE_mono (mX hc e) (fun d h1 q => tE_mono (mX hc o) (fun a h2 q => tE_mono (mX hc i) (fun k h3 q => gd_mono (fun h4 => m.nx _ _) q) (m.ex env) q) (m.ex env) q) (m.ex env) q
  | .aug i op e => fun env h K K' m q => gd_mono (fun x q => mX hc e _ _ _ _ _ _ (fun r h1 q => gd_mono (fun p q => rv_mono (fun d h2 => m.nx _ _) q) q) (m.ex env) q) q
  | .expr e => fun env h K K' m q => mX hc e _ _ _ _ _ _ (fun _ h1 => m.nx _ _) (m.ex env) q
  | .ifs c a b => fun env h K K' m q => tT_mono (mX hc c) (fun k h1 q => ite_mono (fun q => mB a _ _ _ _ m q) (fun q => mB b _ _ _ _ m q) q) (m.ex env) q
  | .whl c b => fun env h K K' m q => by
    obtain ⟨W, h0, hs⟩ := q
    exact ⟨W, h0, fun n env1 h1 w => tT_mono (mX hc c) (fun k h2 q => ite_mono (fun q => mB b _ _ _ _ (m.turn fun _ _ z => z) q) (fun q => m.nx _ _ q) q) (m.ex env1) (hs n env1 h1 w)⟩
  | .for_ t it b => fun env h K K' m q => mI hc it _ _ _ _ _ _ (fun s h1 q => wFor_mono (fun x e2 h2 k k' mk q => mTg t _ _ _ _ _ (fun e3 h3 q => mB b _ _ _ _ (m.turn mk) q) q) m.nx _ _ _ q) (m.ex env) q
  | .ret e => fun env h K K' m q => tE_mono (mX hc e) m.rt (m.ex env) q
  | .retn => fun env h K K' m q => m.rt _ _ q
  | .rais c => fun env h K K' m q => m.ex _ _ _ q
  | .tryx b c d => fun env h K K' m q => mB b env h ⟨K.nx, K.rt, K.bk, K.ct, fun env1 x h1 => gd (Sub x c) fun k => if k = true then K.rt d h1 else K.ex env1 x h1⟩ ⟨K'.nx, K'.rt, K'.bk, K'.ct, fun env1 x h1 => gd (Sub x c) fun k => if k = true then K'.rt d h1 else K'.ex env1 x h1⟩
    ⟨m.nx, m.rt, m.bk, m.ct, fun e1 x h1 q => gd_mono (fun k q => ite_mono (fun q => m.rt _ _ q) (fun q => m.ex _ _ _ q) q) q⟩ q
  | .pass => fun env h K K' m q => m.nx _ _ q
  | .brk => fun env h K K' m q => m.bk _ _ q
  | .cnt => fun env h K K' m q => m.ct _ _ q
theorem mB : ∀ s : Sts, MS (wB cal G Sub s)
  | .nil => fun env h K K' m q => m.nx _ _ q
  | .cons s r => fun env h K K' m q => mS s _ _ _ _ (m.then fun e h1 q => mB r _ _ _ _ m q) q
end
end
theorem someQ_mono {Q Q' : D → AH → Prop} (m : ∀ d h, Q d h → Q' d h) {d : D} {h : AH} (q : someQ Q d h) : someQ Q' d h := let ⟨h', s, q⟩ := q; ⟨h', s, m _ _ q⟩
theorem someX_mono {Q Q' : Xc} (m : ∀ d h, Q d h → Q' d h) {d : Str} {h : AH} (q : someX Q d h) : someX Q' d h := let ⟨h', s, q⟩ := q; ⟨h', s, m _ _ q⟩
theorem wC_mono (P : Prog) : ∀ n, Mono (wC P n)
  | 0 => fun _ _ _ _ _ _ _ _ _ q => q
  | n + 1 => fun f ds h Q Q' X X' m mx q => gd_mono (fun c q => ⟨q.1, mB (wC_mono P n) c.body (start c.nn ds) h (ksOf (someQ Q) (someX X)) (ksOf (someQ Q') (someX X')) ⟨fun _ h1 q => someQ_mono m q, fun _ h1 q => someQ_mono m q, fun _ _ z => z, fun _ _ z => z, fun _ c h1 q => someX_mono mx q⟩ q.2⟩) q
end Py
/-! What the abstract data and heap are of the layer's values and heap. -/
namespace Py
open L2 PySem.Spec PySem PyProof.Rows

/-- a list that stands locked -/
def SqF (K : PySem.W.Frag) (H : Hp) (a : Addr) (xs : List V) : Prop := (∃ o, H a = some (.frz o (.lst xs))) ∨
  ∃ (o : Obj) (its : Array Value) (n : Nat), K.lookup a = some o ∧ o.cls = .type "list" ∧
      o.dict = none ∧ o.data = .seq its n ∧ its.size ≤ sizeLine ∧ Vals xs its.toList
theorem SqF.seq {K : PySem.W.Frag} {H : Hp} {a : Addr} {xs : List V} (h : SqF K H a xs) : SqL K H a xs := h.elim (fun ⟨o, e⟩ => .inl (.inr ⟨o, e⟩)) .inr
/-- a tuple that carries no dict -/
def SqD (K : PySem.W.Frag) (H : Hp) (a : Addr) (xs : List V) : Prop := (∃ o, H a = some (.frz o (.tup xs)) ∧ o.dict = none) ∨
  ∃ (o : Obj) (its : Array Value) (n : Nat), K.lookup a = some o ∧ o.cls = .type "tuple" ∧ o.dict = none ∧ o.data = .seq its n ∧ its.size ≤ sizeLine ∧ Vals xs its.toList
theorem SqD.sq {K : PySem.W.Frag} {H : Hp} {a : Addr} {xs : List V} (h : SqD K H a xs) : SqT K H a xs :=
  h.elim (fun ⟨o, e, _⟩ => .inl (.inr ⟨o, e⟩)) fun ⟨o, its, n, k, c, _, d, z, r⟩ => .inr ⟨o, its, n, k, c, d, z, r⟩
mutual
inductive Rep (K : PySem.W.Frag) (M : Str → Option Value) (H : Hp) : V → D → Prop
  | non : Rep K M H .non .non
  | bl (b : Bool) : Rep K M H (.bl b) (.bl b)
  | int (i : Int) : Rep K M H (.int i) (.int i)
  | str (x : Str) : Rep K M H (.str x) (.str x)
  | tup {a : Addr} {vs : List V} {ds : List D} : SqD K H a vs → Reps K M H vs ds → Rep K M H (.ref a) (.tup ds)
  | loc (a : Addr) : Rep K M H (.ref a) (.loc a)
  | fn {a : Addr} {x : Str} : M x = some (.ref a) → Rep K M H (.ref a) (.fn x)
  | fl {a : Addr} {vs : List V} {ds : List D} : SqF K H a vs → Reps K M H vs ds → Rep K M H (.ref a) (.fl ds)
inductive Reps (K : PySem.W.Frag) (M : Str → Option Value) (H : Hp) : List V → List D → Prop
  | nil : Reps K M H [] []
  | cons {v : V} {vs : List V} {d : D} {ds : List D} : Rep K M H v d → Reps K M H vs ds → Reps K M H (v :: vs) (d :: ds)
end
/-- what is never changed stays -/
structure Mn (K : PySem.W.Frag) (H H' : Hp) : Prop where
  t : ∀ a xs, SqD K H a xs → SqD K H' a xs
  f : ∀ a xs, SqF K H a xs → SqF K H' a xs
section
variable {K : PySem.W.Frag} {M : Str → Option Value} {H H' : Hp}
mutual
theorem Rep.mono (m : Mn K H H') : ∀ {v : V} {d : D}, Rep K M H v d → Rep K M H' v d
  | _, _, .non => .non
  | _, _, .bl b => .bl b
  | _, _, .int i => .int i
  | _, _, .str x => .str x
  | _, _, .tup s r => .tup (m.t _ _ s) (Reps.mono m r)
  | _, _, .loc a => .loc a
  | _, _, .fn e => .fn e
  | _, _, .fl s r => .fl (m.f _ _ s) (Reps.mono m r)
theorem Reps.mono (m : Mn K H H') : ∀ {vs : List V} {ds : List D}, Reps K M H vs ds → Reps K M H' vs ds
  | _, _, .nil => .nil
  | _, _, .cons r t => .cons (Rep.mono m r) (Reps.mono m t)
end
theorem Reps.length : ∀ {vs : List V} {ds : List D}, Reps K M H vs ds → vs.length = ds.length
  | _, _, .nil => rfl
  | _, _, .cons _ t => by rw [List.length_cons, List.length_cons, Reps.length t]
theorem Reps.append : ∀ {vs ws : List V} {ds es : List D}, Reps K M H vs ds → Reps K M H ws es → Reps K M H (vs ++ ws) (ds ++ es)
  | _, _, _, _, .nil, r => r
  | _, _, _, _, .cons a t, r => .cons a (Reps.append t r)
theorem Reps.get : ∀ {vs : List V} {ds : List D} {i : Nat} {d : D}, Reps K M H vs ds → ds[i]? = some d → ∃ v, vs[i]? = some v ∧ Rep K M H v d
  | _, _, _, _, .nil, e =>
      by simp at e
  | _, _, 0, _, .cons a t, e => by
    simp at e
    subst e
    exact ⟨_, rfl, a⟩
  | _, _, i + 1, _, .cons a t, e => by
    obtain ⟨v, h1, h2⟩ := Reps.get (i := i) t (by simpa using e)
    exact ⟨v, by simpa using h1, h2⟩
theorem Reps.getV : ∀ {vs : List V} {ds : List D} {i : Nat} {v : V}, Reps K M H vs ds → vs[i]? = some v → ∃ d, ds[i]? = some d ∧ Rep K M H v d
  | _, _, _, _, .nil, e =>
      by simp at e
  | _, _, 0, _, .cons a t, e => by
    simp at e
    subst e
    exact ⟨_, rfl, a⟩
  | _, _, i + 1, _, .cons a t, e => by
    obtain ⟨v, h1, h2⟩ := Reps.getV (i := i) t (by simpa using e)
    exact ⟨v, by simpa using h1, h2⟩
theorem Reps.set : ∀ {vs : List V} {ds : List D} {v : V} {d : D} (i : Nat), Reps K M H vs ds → Rep K M H v d → Reps K M H (vs.set i v) (ds.set i d)
  | _, _, _, _, _, .nil, _ => .nil
  | _, _, _, _, 0, .cons a t, r => .cons r t
  | _, _, _, _, i + 1, .cons a t, r => .cons a (Reps.set i t r)
theorem Reps.take : ∀ {vs : List V} {ds : List D} (n : Nat), Reps K M H vs ds → Reps K M H (vs.take n) (ds.take n)
  | _, _, 0, _ => .nil
  | _, _, _ + 1, .nil => .nil
  | _, _, n + 1, .cons a t => .cons a (Reps.take n t)
theorem Reps.drop : ∀ {vs : List V} {ds : List D} (n : Nat), Reps K M H vs ds → Reps K M H (vs.drop n) (ds.drop n)
  | _, _, 0, r => r
  | _, _, _ + 1, .nil => .nil
  | _, _, n + 1, .cons a t => Reps.drop n t
theorem Reps.eraseIdx : ∀ {vs : List V} {ds : List D} (n : Nat), Reps K M H vs ds → Reps K M H (vs.eraseIdx n) (ds.eraseIdx n)
  | _, _, _, .nil => .nil
  | _, _, 0, .cons a t => t
  | _, _, n + 1, .cons a t => .cons a (Reps.eraseIdx n t)
theorem Reps.reverse : ∀ {vs : List V} {ds : List D}, Reps K M H vs ds → Reps K M H vs.reverse ds.reverse
  | _, _, .nil => .nil
  | _, _, .cons a t => by
    rw [List.reverse_cons,
        List.reverse_cons]
    exact (Reps.reverse t).append (.cons a .nil)
theorem Reps.rep {vs : List V} {ds : List D} (r : Reps K M H vs ds) : ∀ k : Nat, Reps K M H (List.replicate k vs).flatten (List.replicate k ds).flatten
  | 0 => .nil
  | k + 1 => by
    rw [List.replicate_succ, List.replicate_succ,
        List.flatten_cons, List.flatten_cons]
    exact r.append (Reps.rep r k)
theorem Reps.dropLast {vs : List V} {ds : List D} (r : Reps K M H vs ds) : Reps K M H vs.dropLast ds.dropLast := by
  rw [List.dropLast_eq_take, List.dropLast_eq_take, r.length]
  exact r.take _
theorem Reps.ofInts : ∀ ns : List Int, Reps K M H (ns.map V.int) (ns.map D.int)
  | [] => .nil
  | i :: r => .cons (.int i) (Reps.ofInts r)
theorem Reps.ints : ∀ {vs : List V} {ds : List D} {ns : List Int}, Reps K M H vs ds → intsL ds = some ns → vs = ns.map V.int ∧ ds = ns.map D.int
  | _, _, ns, .nil, e => by
    cases (Option.some.inj (show some [] = some ns from e))
    exact ⟨rfl, rfl⟩
  | _, _, ns, .cons (d := d) a t, e => by
    cases d with
    | int i =>
      rename_i vv vs ds
      have e' : (intsL ds).map (i :: ·) = some ns := e
      cases q : intsL ds with
      | none => rw [q] at e'; cases e'
      | some ms =>
        rw [q] at e'
        cases (Option.some.inj (show some (i :: ms) = some ns from e'))
        obtain ⟨e1, e2⟩ := Reps.ints t q
        cases a
        exact ⟨by rw [e1]; rfl, by rw [e2]; rfl⟩
    | _ => cases e
theorem Reps.bls : ∀ {vs : List V} {ds : List D} {ns : List Bool}, Reps K M H vs ds → blsL ds = some ns → vs = ns.map V.bl ∧ ds = ns.map D.bl
  | _, _, ns, .nil, e => by
    cases (Option.some.inj (show some [] = some ns from e))
    exact ⟨rfl, rfl⟩
  | _, _, ns, .cons (d := d) a t, e => by
    cases d with
    | bl i =>
      rename_i vv vs ds
      have e' : (blsL ds).map (i :: ·) = some ns := e
      cases q : blsL ds with
      | none => rw [q] at e'; cases e'
      | some ms =>
        rw [q] at e'
        cases (Option.some.inj (show some (i :: ms) = some ns from e'))
        obtain ⟨e1, e2⟩ := Reps.bls t q
        cases a
        exact ⟨by rw [e1]; rfl, by rw [e2]; rfl⟩
    | _ => cases e
end
/-- a dict of the abstract heap: see DctRel -/
def RD (K : PySem.W.Frag) (M : Str → Option Value) (H : Hp) (a : Addr) (kvs : List (D × D)) : Prop := ∃ φ, H a = some (.ext φ) ∧ False
/-- what stands at an address of the abstract heap -/
def RO (K : PySem.W.Frag) (M : Str → Option Value) (H : Hp) (a : Addr) : AO → Prop
  | .lst ds => ∃ vs, H a = some (.lst vs) ∧ Reps K M H vs ds
  | .dct kvs => RD K M H a kvs
def RelH (K : PySem.W.Frag) (M : Str → Option Value) (h : AH) (H : Hp) : Prop := ∀ a o, h a = some o → RO K M H a o
/-- from one pair of heaps to the next -/
structure Tr (h : AH) (H : Hp) (h' : AH) (H' : Hp) : Prop where
  keep : ∀ a o, H a = some o → h a = none → H' a = some o ∧ h' a = none
  grow : ∀ a, H a ≠ none → H' a ≠ none
/-- what an expression comes to: H0 the heap ahead of it -/
def RepR (K : PySem.W.Frag) (M : Str → Option Value) (H0 : Hp) (h : AH) (H : Hp) (v : V) : Rv → Prop
  | .v d => Rep K M H v d
  | .o x => ∃ p, v = .ref p ∧ H0 p = none ∧ h p = none ∧ RO K M H p x
section
variable {K : PySem.W.Frag} {M : Str → Option Value} {h h' h'' : AH} {H H' H'' H0 : Hp}
theorem Tr.refl : Tr h H h H := ⟨fun a o e n => ⟨e, n⟩, fun _ z => z⟩
theorem Tr.trans (x : Tr h H h' H') (y : Tr h' H' h'' H'') : Tr h H h'' H'' := ⟨fun a o e n => let ⟨e1, n1⟩ := x.keep a o e n; y.keep a o e1 n1, fun a z => y.grow a (x.grow a z)⟩
theorem RO.there {a : Addr} {o : AO} (r : RO K M H a o) : ∃ u, H a = some u := by
  cases o with
  | lst ds => obtain ⟨vs, e, _⟩ := r; exact ⟨_, e⟩
  | dct kvs => obtain ⟨φ, e, _⟩ := r; exact ⟨_, e⟩
theorem RelH.free (r : RelH K M h H) {a : Addr} (e : H a = none) : h a = none := by
  cases q : h a with
  | none => rfl
  | some o =>
    obtain ⟨u, z⟩ := (r a o q).there
    rw [e] at z
    cases z
theorem RelH.nfrz (r : RelH K M h H) {a : Addr} {o : Obj} {u : HO} (e : H a = some (.frz o u)) : h a = none := by
  cases q : h a with
  | none => rfl
  | some o =>
    have z := r a o q
    cases o with
    | lst ds =>
      obtain ⟨vs, e2, _⟩ := z
      rw [e] at e2; cases e2
    | dct kvs =>
      obtain ⟨φ, e2, _⟩ := z
      rw [e] at e2; cases e2
theorem Tr.mn (x : Tr h H h' H') (r : RelH K M h H) : Mn K H H' := by
  refine ⟨fun a xs s => ?_, fun a xs s => ?_⟩
  · rcases s with ⟨o, e, d⟩ | e
    · exact .inl ⟨o, (x.keep _ _ e (r.nfrz e)).1, d⟩
    · exact .inr e
  · rcases s with ⟨o, e⟩ | e
    · exact .inl ⟨o, (x.keep _ _ e (r.nfrz e)).1⟩
    · exact .inr e
theorem RO.mono {a : Addr} {o : AO} (m : Mn K H H') (e : H' a = H a) (r : RO K M H a o) : RO K M H' a o := by
  cases o with
  | lst ds => obtain ⟨vs, e1, r1⟩ := r; exact ⟨vs, e.trans e1, r1.mono m⟩
  | dct kvs => obtain ⟨φ, e1, r1⟩ := r; exact ⟨φ, e.trans e1, r1⟩
theorem RepR.mono {v : V} {r : Rv} (x : Tr h H h' H') (rel : RelH K M h H) (q : RepR K M H0 h H v r) : RepR K M H0 h' H' v r := by
  cases r with
  | v d => exact Rep.mono (x.mn rel) q
  | o u =>
    obtain ⟨p, e, n0, n, ro⟩ := q
    obtain ⟨w, hw⟩ := ro.there
    obtain ⟨h1, h2⟩ := x.keep p w hw n
    exact ⟨p, e, n0, h2, ro.mono (x.mn rel) (h1.trans hw.symm)⟩
theorem RepR.back {v : V} {r : Rv} (z : ∀ a, H0 a ≠ none → H'' a ≠ none) (q : RepR K M H'' h H v r) : RepR K M H0 h H v r := by
  cases r with
  | v d => exact q
  | o u =>
    obtain ⟨p, e, n0, n, ro⟩ := q
    refine ⟨p, e, ?_, n, ro⟩
    cases w : H0 p with
    | none => rfl
    | some y => exact absurd n0 (z p (by rw [w]; simp))
/-- a new tracked object that the abstract heap does not know -/
theorem Tr.new {p : Addr} {u : HO} (rel : RelH K M h H) (n : H p = none) : Tr h H h (upd H p u) := by
  refine ⟨fun a o e z => ⟨?_, z⟩, fun a z => ?_⟩
  · rw [upd_ne (ne_of_none e n)]; exact e
  · unfold upd
    split
    · simp
    · exact z
theorem RelH.new {p : Addr} {u : HO} (rel : RelH K M h H) (n : H p = none) : RelH K M h (upd H p u) := fun a o e => by
  have hp : a ≠ p := fun z => by
    rw [z, rel.free n] at e
    cases e
  exact (rel a o e).mono ((Tr.new rel n).mn rel) (upd_ne hp)
/-- .. and that it then knows -/
theorem RelH.take {p : Addr} {o : AO} (rel : RelH K M h H) (ro : RO K M H p o) : RelH K M (put h p o) H := fun a u e => by
  unfold put at e
  split at e
  · rename_i q
    cases e
    rw [q]; exact ro
  · exact rel a u e
theorem Tr.take {p : Addr} {o : AO} {H0 : Hp} {h0 : AH} (x : Tr h0 H0 h H) (n : H0 p = none) : Tr h0 H0 (put h p o) H := by
  refine ⟨fun a u e z => ?_, x.grow⟩
  obtain ⟨e1, e2⟩ := x.keep a u e z
  refine ⟨e1, ?_⟩
  rw [put_ne (ne_of_none e n)]
  exact e2
/-- an object is written -/
theorem Tr.write {p : Addr} {o o' : AO} {u : HO} (rel : RelH K M h H) (e : h p = some o) : Tr h H (put h p o') (upd H p u) := by
  refine ⟨fun a v q z => ?_, fun a z => ?_⟩
  · have hp : a ≠ p := fun w => by rw [w, e] at z; cases z
    exact ⟨by rw [upd_ne hp]; exact q, by rw [put_ne hp]; exact z⟩
  · unfold upd
    split
    · simp
    · exact z
theorem RelH.write {p : Addr} {o o' : AO} {u : HO} (rel : RelH K M h H) (e : h p = some o) (ro : Mn K H (upd H p u) → RO K M (upd H p u) p o') : RelH K M (put h p o') (upd H p u) := fun a v q => by
  have m := (Tr.write (o' := o') (u := u) rel e).mn rel
  unfold put at q
  split at q
  · rename_i w
    cases q
    rw [w]; exact ro m
  · rename_i w
    exact (rel a v q).mono m (upd_ne w)
end
end Py
/-! Tuples that are just made, tracked with their object: they carry no dict. -/
namespace Py
open L2 PySem.Spec PySem PyProof.Rows
section
variable {X : Cx} {pins : List (Addr × Obj)} {σ : L2.St} {H : Hp} {s : Shared} {Q : VK}
/-- what is wanted of a new tuple -/
def NewT (Q : VK) (H : Hp) (xs : List V) : Prop := ∀ p o, H p = none → o.dict = none → Q (.ref p) (upd H p (.frz o (.tup xs)))
theorem newT_at {h' : Heap} {xs : List V} {its : List Value} {tk : Nat} (I : L2.Inv X pins σ H { s with heap := h', toks := tk }) (r : Vals xs its) (hz : xs.length ≤ sizeLine) (q : NewT Q H xs) :
    EP X pins σ Q (.ref h'.objs.size) { s with heap := h'.push { cls := .type "tuple", data := .seq its.toArray }, toks := tk } := by
  have nn : H h'.objs.size = none := I.hok.fresh (Nat.le_refl _)
  refine ⟨.ref h'.objs.size, _, I.laid (a := h'.objs.size) (o := .frz { cls := .type "tuple", data := .seq its.toArray } (.tup xs)) (t' := tk) (fun b w z => Heap.get?_push_of_some _ z) (Nat.le_refl _) ?_, rfl, q _ _ nn rfl⟩
  exact ⟨Heap.get?_push_size _ rfl, hz, its, r, IsTup.new _ _⟩
theorem newT_ok {xs : List V} {its : List Value} (I : L2.Inv X pins σ H s) (r : Vals xs its) (hz : xs.length ≤ sizeLine) (q : NewT Q H xs) :
    EP X pins σ Q (.ref s.heap.objs.size) { s with heap := s.heap.push { cls := .type "tuple", data := .seq its.toArray } } := newT_at (s := s) (h' := s.heap) (tk := s.toks) I r hz q
end
section
variable {X : Cx}
/-- (a, b, ..) -/
def tTupX (t : TA) : L2.TE := fun σ H Q => t σ H fun xs H1 => xs.length ≤ sizeLine ∧ NewT Q H1 xs
theorem pe_tupX {es : List Expr} {k : Nat} {pos : Pos} {t : TA} (g : PA X es t) : PE X (.Tuple es k pos) (tTupX t) := ⟨fun pins s σ H Q I hq =>
  wpAny_Tuple_spliced (thn (g.run pos pins s σ H _ I hq) fun us s1 ⟨xs, H1, I1, r, z, q⟩ => ⟨by rw [← r.length]; exact z, newT_ok I1 r z q⟩)⟩
/-- t + u -/
def rCatX (K : PySem.W.Frag) : R2 := fun x y H Q => ∃ a b xs ys, x = .ref a ∧ y = .ref b ∧ SqT K H a xs ∧ SqT K H b ys ∧ xs.length + ys.length ≤ sizeLine ∧
  (xs = [] → Q (.ref b) H) ∧ (xs ≠ [] → ys = [] → Q (.ref a) H) ∧ NewT Q H (xs ++ ys)
theorem op_catX : OpR X (binaryOp .Add) (rCatX X.K) := by
  intro pins s σ H x y v u Q I rx ry hh
  obtain ⟨a, b, xs, ys, rfl, rfl, ha, hb, hz, q0, q1, q2⟩ := hh
  cases rx; cases ry
  obtain ⟨its, r1, p1, _⟩ :=
      I.tuple ha
  obtain ⟨its2, r2, p2, _⟩ :=
      I.tuple hb
  by_cases hx : xs = []
  · subst hx
    cases r1
    exact cat_tup0 p1 p2 ⟨.ref b,
        H, I, rfl, q0 rfl⟩
  · refine HT.cat_tup p1 p2 (fun z => hx (r1.nil_iff.mp z)) (fun z => ⟨.ref a, H, I, rfl, q1 hx (r2.nil_iff.mp z)⟩) (fun _ => newT_ok I (r1.append r2) (by rw [List.length_append]; exact hz) q2) ?_
    rw [← r1.length, ← r2.length]; exact hz
/-- t[lo:hi] -/
def rSlX (K : PySem.W.Frag) : V → Option Int → Option Int → Hp → VK → Prop := fun x lo hi H Q => ∃ a xs, x = .ref a ∧ SqT K H a xs ∧
  (HT.sIx xs.length 0 lo = 0 ∧ HT.sIx xs.length xs.length hi = xs.length → Q (.ref a) H) ∧ NewT Q H (cutV xs lo hi)
theorem sl_tupX : SlR X (rSlX X.K) := by
  intro pins s σ H x v vl vu lo hi sl Q I rx hs pl pu hh
  obtain ⟨a, xs, rfl, hx, q1, q2⟩ := hh
  cases rx
  obtain ⟨its, r, ht, hz⟩ :=
      I.tuple hx
  have hlen : its.toArray.size = xs.length := by rw [List.size_toArray, r.length]
  refine ⟨"tuple", _, slot_tuple_getitem.lookup, ht.typeIs, ?_⟩
  by_cases hw : HT.sIx xs.length 0 lo = 0 ∧
      HT.sIx xs.length xs.length hi = xs.length
  · exact getItem_tuple_whole ht hs pl pu (by rw [hlen]; exact hw) ⟨.ref a, H, I, rfl, q1 hw⟩
  · refine HT.getItem_tuple_cut ht hs pl pu (by rw [hlen]; exact hw) ?_ (by rw [hlen]; exact hz)
    rw [hlen]
    exact newT_ok I ((r.drop _).take _) (Nat.le_trans (cutV_length xs lo hi) hz) q2
/-- tuple(x) -/
theorem call_tupX : CallR X (.type "tuple") (fun xs H Q => ∃ p ys, xs = [.ref p] ∧ ((SqL X.K H p ys ∧ NewT Q H ys) ∨ (SqT X.K H p ys ∧ Q (.ref p) H))) := by
  intro pins s σ H xs us Q I r hh
  obtain ⟨p, ys, rfl, hh⟩ := hh
  obtain ⟨u, rfl, rx⟩ :=
      vals1 r
  cases rx
  rcases hh with ⟨hq, q⟩ | ⟨hq, q⟩
  · obtain ⟨its, r', pl, hz⟩ :=
        I.list hq
    have hlen := r'.length
    exact call_tuple_list pl.isList (fun h' kp => newT_at (s := s) (tk := s.toks) (I.kept (t' := s.toks) kp) r' hz q) (by simp only [List.size_toArray]; omega)
  · obtain ⟨its, r', pl, hz⟩ :=
        I.tuple hq
    exact call_tuple_same pl ⟨.ref p,
        H, I, rfl, q⟩
/-- tuple(range(a, b)) -/
def tTupRgX (te : L2.St → Hp → (Int → Int → Hp → Prop) → Prop) : L2.TE := fun σ H Q => te σ H fun a b H1 => RgOk a b ∧ NewT Q H1 (rgV a b)
theorem pe_tupRgX {e : Expr} {te : L2.St → Hp → (Int → Int → Hp → Prop) → Prop} {p pos : Pos} (hc : X.calm = true) (hg : Gl X "tuple") (hm : X.mg "tuple" = none) (he : PRg X e te) (na : starEach [e] X.env = (false, eval e X.env) :: starEach [] X.env) :
    PE X (.Call (.Name "tuple" p) [e] [] pos) (tTupRgX te) := by
  refine ⟨fun pins s σ H Q I hh => ?_⟩
  refine Call_ (ld_blt I hg hm boot_tuple (callWith_type1 (args_cons (thn (he pins s σ H _ I hh) fun x s1 ⟨r, a, b, t, u, v, H1, ex, hr, I1, ok, q⟩ => args_nil ?_) na) na))
  subst ex
  obtain ⟨b1, b2, b3, b4, b5⟩ :=
      ok
  refine call_tuple_range (n :=
      (b - a).toNat) (I1.ok.hd hc) hr (small_one b1 b2 b3 b4) (rangeSize_nat a b) b5 fun h' tk acc hk hi => ?_
  have w := newT_at (s := s1) (h' := h') (tk := tk) (its := acc.toList) (I1.kept (t' := tk) hk) (vals_rg hi) (by rw [rgV_length, sizeLine_eq]; omega) q
  rw [Array.toArray_toList] at w
  exact w
/-! ### t * k -/
theorem tmul_same (l : Addr) (items : Array Value) (n : Nat) (dd : Option Addr) (sl : Array (Option Value)) (x : Int) (u : Tok) (c0 : (decide (x < -(2 ^ 63)) || decide (x ≥ 2 ^ 63)) = false) (c1 : (items.isEmpty || x == 1) = true) :
    Meets (Builtin.«tuple.__mul__» ⟨[.ref l, .int x u], []⟩) (fun _ R s => s.heap.get? l = some { cls := .type "tuple", dict := dd, data := .seq items n, slots := sl } ∧ R (.ok (.ret (Value.ref l))) s) :=
  .of_wp fun prog
      w A R s h => by
    obtain ⟨hp, g, d, tk, os⟩ :=
        s
    obtain ⟨hl, h⟩ := h
    have f1 := AutoSeq1.idx_int
    wp_walk using
        wpAny_loadPart' hl
    repeat (first
      | (refine wpAny_ite_false (decide_eq_false (by rw [c0]; decide)) ?_; wp_walk using wpAny_loadPart' hl)
      | (refine wpAny_ite_true (decide_eq_true (by rw [c1])) ?_; wp_walk using wpAny_loadPart' hl))
    exact ⟨_, rfl, h⟩
theorem tmul_none (l : Addr) (items : Array Value) (n : Nat) (dd : Option Addr) (sl : Array (Option Value)) (x : Int) (u : Tok) (c0 : (decide (x < -(2 ^ 63)) || decide (x ≥ 2 ^ 63)) = false) (c1 : (items.isEmpty || x == 1) = false) (c2 : (decide (x ≤ 0) || items.isEmpty) = true) :
    Meets (Builtin.«tuple.__mul__» ⟨[.ref l, .int x u], []⟩) (fun _ R s =>
        s.heap.get? l = some { cls := .type "tuple", dict := dd, data := .seq items n, slots := sl } ∧
      R (.ok (.ret (Value.ref s.heap.objs.size))) { s with heap := s.heap.push { cls := Value.type "tuple", data := Data.seq #[] }, toks := s.toks }) :=
  .of_wp fun prog
      w A R s h => by
    obtain ⟨hp, g, d, tk, os⟩ :=
        s
    obtain ⟨hl, h⟩ := h
    have f1 := AutoSeq1.idx_int
    wp_walk using
        wpAny_loadPart' hl
    repeat (first
      | (refine wpAny_ite_false (decide_eq_false (by rw [c0]; decide)) ?_; wp_walk using wpAny_loadPart' hl)
      | (refine wpAny_ite_false (decide_eq_false (by rw [c1]; decide)) ?_; wp_walk using wpAny_loadPart' hl)
      | (refine wpAny_ite_true (decide_eq_true (by rw [c2])) ?_; wp_walk using wpAny_loadPart' hl)
      | (refine wpAny_ite_false (decide_eq_false (by simp only [List.size_toArray, List.length_nil]; omega)) ?_; wp_walk using wpAny_loadPart' hl))
    exact ⟨_, rfl, h⟩
def rRepX (K : PySem.W.Frag) : R2 := fun x y H Q => ∃ l k xs, x = .ref l ∧ y = .int k ∧ SqT K H l xs ∧ -(2 ^ 63) ≤ k ∧ k < 2 ^ 63 ∧ xs.length * k.toNat ≤ sizeLine ∧
  ((xs = [] ∨ k = 1) → Q (.ref l) H) ∧ NewT Q H (List.replicate k.toNat xs).flatten
theorem op_repX : OpR X (binaryOp .Mult) (rRepX X.K) := by
  intro pins s σ H x y v u Q I rx ry hh
  obtain ⟨l, k, xs, rfl, rfl, hT, h1, h2, hz, q1, q2⟩ := hh
  cases rx
  obtain ⟨t, rfl⟩ := ry
  obtain ⟨its, r, ⟨⟨cls, dd, data, sl⟩, ho, hc, n, hd⟩, hs⟩ :=
      I.tuple hT
  simp only at hc hd
  subst hc hd
  have hle : its.length = xs.length :=
      r.length.symm
  have c0 : (decide (k < -(2 ^ 63)) || decide (k ≥ 2 ^ 63)) = false := by simp only [Bool.or_eq_false_iff, decide_eq_false_iff_not]; omega
  have flen : (List.replicate k.toNat xs).flatten.length ≤ sizeLine := by
    rw [lm_len_rep_flat, Nat.mul_comm]; exact hz
  have he : (its.toArray.isEmpty = true) ↔ xs = [] := by
    cases r with
    | nil => simp
    | cons a b => simp
  by_cases c1 : (its.toArray.isEmpty || k == 1) = true
  · refine wpAny_binaryOp_repeat_ref (T := "tuple") (U := "int") (by decide) ⟨_, ho, rfl⟩ (fun s' => typeIs_int s' k t) noFill_tuple_mul F.fills_int_mul F.slot_int_rmul repeat_tuple F.slot_int_index.lookup
      (call_meets F.slot_int_rmul (typeIs_int s k t) F.entry_int_rmul
          (F.args_int_rmul_2 _ _) (int_rmul_tuple k t l its.toArray n dd sl)
        ⟨ho, rfl, ⟨_, ho, rfl⟩, call_meets F.slot_tuple_mul ⟨_, ho, rfl⟩ F.entry_tuple_mul (F.args_tuple_mul_2 _ _) (tmul_same l its.toArray n dd sl k t c0 c1) ⟨ho, ⟨.ref l, H, I, rfl, q1 ?_⟩⟩⟩)
    rw [Bool.or_eq_true, he, beq_iff_eq] at c1
    exact c1
  · have c1' : (its.toArray.isEmpty || k == 1) = false := by simpa using c1
    rw [Bool.or_eq_false_iff] at c1'
    by_cases c2 : k ≤ 0
    · have e0 : (List.replicate k.toNat xs).flatten = [] := by
        rw [show k.toNat = 0 by omega]; rfl
      refine wpAny_binaryOp_repeat_ref (T := "tuple") (U :=
          "int") (by decide) ⟨_, ho, rfl⟩ (fun s' => typeIs_int s' k t) noFill_tuple_mul F.fills_int_mul F.slot_int_rmul repeat_tuple F.slot_int_index.lookup
        (call_meets F.slot_int_rmul (typeIs_int s k t) F.entry_int_rmul
            (F.args_int_rmul_2 _ _) (int_rmul_tuple k t l its.toArray n dd sl)
          ⟨ho, rfl, ⟨_, ho, rfl⟩, call_meets F.slot_tuple_mul ⟨_, ho, rfl⟩ F.entry_tuple_mul (F.args_tuple_mul_2 _ _) (tmul_none l its.toArray n dd sl k t c0 (by rw [Bool.or_eq_false_iff]; exact c1') (by rw [decide_eq_true c2]; rfl)) ⟨ho, ?_⟩⟩)
      rw [e0] at q2
      exact newT_ok (its := []) I .nil (Nat.zero_le _) q2
    · have hsz0 : its.toArray.size = xs.length := by rw [List.size_toArray, hle]
      have hm : ((its.toArray.size : Nat) : Int) * k ≤ 16777216 := by
        rw [hsz0]
        have e1 : ((xs.length * k.toNat : Nat) : Int) = (xs.length : Int) * k := by rw [Int.natCast_mul, Int.toNat_of_nonneg (by omega)]
        rw [← e1]
        have := sizeLine_eq
        omega
      refine wpAny_binaryOp_repeat_ref (T := "tuple") (U :=
          "int") (by decide) ⟨_, ho, rfl⟩ (fun s' => typeIs_int s' k t) noFill_tuple_mul F.fills_int_mul F.slot_int_rmul repeat_tuple F.slot_int_index.lookup
        (call_meets F.slot_int_rmul (typeIs_int s k t) F.entry_int_rmul
            (F.args_int_rmul_2 _ _) (int_rmul_tuple k t l its.toArray n dd sl)
          ⟨ho, rfl, ⟨_, ho, rfl⟩, call_meets F.slot_tuple_mul ⟨_, ho, rfl⟩ F.entry_tuple_mul (F.args_tuple_mul_2 _ _)
            (tuple_mulW l its.toArray n dd sl k t c0 (by rw [Bool.or_eq_false_iff]; exact c1') (by rw [decide_eq_false c2, c1'.1]; rfl) (by omega)
              (by unfold Builtin.Tuple.tupleTooMany; rw [sizeLine_eq]; exact decide_eq_false (by omega)) (by rw [size_rep, List.size_toArray, lm_len_rep_flat, hle, Nat.mul_comm]; exact hz)) ⟨ho, ?_⟩⟩)
      rw [size_rep]
      exact newT_ok I (r.rep k.toNat) flen q2
end
end Py
namespace Py
open L2 PySem.Spec PySem PyProof.Rows
/-- what an operand is -/
def Opd (K : PySem.W.Frag) (M : Str → Option Value) (h : AH) (H : Hp) (v : V) : Rv → Prop
  | .v d => Rep K M H v d
  | .o x => ∃ p, v = .ref p ∧ h p = none ∧ RO K M H p x
/-- what follows a result, the abstract heap as it was -/
def Aft (K : PySem.W.Frag) (M : Str → Option Value) (h : AH) (H : Hp) (h' : AH) (Q : VK) (r : Rv) : Prop :=
  ∀ v H', Tr h H h' H' → RelH K M h' H' → RepR K M H h' H' v r → Q v H'
section
variable {K : PySem.W.Frag} {M : Str → Option Value} {h h' : AH} {H H' H0 : Hp} {Q : VK}
theorem RepR.opd {v : V} {r : Rv} (q : RepR K M H0 h H v r) : Opd K M h H v r := by
  cases r with
  | v d => exact q
  | o x => obtain ⟨p, e, _, n, ro⟩ := q; exact ⟨p, e, n, ro⟩
theorem Opd.mono {v : V} {r : Rv} (x : Tr h H h' H') (rel : RelH K M h H) (q : Opd K M h H v r) : Opd K M h' H' v r := by
  cases r with
  | v d => exact Rep.mono (x.mn rel) q
  | o u =>
    obtain ⟨p, e, n, ro⟩ := q
    obtain ⟨w, hw⟩ := ro.there
    obtain ⟨h1, h2⟩ := x.keep p w hw n
    exact ⟨p, e, h2, ro.mono (x.mn rel) (h1.trans hw.symm)⟩
theorem Aft.v {d : D} {v : V} (a : Aft K M h H h Q (.v d)) (rel : RelH K M h H) (r : Rep K M H v d) : Q v H := a v H .refl rel r
theorem Aft.newL {ds : List D} {vs : List V} {p : Addr} (a : Aft K M h H h Q (.o (.lst ds))) (rel : RelH K M h H) (n : H p = none) (r : Reps K M H vs ds) : Q (.ref p) (upd H p (.lst vs)) :=
  a _ _ (Tr.new rel n) (rel.new n) ⟨p, rfl, n, rel.free n, vs, upd_same, r.mono ((Tr.new rel n).mn rel)⟩
theorem Aft.newT {ds : List D} {vs : List V} (a : Aft K M h H h Q (.v (.tup ds))) (rel : RelH K M h H) (r : Reps K M H vs ds) : NewT Q H vs := fun p o n d =>
  a _ _ (Tr.new rel n) (rel.new n) (.tup (.inl ⟨o, upd_same, d⟩) (r.mono ((Tr.new rel n).mn rel)))
theorem opd_lt {v : V} {r : Rv} {xs : List D} (o : Opd K M h H v r) (rel : RelH K M h H) (e : ltV r h = some xs) : ∃ a vs, v = .ref a ∧ H a = some (.lst vs) ∧ Reps K M H vs xs := by
  unfold ltV at e
  split at e
  · rename_i ys q
    cases e
    unfold ob at q
    split at q
    · rename_i a
      cases o
      obtain ⟨vs, e1, r1⟩ := rel _ _ q
      exact ⟨_, vs, rfl, e1, r1⟩
    · cases q
      obtain ⟨p, e0, _, vs, e1, r1⟩ := o
      exact ⟨p, vs, e0, e1, r1⟩
    · cases q
  · cases e
theorem opd_ls {v : V} {r : Rv} {xs : List D} (o : Opd K M h H v r) (rel : RelH K M h H) (e : lsV r h = some xs) : ∃ a vs, v = .ref a ∧ SqL K H a vs ∧ Reps K M H vs xs := by
  unfold lsV at e
  split at e
  · cases e
    cases o with
    | fl s r => exact ⟨_, _, rfl, s.seq, r⟩
  · obtain ⟨a, vs, e1, e2, e3⟩ := opd_lt o rel (show ltV r h = some xs from e)
    exact ⟨a, vs, e1, .inl (.inl e2), e3⟩
theorem opd_sq {v : V} {r : Rv} {xs : List D} (o : Opd K M h H v r) (rel : RelH K M h H) (e : sqV r h = some xs) : ∃ a vs, v = .ref a ∧ (SqL K H a vs ∨ SqD K H a vs) ∧ Reps K M H vs xs := by
  unfold sqV at e
  split at e
  · cases e
    cases o with
    | tup s r => exact ⟨_, _, rfl, .inr s, r⟩
  · obtain ⟨a, vs, e1, e2, e3⟩ := opd_ls o rel e
    exact ⟨a, vs, e1, .inl e2, e3⟩
end
/-! ### operators -/
def opOf : Bop → Operator
  | .add => .Add | .sub => .Sub | .mul => .Mult | .fdiv => .FloorDiv | .mod => .Mod | .pow => .Pow | .shl => .LShift | .shr => .RShift | .band => .BitAnd | .bxor => .BitXor | .bor => .BitOr
def rBin (K : PySem.W.Frag) (M : Str → Option Value) (f : Rv → Rv → AH → Option Rv) : R2 := fun x y H Q => ∃ h xr yr r, RelH K M h H ∧ Opd K M h H x xr ∧ Opd K M h H y yr ∧ f xr yr h = some r ∧ Aft K M h H h Q r
section
variable {X : Cx}
theorem add_ok : OpR X (binaryOp .Add) (rBin X.K X.mg addD) := by
  intro pins s σ H x y v u Q I rx ry hh
  obtain ⟨h, xr, yr, r, rel, ox, oy, e, a⟩ := hh
  unfold addD at e
  split at e
  · cases e; cases ox; cases oy
    exact op_add pins s σ H _ _ v u Q I rx ry ⟨_, _, rfl, rfl, a.v rel (.int _)⟩
  · split at e
    · cases e; cases ox; cases oy
      exact op_add_str pins s σ H _ _ v u Q I rx ry ⟨_, _, rfl, rfl, by assumption, a.v rel (.str _)⟩
    · cases e
  · split at e
    · cases e
      rename_i xs ys hz
      cases ox with
      | tup s1 r1 =>
        cases oy with
        | tup s2 r2 =>
          refine op_catX pins s σ H _ _ v u Q I rx ry ⟨_, _, _, _, rfl, rfl, s1.sq, s2.sq, by rw [r1.length, r2.length]; exact hz, ?_⟩
          refine ⟨fun z => a.v rel ?_, fun _ z => a.v rel ?_, a.newT rel (r1.append r2)⟩
          · subst z
            cases r1
            exact .tup s2 r2
          · subst z
            cases r2
            rw [List.append_nil]
            exact .tup s1 r1
    · cases e
  · cases e; cases ox; cases oy
    exact op_add_ib pins s σ H _ _ v u Q I rx ry ⟨_, _, rfl, rfl, a.v rel (.int _)⟩
  · split at e
    · cases e
    · rename_i xs ex
      split at e
      · cases e
      · rename_i ys ey
        split at e
        · cases e
          rename_i hz
          obtain ⟨p, vs, rfl, h1, r1⟩ := opd_lt ox rel ex
          obtain ⟨q, ws, rfl, h2, r2⟩ := opd_lt oy rel ey
          exact op_cat pins s σ H _ _ v u Q I rx ry ⟨_, _, _, _, rfl, rfl, h1, h2, by rw [r1.length, r2.length]; exact hz, fun p hp => a.newL rel hp (r1.append r2)⟩
        · cases e
theorem mul_ok : OpR X (binaryOp .Mult) (rBin X.K X.mg mulD) := by
  intro pins s σ H x y v u Q I rx ry hh
  obtain ⟨h, xr, yr, r, rel, ox, oy, e, a⟩ := hh
  unfold mulD at e
  split at e
  · rename_i k
    cases oy
    split at e
    · rename_i i
      cases ox
      split at e
      · rename_i hz
        cases e
        rw [Bool.or_eq_true] at hz
        rcases hz with hz | hz
        · refine op_mul pins s σ H _ _ v u Q I rx ry ⟨_, _, rfl, rfl, ?_, a.v rel (.int _)⟩
          unfold mulOk at hz
          simp only [Bool.or_eq_true, Bool.and_eq_true, decide_eq_true_eq] at hz
          exact hz
        · refine op_mulW pins s σ H _ _ v u Q I rx ry ⟨_, _, rfl, rfl, ?_, a.v rel (.int _)⟩
          unfold wideOk at hz
          simp only [Bool.and_eq_true, decide_eq_true_eq] at hz
          exact wide_mul hz.1 hz.2 (by omega) (by omega) (by omega)
      · cases e
    · split at e
      · rename_i xs hz
        cases e
        cases ox with
        | tup s1 r1 =>
          refine op_repX pins s σ H _ _ v u Q I rx ry ⟨_, _, _, rfl, rfl, s1.sq, hz.1, hz.2.1, by rw [r1.length]; exact hz.2.2, fun z => a.v rel (.tup s1 ?_), a.newT rel (r1.rep _)⟩
          unfold rept
          rcases z with z | z
          · subst z
            cases r1
            rw [show (List.replicate k.toNat ([] : List D)).flatten = [] by simp]
            exact .nil
          · subst z
            rw [show (List.replicate (1 : Int).toNat xs).flatten = xs by simp]
            exact r1
      · cases e
    · split at e
      · rename_i xs ex
        split at e
        · rename_i hz
          cases e
          obtain ⟨p, vs, rfl, h1, r1⟩ := opd_lt ox rel ex
          exact op_rep pins s σ H _ _ v u Q I rx ry ⟨_, _, _, rfl, rfl, h1, hz.1, hz.2.1, by rw [r1.length]; exact hz.2.2, fun p hp => a.newL rel hp (r1.rep _)⟩
        · cases e
      · cases e
  · cases e
theorem int_ok {op : Bop} (h1 : op ≠ .add) (h2 : op ≠ .mul) : OpR X (binaryOp (opOf op)) (rBin X.K X.mg (binD op)) := by
  intro pins s σ H x y v u Q I rx ry hh
  obtain ⟨h, xr, yr, r, rel, ox, oy, e, a⟩ := hh
  have e' : ∃ i j k, xr = .v (.int i) ∧ yr = .v (.int j) ∧ intOp op i j = some k ∧ r = .v (.int k) := by
    unfold binD at e
    split at e
    · exact absurd rfl h1
    · exact absurd rfl h2
    · split at e
      · split at e
        · split at e
          · rename_i q
            cases e
            exact ⟨_, _, _, rfl, rfl, q, rfl⟩
          · cases e
        · cases e
      · cases e
  obtain ⟨i, j, k, rfl, rfl, ek, rfl⟩ := e'
  cases ox; cases oy
  have q := a.v rel (.int k)
  cases op with
  | add => exact absurd rfl h1
  | mul => exact absurd rfl h2
  | sub =>
    cases ek
    exact op_sub pins s σ H _ _ v u Q I rx ry ⟨_,
        _, rfl, rfl, q⟩
  | fdiv =>
    dsimp only [intOp] at ek
    split at ek
    · cases ek
      exact op_fdiv pins s σ H _ _ v u Q I rx ry ⟨_, _, rfl, rfl, by assumption, q⟩
    · cases ek
  | mod =>
    dsimp only [intOp] at ek
    split at ek
    · cases ek
      exact op_mod pins s σ H _ _ v u Q I rx ry ⟨_, _, rfl, rfl, by assumption, q⟩
    · cases ek
  | pow =>
    dsimp only [intOp] at ek
    split at ek
    · cases ek
      exact op_pow pins s σ H _ _ v u Q I rx ry ⟨_, _, rfl, rfl, by assumption, q⟩
    · cases ek
  | shl =>
    dsimp only [intOp] at ek
    split at ek
    · cases ek
      exact op_shl pins s σ H _ _ v u Q I rx ry ⟨_, _, rfl, rfl, by assumption, q⟩
    · cases ek
  | shr =>
    dsimp only [intOp] at ek
    split at ek
    · cases ek
      exact op_shr pins s σ H _ _ v u Q I rx ry ⟨_, _, rfl, rfl, by assumption, q⟩
    · cases ek
  | band =>
    cases ek
    exact op_and pins s σ H _ _ v u Q I rx ry ⟨_,
        _, rfl, rfl, q⟩
  | bxor =>
    cases ek
    exact op_xor pins s σ H _ _ v u Q I rx ry ⟨_,
        _, rfl, rfl, q⟩
  | bor =>
    cases ek
    exact op_or pins s σ H _ _ v u Q I rx ry ⟨_,
        _, rfl, rfl, q⟩
theorem bin_ok (op : Bop) : OpR X (binaryOp (opOf op)) (rBin X.K X.mg (binD op)) := by
  cases op with
  | add => exact add_ok
  | mul => exact mul_ok
  | _ => exact int_ok (fun z => nomatch z) (fun z => nomatch z)
/-- x op= y -/
def rAug (K : PySem.W.Frag) (M : Str → Option Value) (op : Bop) : R2 := fun x y H Q => ∃ h d yr r h', RelH K M h H ∧ Rep K M H x d ∧ Opd K M h H y yr ∧ augD op d yr h = some (r, h') ∧ Aft K M h H h' Q r
theorem aug_ok (op : Bop) : OpR X (inplaceOp (opOf op)) (rAug X.K X.mg op) := by
  intro pins s σ H x y v u Q I rx ry hh
  obtain ⟨h, d, yr, r, h', rel, ox, oy, e, a⟩ := hh
  unfold augD at e
  split at e
  · cases ox
    split at e
    · split at e
      · rename_i xs ex
        split at e
        · rename_i ys ey
          split at e
          · rename_i hz
            cases e
            obtain ⟨vs, h1, r1⟩ := rel _ _ ex
            obtain ⟨q, ws, rfl, h2, r2⟩ := opd_lt oy rel ey
            refine iop_ext pins s σ H _ _ v u Q I rx ry ⟨_, _, _, _, rfl, rfl, h1, h2, by rw [r1.length, r2.length]; exact hz, ?_⟩
            refine a _ _ (Tr.write rel ex) (RelH.write rel ex fun m => ⟨_, upd_same, (r1.append r2).mono m⟩) (.loc _)
          · cases e
        · cases e
      · cases e
    · cases e
  · cases ox
    split at e
    · cases oy
      split at e
      · cases e
        exact iop_add pins s σ H _ _ v u Q I rx ry ⟨_, _, rfl, rfl, a.v rel (.int _)⟩
      · cases e
        exact iop_sub pins s σ H _ _ v u Q I rx ry ⟨_, _, rfl, rfl, a.v rel (.int _)⟩
      · cases e
    · cases e
  · cases ox
    split at e
    · cases oy
      split at e
      · split at e
        · cases e
          exact iop_add_str pins s σ H _ _ v u Q I rx ry ⟨_, _, rfl, rfl, by assumption, a.v rel (.str _)⟩
        · cases e
      · cases e
    · cases e
  · cases e
end
end Py
namespace Py
open L2 PySem.Spec PySem PyProof.Rows
/-! ### data that are compared -/
mutual
def toP : D → PyData
  | .non => .none
  | .bl b => .bool b
  | .int i => .int i
  | .str s => .str s
  | .tup xs => .tuple (toPs xs)
  | .loc _ => .none
  | .fn _ => .none
  | .fl xs => .list (toPs xs)
def toPs : List D → List PyData
  | [] => []
  | x :: r => toP x :: toPs r
end
theorem toPs_length : ∀ xs : List D, (toPs xs).length = xs.length
  | [] => rfl
  | x :: r => by rw [toPs, List.length_cons, List.length_cons, toPs_length r]
mutual
theorem eqv_P : ∀ (n m : Nat) (d e : D), pu n d = true → pu m e = true → PyData.eqv (toP d) (toP e) = eqv d e
  | n + 1, m + 1, .tup xs, .tup ys, h1, h2 => by
    rw [pu, List.all_eq_true] at h1 h2
    rw [toP, toP, PyData.eqv, eqv]
    exact eqvs_P n m xs ys h1 h2
  | n, m, .non, e, _, _ => by cases e <;> (cases m <;> first | rfl | simp_all [pu, toP, PyData.eqv, eqv])
  | n, m, .bl b, e, _, _ => by cases e <;> (cases m <;> first | rfl | simp_all [pu, toP, PyData.eqv, eqv])
  | n, m, .int i, e, _, _ => by cases e <;> (cases m <;> first | rfl | simp_all [pu, toP, PyData.eqv, eqv])
  | n, m, .str s, e, _, _ => by cases e <;> (cases m <;> first | rfl | simp_all [pu, toP, PyData.eqv, eqv])
  | n + 1, 0, .tup xs, e, h1, h2 => by cases e <;> first | rfl | (simp_all [pu, toP, PyData.eqv, eqv]; done)
  | n + 1, m + 1, .tup xs, .non, h1, h2 => rfl
  | n + 1, m + 1, .tup xs, .bl _, h1, h2 => rfl
  | n + 1, m + 1, .tup xs, .int _, h1, h2 => rfl
  | n + 1, m + 1, .tup xs, .str _, h1, h2 => rfl
theorem eqvs_P : ∀ (n m : Nat) (xs ys : List D), (∀ x ∈ xs, pu n x = true) → (∀ y ∈ ys, pu m y = true) → PyData.eqvAll (toPs xs) (toPs ys) = eqvs xs ys
  | n, m, [], [], _, _ => rfl
  | n, m, [], y :: ys, _, _ => rfl
  | n, m, x :: xs, [], _, _ => rfl
  | n, m, x :: xs, y :: ys, h1, h2 => by
    rw [toPs, toPs, PyData.eqvAll, eqvs, eqv_P n m x y (h1 _ List.mem_cons_self) (h2 _ List.mem_cons_self), eqvs_P n m xs ys (fun z hz => h1 z (List.mem_cons_of_mem _ hz)) fun z hz => h2 z (List.mem_cons_of_mem _ hz)]
end
section
variable {K : PySem.W.Frag} {M : Str → Option Value} {h : AH} {H : Hp}
mutual
theorem dp_of : ∀ (n : Nat) (d : D) (v : V), Rep K M H v d → pu n d = true → Dp K H v (toP d) ∧ (toP d).canLay0 = true ∧ (toP d).depth ≤ n
  | n, .non, v, r, _ => by cases r; exact ⟨.non, rfl, Nat.zero_le _⟩
  | n, .bl b, v, r, _ => by cases r; exact ⟨.bl b, rfl, Nat.zero_le _⟩
  | n, .int i, v, r, _ => by cases r; exact ⟨.int i, rfl, Nat.zero_le _⟩
  | n, .str s, v, r, q => by
    cases r
    refine ⟨.str s, ?_, Nat.zero_le _⟩
    rw [toP, PyData.canLay0]
    cases n <;> exact q
  | n + 1, .tup xs, v, r, q => by
    cases r with
    | tup s rs =>
      rw [pu, List.all_eq_true] at q
      obtain ⟨a, b, c⟩ := dps_of n xs _ rs q
      exact ⟨.tup s.sq a, b, Nat.succ_le_succ c⟩
  | 0, .tup xs, v, r, q => by simp [pu] at q
  | n, .loc a, v, r, q => by cases n <;> simp [pu] at q
  | n, .fn x, v, r, q => by cases n <;> simp [pu] at q
  | n, .fl xs, v, r, q => by cases n <;> simp [pu] at q
theorem dps_of : ∀ (n : Nat) (xs : List D) (vs : List V), Reps K M H vs xs → (∀ x ∈ xs, pu n x = true) → DpAll K H vs (toPs xs) ∧ PyData.canLayAll0 (toPs xs) = true ∧ PyData.depthAll (toPs xs) ≤ n
  | n, [], vs, r, _ => by cases r; exact ⟨.nil, rfl, Nat.zero_le _⟩
  | n, x :: xs, vs, r, q => by
    cases r with
    | cons r1 r2 =>
      obtain ⟨a, b, c⟩ := dp_of n x _ r1 (q _ List.mem_cons_self)
      obtain ⟨a', b', c'⟩ := dps_of n xs _ r2 fun z hz => q z (List.mem_cons_of_mem _ hz)
      refine ⟨.cons a a', ?_, ?_⟩
      · rw [toPs, PyData.canLayAll0, b, b']; rfl
      · rw [toPs, PyData.depthAll]; omega
end
theorem shaped_of {n : Nat} {d : PyData} (h1 : d.canLay0 = true) (h2 : d.depth ≤ n) (h3 : n ≤ 64) : SeqAt.shaped d = true := by
  unfold SeqAt.shaped
  rw [h1, Bool.true_and]
  exact decide_eq_true
      (by omega)
/-- a list's items as data -/
theorem dl_of {a : Addr} {vs : List V} {xs : List D} (s : SqL K H a vs) (r : Reps K M H vs xs) (q : xs.all (pu 40) = true) : Dp K H (.ref a) (.list (toPs xs)) ∧ SeqAt.shaped (.list (toPs xs)) = true := by
  rw [List.all_eq_true] at q
  obtain ⟨p, b, c⟩ := dps_of 40 xs vs r q
  exact ⟨.lst s p, shaped_of (n := 41) b (by rw [PyData.depth]; omega) (by omega)⟩
theorem dt_of {a : Addr} {vs : List V} {xs : List D} (s : SqD K H a vs) (r : Reps K M H vs xs) (q : xs.all (pu 40) = true) : Dp K H (.ref a) (.tuple (toPs xs)) ∧ SeqAt.shaped (.tuple (toPs xs)) = true := by
  rw [List.all_eq_true] at q
  obtain ⟨p, b, c⟩ := dps_of 40 xs vs r q
  exact ⟨.tup s.sq p, shaped_of (n := 41) b (by rw [PyData.depth]; omega) (by omega)⟩
theorem any_P {d : D} (q : pu 40 d = true) : ∀ {xs : List D}, xs.all (pu 40) = true → ((toPs xs).any fun z => PyData.eqv z (toP d)) = xs.any fun z => eqv z d
  | [], _ => rfl
  | x :: xs, h => by
    rw [List.all_cons, Bool.and_eq_true]
        at h
    rw [toPs, List.any_cons, List.any_cons, eqv_P 40 40 x d h.1 q, any_P q h.2]
end
theorem lt_two (a b c d : Int) : PySem.W.dataLt (.tuple [.int a, .int b]) (.tuple [.int c, .int d]) = decide (a < c ∨ (a = c ∧ b < d)) := by
  show PyProof.Rows.lexLt itemOrd [.inl 1, .inl a, .inl 1, .inl b, .inl 0] [.inl 1, .inl c, .inl 1, .inl d, .inl 0] = _
  have e : ∀ x y : Int, itemLt (.inl x) (.inl y) = decide (x < y) := fun x y => rfl
  simp only [PyProof.Rows.lexLt, e]
  rcases Int.lt_trichotomy a c with h | h | h
  · simp [h]
  · subst h
    rcases Int.lt_trichotomy b d with h | h | h
    · simp [h]
    · simp [h]
    · have : ¬ b < d := by omega
      simp [this]
  · have h1 : ¬ a < c := by omega
    have h2 : ¬ a = c := by omega
    simp [h, h1, h2]
theorem two_rep {K : W.Frag} {M : Str → Option Value} {h : AH} {H : Hp} {x : V} {a b : Int} (ox : Opd K M h H x (.v (.tup [.int a, .int b]))) : Dp K H x (.tuple [.int a, .int b]) := by
  cases ox with
  | tup s r =>
    obtain ⟨d1, p1⟩ := dt_of s r (by rfl)
    exact d1
/-! ### == -/
def rCmp (K : PySem.W.Frag) (M : Str → Option Value) (f : Rv → Rv → AH → Option Bool) : R2 := fun x y H Q => ∃ h xr yr k, RelH K M h H ∧ Opd K M h H x xr ∧ Opd K M h H y yr ∧ f xr yr h = some k ∧ Q (.bl k) H
section
variable {X : Cx}
theorem eq_data (hu : X.A.units + 64 < cLine) {h : AH} {H : Hp} {x y : V} {xr yr : Rv} {k : Bool} (rel : RelH X.K X.mg h H) (ox : Opd X.K X.mg h H x xr) (oy : Opd X.K X.mg h H y yr) (e : eqD xr yr h = some k) :
    (∃ s t, x = .str s ∧ y = .str t ∧ k = decide (s = t)) ∨ ∃ d e, Dp X.K H x d ∧ Dp X.K H y e ∧ SeqAt.shaped d = true ∧ SeqAt.shaped e = true ∧ PyData.eqv d e = k := by
  unfold eqD at e
  split at e
  · cases e; cases ox; cases oy
    exact .inr ⟨_, _, .int _, .int _, rfl, rfl, rfl⟩
  · cases e; cases ox; cases oy
    exact .inl ⟨_, _, rfl, rfl, rfl⟩
  · split at e
    · rename_i xs ys q
      cases e
      rw [Bool.and_eq_true] at q
      cases ox with
      | tup s1 r1 =>
        cases oy with
        | tup s2 r2 =>
          obtain ⟨d1, p1⟩ := dt_of s1 r1 q.1
          obtain ⟨d2, p2⟩ := dt_of s2 r2 q.2
          refine .inr ⟨_, _, d1, d2, p1, p2, ?_⟩
          rw [PyData.eqv]
          exact eqvs_P 40 40 _ _ (List.all_eq_true.mp q.1) (List.all_eq_true.mp q.2)
    · cases e
  · split at e
    · rename_i xs ys ex ey
      split at e
      · rename_i q
        cases e
        rw [Bool.and_eq_true] at q
        obtain ⟨p, vs, rfl, s1, r1⟩ := opd_ls ox rel ex
        obtain ⟨p', ws, rfl, s2, r2⟩ := opd_ls oy rel ey
        obtain ⟨d1, p1⟩ := dl_of s1 r1 q.1
        obtain ⟨d2, p2⟩ := dl_of s2 r2 q.2
        refine .inr ⟨_, _, d1, d2, p1, p2, ?_⟩
        rw [PyData.eqv]
        exact eqvs_P 40 40 _ _ (List.all_eq_true.mp q.1) (List.all_eq_true.mp q.2)
      · cases e
    · split at e
      · split at e
        · rename_i d e' q
          cases e
          rw [Bool.and_eq_true] at q
          obtain ⟨d1, p1, l1⟩ := dp_of 40 _ _ ox q.1
          obtain ⟨d2, p2, l2⟩ := dp_of 40 _ _ oy q.2
          exact .inr ⟨_, _, d1, d2, shaped_of p1 l1 (by omega), shaped_of p2 l2 (by omega), eqv_P 40 40 _ _ q.1 q.2⟩
        · cases e
      · cases e
    · cases e
theorem eq_ok (hu : X.A.units + 64 < cLine) : OpR X (compareOp .Eq) (rCmp X.K X.mg eqD) := by
  intro pins s σ H x y v u Q I rx ry hh
  obtain ⟨h, xr, yr, k, rel, ox, oy, e, q⟩ := hh
  rcases eq_data hu rel ox oy e with ⟨a, b, rfl, rfl, rfl⟩ | ⟨d, e, d1, d2, p1, p2, rfl⟩
  · refine op_eq pins s σ H _ _ v u Q I rx ry ⟨rfl, ?_⟩
    have e1 : decide (V.str a = V.str b) = decide (a = b) := by simp
    rw [e1]; exact q
  · exact op_eqD hu pins s σ H _ _ v u Q I rx ry ⟨_, _, d1, d2, p1, p2, q⟩
theorem ne_ok (hu : X.A.units + 64 < cLine) : OpR X (compareOp .NotEq) (rCmp X.K X.mg fun x y h => (eqD x y h).map (!·)) := by
  intro pins s σ H x y v u Q I rx ry hh
  obtain ⟨h, xr, yr, k, rel, ox, oy, e, q⟩ := hh
  obtain ⟨k', e2, rfl⟩ := Option.map_eq_some_iff.mp e
  rcases eq_data hu rel ox oy e2 with ⟨a, b, rfl, rfl, rfl⟩ | ⟨d, e, d1, d2, p1, p2, rfl⟩
  · refine op_ne pins s σ H _ _ v u Q I rx ry ⟨rfl, ?_⟩
    have e1 : decide (V.str a = V.str b) = decide (a = b) := by simp
    rw [e1]; exact q
  · exact op_neD hu pins s σ H _ _ v u Q I rx ry ⟨_, _, d1, d2, p1, p2, q⟩
/-! ### in -/
theorem opd_dc {h : AH} {H : Hp} {v : V} {r : Rv} {kvs : List (D × D)} (o : Opd X.K X.mg h H v r) (rel : RelH X.K X.mg h H) (e : dcV r h = some kvs) : ∃ a, v = .ref a ∧ RD X.K X.mg H a kvs := by
  unfold dcV at e
  split at e
  · rename_i ys q
    cases e
    unfold ob at q
    split at q
    · rename_i a
      cases o
      exact ⟨_, rfl, rel _ _ q⟩
    · cases q
      obtain ⟨p, e0, _, r1⟩ := o
      exact ⟨p, e0, r1⟩
    · cases q
  · cases e
theorem in_data (hu : X.A.units + 65 < cLine) {pins : List (Addr × Obj)} {s : Shared} {σ : L2.St} {h : AH} {H : Hp} {x y : V} {v u : Value} {xr yr : Rv} {k : Bool} {Q : Value → Shared → Prop} {b : Bool} (I : L2.Inv X pins σ H s) (rx : RelV x v) (ry : RelV y u)
    (rel : RelH X.K X.mg h H) (ox : Opd X.K X.mg h H x xr) (oy : Opd X.K X.mg h H y yr) (e : inD xr yr h = some k) (q : Q (.bool (if b then !k else k)) s) :
    wpAny (model X.prog X.w) X.A (compareOp (if b then .NotIn else .In) v u) Q X.xe s := by
  unfold inD at e
  split at e
  · rename_i d
    split at e
    · rename_i ys ey
      split at e
      · rename_i p
        cases e
        rw [Bool.and_eq_true] at p
        obtain ⟨a, ws, rfl, hS, r2⟩ := opd_sq oy rel ey
        obtain ⟨d1, p1, l1⟩ := dp_of 40 _ _ ox p.1
        obtain ⟨as, h1⟩ := Dp.reads I _ _ _ d1 rx
        have s1 := shaped_of p1 l1 (by omega)
        have pe := any_P p.1 p.2
        rcases hS with hS | hS
        · obtain ⟨d2, s2⟩ := dl_of hS r2 p.2
          obtain ⟨bs, h2⟩ := Dp.reads I _ _ _ d2 ry
          cases b with
          | true => exact SeqAt.notIn_list_reads h2 h1 (SeqAt.canLay_of_shaped s2) (SeqAt.canLay_of_shaped s1) (room_in_shaped s1 hu) (by rw [pe]; exact q)
          | false => exact SeqAt.in_list_reads h2 h1 (SeqAt.canLay_of_shaped s2) (SeqAt.canLay_of_shaped s1) (room_in_shaped s1 hu) (by rw [pe]; exact q)
        · obtain ⟨d2, s2⟩ := dt_of hS r2 p.2
          obtain ⟨bs, h2⟩ := Dp.reads I _ _ _ d2 ry
          cases b with
          | true => exact SeqAt.notIn_tuple_reads h2 h1 (SeqAt.canLay_of_shaped s2) (SeqAt.canLay_of_shaped s1) (room_in_shaped s1 hu) (by rw [pe]; exact q)
          | false => exact SeqAt.in_tuple_reads h2 h1 (SeqAt.canLay_of_shaped s2) (SeqAt.canLay_of_shaped s1) (room_in_shaped s1 hu) (by rw [pe]; exact q)
      · cases e
    · split at e
      · rename_i kvs ek
        obtain ⟨a, _, φ, _, z⟩ := opd_dc oy rel ek
        exact z.elim
      · cases e
  · cases e
theorem in_ok (hu : X.A.units + 65 < cLine) : OpR X (compareOp .In) (rCmp X.K X.mg inD) := by
  intro pins s σ H x y v u Q I rx ry hh
  obtain ⟨h, xr, yr, k, rel, ox, oy, e, q⟩ := hh
  exact in_data (b := false) hu I rx ry rel ox oy e ⟨.bl k, H, I, rfl, q⟩
theorem nin_ok (hu : X.A.units + 65 < cLine) : OpR X (compareOp .NotIn) (rCmp X.K X.mg fun x y h => (inD x y h).map (!·)) := by
  intro pins s σ H x y v u Q I rx ry hh
  obtain ⟨h, xr, yr, k, rel, ox, oy, e, q⟩ := hh
  obtain ⟨k', e2, rfl⟩ := Option.map_eq_some_iff.mp e
  exact in_data (b := true) hu I rx ry rel ox oy e2 ⟨.bl (!k'), H, I, rfl, q⟩
theorem lt2_ok (hu : X.A.units + 64 < cLine) {pins : List (Addr × Obj)} {s : Shared} {σ : L2.St} {h : AH} {H : Hp} {x y : V} {v u : Value} {a b c d : Int} {Q : V → Hp → Prop} (I : L2.Inv X pins σ H s) (rx : RelV x v) (ry : RelV y u)
    (ox : Opd X.K X.mg h H x (.v (.tup [.int a, .int b]))) (oy : Opd X.K X.mg h H y (.v (.tup [.int c, .int d]))) (q : Q (.bl (decide (a < c ∨ (a = c ∧ b < d)))) H) : ∀ {prog w E}, wpAny (model prog w) X.A (compareOp .Lt v u) (fun r s' => ∃ z H', L2.Inv X pins σ H' s' ∧ RelV z r ∧ Q z H') E s := by
  intro prog w E
  obtain ⟨as, r1⟩ := Dp.reads I _ x v (two_rep ox) rx
  obtain ⟨bs, r2⟩ := Dp.reads I _ y u (two_rep oy) ry
  refine PySem.W.lt_data r1 r2 rfl (by simp) ?_ ?_
  · have e1 : (PyData.tuple [.int a, .int b]).depth ≤ 40 := by simp [PyData.depth, PyData.depthAll]
    omega
  · rw [lt_two]
    exact ⟨.bl _, H, I, rfl, q⟩
def copOf : Cop → CmpOp
  | .eq => .Eq | .ne => .NotEq | .lt => .Lt | .le => .LtE | .gt => .Gt | .ge => .GtE | .inn => .In | .nin => .NotIn
theorem cmp_ok (hu : X.A.units + 65 < cLine) (op : Cop) : OpR X (compareOp (copOf op)) (rCmp X.K X.mg (cmpD op)) := by
  cases op with
  | eq => exact eq_ok (by omega)
  | ne => exact ne_ok (by omega)
  | inn => exact in_ok hu
  | nin => exact nin_ok hu
  | lt =>
    intro pins s σ H x y v u Q I rx ry hh
    obtain ⟨h, xr, yr, k, rel, ox, oy, e, q⟩ := hh
    dsimp only [cmpD] at e
    split at e
    · cases e; cases ox; cases oy
      exact op_lt pins s σ H _ _ v u Q I rx ry ⟨_, _, rfl, rfl, q⟩
    · cases e
      exact lt2_ok (by omega) I rx ry ox oy q
    · cases e
  | le =>
    intro pins s σ H x y v u Q I rx ry hh
    obtain ⟨h, xr, yr, k, rel, ox, oy, e, q⟩ := hh
    dsimp only [cmpD] at e
    split at e
    · cases e; cases ox; cases oy
      exact op_le pins s σ H _ _ v u Q I rx ry ⟨_, _, rfl, rfl, q⟩
    · cases e
  | gt =>
    intro pins s σ H x y v u Q I rx ry hh
    obtain ⟨h, xr, yr, k, rel, ox, oy, e, q⟩ := hh
    dsimp only [cmpD] at e
    split at e
    · cases e; cases ox; cases oy
      exact op_gt pins s σ H _ _ v u Q I rx ry ⟨_, _, rfl, rfl, q⟩
    · cases e
  | ge =>
    intro pins s σ H x y v u Q I rx ry hh
    obtain ⟨h, xr, yr, k, rel, ox, oy, e, q⟩ := hh
    dsimp only [cmpD] at e
    split at e
    · cases e; cases ox; cases oy
      exact op_ge pins s σ H _ _ v u Q I rx ry ⟨_, _, rfl, rfl, q⟩
    · cases e
/-! ### truth -/
theorem tru_V {h : AH} {H : Hp} {v : V} {r : Rv} {k : Bool} (rel : RelH X.K X.mg h H) (o : Opd X.K X.mg h H v r) (e : tru r h = some k) : TruV X.K v H k := by
  have len : ∀ {vs : List V} {ds : List D}, Reps X.K X.mg H vs ds → (!ds.isEmpty) = !vs.isEmpty := fun {vs ds} r => by cases r <;> rfl
  unfold tru at e
  split at e
  · cases e; cases o; rfl
  · cases e; cases o; rfl
  · cases e; cases o; rfl
  · split at e
    · cases e; cases o
      rename_i s hz
      refine ⟨hz, ?_⟩
      rw [Bool.eq_iff_iff]
      simp
    · cases e
  · cases e
    cases o with
    | tup s r => exact .inr (.inl ⟨_, s.sq, len r⟩)
  · split at e
    · rename_i xs q
      cases e
      obtain ⟨a, vs, rfl, h1, r1⟩ := opd_lt (xs := xs) o rel (by unfold ltV; rw [q])
      exact .inl ⟨vs, .inl (.inl h1), len r1⟩
    · rename_i kvs q
      obtain ⟨a, _, φ, _, z⟩ := opd_dc (kvs := kvs) o rel (by unfold dcV; rw [q])
      exact z.elim
    · cases e
end
end Py
namespace Py
open L2 PySem.Spec PySem PyProof.Rows
section
variable {X : Cx}
/-! ### is None, is True -/
def rIs (K : PySem.W.Frag) (M : Str → Option Value) (c : D) (neg : Bool) : R2 := fun x y H Q => ∃ h xr k, RelH K M h H ∧ Opd K M h H x xr ∧ Rep K M H y c ∧ isD xr c = some k ∧ Q (.bl (k != neg)) H
theorem is_ok (c : D) (neg : Bool) : OpR X (compareOp (if neg then .IsNot else .Is)) (rIs X.K X.mg c neg) := by
  intro pins s σ H x y v u Q I rx ry hh
  obtain ⟨h, xr, k, rel, ox, oy, e, q⟩ := hh
  unfold isD at e
  split at e
  · cases oy
    have ek : decide (x = V.non) = k := by
      split at e
      · cases e; cases ox; rfl
      · cases e
        rename_i hne
        refine decide_eq_false fun z => ?_
        subst z
        cases xr with
        | v d => cases ox; exact hne rfl
        | o w => obtain ⟨p, e1, _⟩ := ox; cases e1
    cases neg with
    | true => exact op_notN pins s σ H _ _ v u Q I rx ry ⟨rfl, by rw [ek]; cases k <;> exact q⟩
    | false => exact op_isN pins s σ H _ _ v u Q I rx ry ⟨rfl, by rw [ek]; cases k <;> exact q⟩
  · cases oy
    rename_i b
    split at e
    · cases e; cases ox
      rename_i a
      have ea : decide (a = b) = (a == b) := by cases a <;> cases b <;> rfl
      cases neg with
      | true => exact op_notBl pins s σ H _ _ v u Q I rx ry ⟨_, _, rfl, rfl, by rw [ea]; revert q; cases (a == b) <;> exact id⟩
      | false => exact op_isBl pins s σ H _ _ v u Q I rx ry ⟨_, _, rfl, rfl, by rw [ea]; revert q; cases (a == b) <;> exact id⟩
    · cases e
  · cases e
/-! ### items -/
def rIxD (K : PySem.W.Frag) (M : Str → Option Value) : R2 := fun x y H Q => ∃ h xr yr d, RelH K M h H ∧ Opd K M h H x xr ∧ Opd K M h H y yr ∧ ixD xr yr h = some d ∧ ∀ v, Rep K M H v d → Q v H
theorem ixN_eq : Py.ixN = L2.ixN := rfl
theorem atI_eq {α : Type} (xs : List α) (i : Int) : Py.atI xs i = L2.atI xs i := rfl
theorem at_rep {K : PySem.W.Frag} {M : Str → Option Value} {H : Hp} {vs : List V} {xs : List D} {i : Int} {d : D} (r : Reps K M H vs xs) (e : Py.atI xs i = some d) : ∃ v, L2.atI vs i = some v ∧ Rep K M H v d := by
  rw [atI_eq] at e
  unfold L2.atI at e ⊢
  rw [r.length]
  cases q : L2.ixN xs.length i with
  | none =>
      rw [q] at e; cases e
  | some j =>
    rw [q] at e
    obtain ⟨v, h1, h2⟩ := r.get (show xs[j]? = some d from e)
    exact ⟨v, h1, h2⟩
theorem ix_ok : IxR X (rIxD X.K X.mg) := by
  intro value slice pins s σ H x y v u Q I rx ry hh hs
  obtain ⟨h, xr, yr, d, rel, ox, oy, e, q⟩ := hh
  unfold ixD at e
  split at e
  · split at e
    · rename_i xs ex
      split at e
      · cases oy
        obtain ⟨a, vs, rfl, hS, r⟩ := opd_sq ox rel ex
        obtain ⟨w, h1, h2⟩ := at_rep r e
        rcases hS with hS | hS
        · exact ix_list value slice pins s σ H _ _ v u Q I rx ry ⟨_, _, _, _, rfl, rfl, hS, h1, q _ h2⟩ hs
        · exact ix_tup value slice pins s σ H _ _ v u Q I rx ry ⟨_, _, _, _, rfl, rfl, hS.sq, h1, q _ h2⟩ hs
      · cases e
    · split at e
      · rename_i kvs ek
        obtain ⟨a, _, φ, _, z⟩ := opd_dc ox rel ek
        exact z.elim
      · split at e
        · split at e
          · rename_i hz
            obtain ⟨c, hc, rfl⟩ := Option.map_eq_some_iff.mp e
            cases ox
            cases oy
            exact ix_str value slice pins s σ H _ _ v u Q I rx ry ⟨_, _, c, rfl, rfl, by rw [sizeLine_eq]; exact hz, by rw [← atI_eq]; exact hc, q _ (.str _)⟩ hs
          · cases e
        · cases e
  · cases e
/-! ### slices -/
def rSlD (K : PySem.W.Frag) (M : Str → Option Value) : V → Option Int → Option Int → Hp → VK → Prop := fun x lo hi H Q => ∃ h xr r, RelH K M h H ∧ Opd K M h H x xr ∧ slD xr lo hi h = some r ∧ Aft K M h H h Q r
theorem cut_rep {K : PySem.W.Frag} {M : Str → Option Value} {H : Hp} {vs : List V} {xs : List D} (lo hi : Option Int) (r : Reps K M H vs xs) : Reps K M H (cutV vs lo hi) (cut xs lo hi) := by
  unfold cutV cut
  rw [r.length]
  exact (r.drop _).take _
theorem sl_ok : SlR X (rSlD X.K X.mg) := by
  intro pins s σ H x v vl vu lo hi sl Q I rx hs pl pu hh
  obtain ⟨h, xr, r, rel, ox, e, a⟩ := hh
  unfold slD at e
  split at e
  · cases e
    cases ox with
    | tup s1 r1 =>
      refine sl_tupX pins s σ H _ v vl vu lo hi sl Q I rx hs pl pu ⟨_, _, rfl, s1.sq, fun z => a.v rel (.tup s1 ?_), a.newT rel (cut_rep lo hi r1)⟩
      have e0 := cut_rep lo hi r1
      unfold cutV at e0
      rw [z.1, z.2, Nat.sub_zero, List.drop_zero, List.take_length] at e0
      exact e0
  · split at e
    · rename_i xs ex
      cases e
      obtain ⟨p, vs, rfl, s1, r1⟩ := opd_ls ox rel ex
      exact sl_list pins s σ H _ v vl vu lo hi sl Q I rx hs pl pu ⟨_, _, rfl, s1, fun q hq => a.newL rel hq (cut_rep lo hi r1)⟩
    · cases e
/-! ### a[i] = v -/
def rSetD (K : PySem.W.Frag) (M : Str → Option Value) : V → V → V → Hp → (Hp → Prop) → Prop := fun o i v H Q => ∃ h d k e h', RelH K M h H ∧ Rep K M H o d ∧ Rep K M H i k ∧ Rep K M H v e ∧ setD d k e h = some h' ∧ ∀ H', Tr h H h' H' → RelH K M h' H' → Q H'
theorem set_ok : PSet X (rSetD X.K X.mg) := by
  intro pins s σ H o i x ov iv u Q I ro ri rx hh
  obtain ⟨h, d, k, e, h', rel, po, pi, px, q, a⟩ := hh
  unfold setD at q
  split at q
  · cases po
    split at q
    · rename_i xs ex
      split at q
      · cases pi
        obtain ⟨j, hj, rfl⟩ := Option.map_eq_some_iff.mp q
        obtain ⟨vs, h1, r1⟩ := rel _ _ ex
        refine set_list pins s σ H _ _ _ ov iv u Q I ro ri rx ⟨_, _, _, j, rfl, rfl, h1, by rw [r1.length]; exact hj, a _ (Tr.write rel ex) (RelH.write rel ex fun m => ⟨_, upd_same, (r1.set j px).mono m⟩)⟩
      · cases q
    · rename_i kvs ek
      obtain ⟨φ, _, z⟩ := rel _ _ ek
      exact z.elim
    · cases q
  · cases q
/-! ### built-ins of one argument -/
def bi1 (K : PySem.W.Frag) (M : Str → Option Value) (b : Bi) : List V → Hp → VK → Prop := fun xs H Q => ∃ x h xr r, xs = [x] ∧ RelH K M h H ∧ Opd K M h H x xr ∧ b1D b xr h = some r ∧ Aft K M h H h Q r
theorem maxI_mem : ∀ (r : List Int) (i m : Int), r.foldl (fun m x => if m < x then x else m) i = m → (m = i ∨ m ∈ r) ∧ i ≤ m ∧ ∀ x ∈ r, x ≤ m
  | [], i, m, e => by
    cases e
    exact ⟨.inl rfl, Int.le_refl _, fun _ z => nomatch z⟩
  | x :: r, i, m, e => by
    obtain ⟨a, b, c⟩ := maxI_mem r (if i < x then x else i) m e
    have hx : (if i < x then x else i) = i ∨ (if i < x then x else i) = x := by split <;> simp
    have h1 : i ≤ (if i < x then x else i) ∧ x ≤ (if i < x then x else i) := by split <;> omega
    refine ⟨?_, by omega, fun y hy => ?_⟩
    · rcases a with a | a
      · rcases hx with z | z
        · exact .inl (a.trans z)
        · exact .inr (List.mem_cons.mpr (.inl (a.trans z)))
      · exact .inr (List.mem_cons_of_mem _ a)
    · rcases List.mem_cons.mp hy with z | z
      · rw [z]; omega
      · exact c y z
theorem minI_mem : ∀ (r : List Int) (i m : Int), r.foldl (fun m x => if x < m then x else m) i = m → (m = i ∨ m ∈ r) ∧ m ≤ i ∧ ∀ x ∈ r, m ≤ x
  | [], i, m, e => by
    cases e
    exact ⟨.inl rfl, Int.le_refl _, fun _ z => nomatch z⟩
  | x :: r, i, m, e => by
    obtain ⟨a, b, c⟩ := minI_mem r (if x < i then x else i) m e
    have hx : (if x < i then x else i) = i ∨ (if x < i then x else i) = x := by split <;> simp
    have h1 : (if x < i then x else i) ≤ i ∧ (if x < i then x else i) ≤ x := by split <;> omega
    refine ⟨?_, by omega, fun y hy => ?_⟩
    · rcases a with a | a
      · rcases hx with z | z
        · exact .inl (a.trans z)
        · exact .inr (List.mem_cons.mpr (.inl (a.trans z)))
      · exact .inr (List.mem_cons_of_mem _ a)
    · rcases List.mem_cons.mp hy with z | z
      · rw [z]; omega
      · exact c y z
theorem maxI_of {ns : List Int} {m : Int} (e : maxI ns = some m) : m ∈ ns ∧ ∀ x ∈ ns, x ≤ m := by
  cases ns with
  | nil => cases e
  | cons i r =>
    obtain ⟨a, b, c⟩ := maxI_mem r i m (Option.some.inj e)
    refine ⟨List.mem_cons.mpr a, fun x hx => ?_⟩
    rcases List.mem_cons.mp hx with z | z
    · rw [z]; exact b
    · exact c x z
theorem minI_of {ns : List Int} {m : Int} (e : minI ns = some m) : m ∈ ns ∧ ∀ x ∈ ns, m ≤ x := by
  cases ns with
  | nil => cases e
  | cons i r =>
    obtain ⟨a, b, c⟩ := minI_mem r i m (Option.some.inj e)
    refine ⟨List.mem_cons.mpr a, fun x hx => ?_⟩
    rcases List.mem_cons.mp hx with z | z
    · rw [z]; exact b
    · exact c x z
theorem insI_perm (x : Int) : ∀ l : List Int, (insI x l).Perm (x :: l)
  | [] => .refl _
  | y :: r => by
    unfold insI
    split
    · exact .refl _
    · exact ((insI_perm x r).cons y).trans (.swap x y r)
theorem insI_sorted (x : Int) : ∀ l : List Int, l.Pairwise (· ≤ ·) → (insI x l).Pairwise (· ≤ ·)
  | [], _ => by simp [insI]
  | y :: r, h => by
    unfold insI
    rw [List.pairwise_cons] at h
    split
    · rename_i q
      refine List.pairwise_cons.mpr ⟨fun z hz => ?_, List.pairwise_cons.mpr h⟩
      rcases List.mem_cons.mp hz with e | e
      · rw [e]; exact q
      · have := h.1 z e; omega
    · rename_i q
      refine List.pairwise_cons.mpr ⟨fun z hz => ?_, insI_sorted x r h.2⟩
      rcases List.mem_cons.mp ((insI_perm x r).mem_iff.mp hz) with e | e
      · rw [e]; omega
      · exact h.1 z e
theorem sortI_perm : ∀ l : List Int, (sortI l).Perm l
  | [] => .refl _
  | x :: r =>
      (insI_perm x _).trans ((sortI_perm r).cons x)
theorem sortI_sorted : ∀ l : List Int, (sortI l).Pairwise (· ≤ ·)
  | [] => .nil
  | x :: r => insI_sorted x _ (sortI_sorted r)
theorem sorted_eq {l m : List Int} (p : l.Perm m) (h1 : l.Pairwise (· ≤ ·)) (h2 : m.Pairwise (· ≤ ·)) : l = m :=
  List.Perm.eq_of_pairwise (le := (· ≤ ·)) (fun a b _ _ x y => Int.le_antisymm x y) h1 h2 p
theorem len_ok : CallR X (.builtin "len") (bi1 X.K X.mg .len) := by
  intro pins s σ H xs us Q I rv hh
  obtain ⟨x, h, xr, r, rfl, rel, ox, e, a⟩ := hh
  dsimp only [b1D] at e
  split at e
  · rename_i ys ey
    cases e
    obtain ⟨p, vs, rfl, hS, r1⟩ := opd_sq ox rel ey
    exact call_len_seq pins s σ H _ us Q I rv ⟨_, _, rfl, hS.imp id SqD.sq, a.v rel (by rw [r1.length]; exact .int _)⟩
  · split at e
    · rename_i kvs ek
      obtain ⟨p, _, φ, _, z⟩ := opd_dc ox rel ek
      exact z.elim
    · split at e
      · split at e
        · cases e; cases ox
          exact call_len_str pins s σ H _ us Q I rv ⟨_, rfl, by assumption, a.v rel (.int _)⟩
        · cases e
      · cases e
theorem int_ok1 : CallR X (.type "int") (bi1 X.K X.mg .int) := by
  intro pins s σ H xs us Q I rv hh
  obtain ⟨x, h, xr, r, rfl, rel, ox, e, a⟩ := hh
  dsimp only [b1D] at e
  split at e
  · cases e; cases ox
    exact call_int1 pins s σ H _ us Q I rv (.inl ⟨_, rfl, a.v rel (.int _)⟩)
  · cases e; cases ox
    exact call_int1 pins s σ H _ us Q I rv (.inr ⟨_, rfl, a.v rel (.int _)⟩)
  · cases e
theorem bool_ok1 : CallR X (.type "bool") (bi1 X.K X.mg .bool) := by
  intro pins s σ H xs us Q I rv hh
  obtain ⟨x, h, xr, r, rfl, rel, ox, e, a⟩ := hh
  dsimp only [b1D] at e
  split at e
  · cases e; cases ox
    exact call_bool1 pins s σ H _ us Q I rv (.inl ⟨_, rfl, a.v rel (.bl _)⟩)
  · cases e; cases ox
    exact call_bool1 pins s σ H _ us Q I rv (.inr ⟨_, rfl, a.v rel (.bl _)⟩)
  · cases e
theorem str_ok1 : CallR X (.type "str") (bi1 X.K X.mg .str) := by
  intro pins s σ H xs us Q I rv hh
  obtain ⟨x, h, xr, r, rfl, rel, ox, e, a⟩ := hh
  dsimp only [b1D] at e
  split at e
  · split at e
    · cases e; cases ox
      exact call_str_int pins s σ H _ us Q I rv ⟨_, rfl, by assumption, a.v rel (.str _)⟩
    · cases e
  · cases e
theorem tup_ok1 : CallR X (.type "tuple") (bi1 X.K X.mg .tup) := by
  intro pins s σ H xs us Q I rv hh
  obtain ⟨x, h, xr, r, rfl, rel, ox, e, a⟩ := hh
  dsimp only [b1D] at e
  obtain ⟨ys, ey, rfl⟩ := Option.map_eq_some_iff.mp e
  obtain ⟨p, vs, rfl, hS, r1⟩ := opd_sq ox rel ey
  rcases hS with hS | hS
  · exact call_tupX pins s σ H _ us Q I rv ⟨_, _, rfl, .inl ⟨hS, a.newT rel r1⟩⟩
  · exact call_tupX pins s σ H _ us Q I rv ⟨_, _, rfl, .inr ⟨hS.sq, a.v rel (.tup hS r1)⟩⟩
theorem lst_ok1 : CallR X (.type "list") (bi1 X.K X.mg .lst) := by
  intro pins s σ H xs us Q I rv hh
  obtain ⟨x, h, xr, r, rfl, rel, ox, e, a⟩ := hh
  dsimp only [b1D] at e
  obtain ⟨ys, ey, rfl⟩ := Option.map_eq_some_iff.mp e
  obtain ⟨p, vs, rfl, hS, r1⟩ := opd_sq ox rel ey
  exact call_list_of pins s σ H _ us Q I rv ⟨_, _, rfl, hS.imp id SqD.sq, fun l hl => a.newL rel hl r1⟩
theorem abs_ok1 : CallR X (.builtin "abs") (bi1 X.K X.mg .abs) := by
  intro pins s σ H xs us Q I rv hh
  obtain ⟨x, h, xr, r, rfl, rel, ox, e, a⟩ := hh
  dsimp only [b1D] at e
  split at e
  · cases e; cases ox
    exact L2.call_abs pins s σ H _ us Q I rv ⟨_, rfl, a.v rel (.int _)⟩
  · cases e
theorem any_ok1 (hc : X.calm = true) : CallR X (.builtin "any") (bi1 X.K X.mg .any) := by
  intro pins s σ H xs us Q I rv hh
  obtain ⟨x, h, xr, r, rfl, rel, ox, e, a⟩ := hh
  dsimp only [b1D] at e
  split at e
  · rename_i ys ey
    obtain ⟨bs, eb, rfl⟩ := Option.map_eq_some_iff.mp e
    obtain ⟨p, vs, rfl, hS, r1⟩ := opd_ls ox rel ey
    obtain ⟨rfl, _⟩ := r1.bls eb
    exact cr_any hc pins s σ H _ us Q I rv ⟨_, _, rfl, hS, a.v rel (.bl _)⟩
  · cases e
theorem all_ok1 (hc : X.calm = true) : CallR X (.builtin "all") (bi1 X.K X.mg .all) := by
  intro pins s σ H xs us Q I rv hh
  obtain ⟨x, h, xr, r, rfl, rel, ox, e, a⟩ := hh
  dsimp only [b1D] at e
  split at e
  · rename_i ys ey
    obtain ⟨bs, eb, rfl⟩ := Option.map_eq_some_iff.mp e
    obtain ⟨p, vs, rfl, hS, r1⟩ := opd_ls ox rel ey
    obtain ⟨rfl, _⟩ := r1.bls eb
    exact cr_all hc pins s σ H _ us Q I rv ⟨_, _, rfl, hS, a.v rel (.bl _)⟩
  · cases e
theorem sum_ok1 (hc : X.calm = true) : CallR X (.builtin "sum") (bi1 X.K X.mg .sum) := by
  intro pins s σ H xs us Q I rv hh
  obtain ⟨x, h, xr, r, rfl, rel, ox, e, a⟩ := hh
  dsimp only [b1D] at e
  split at e
  · rename_i ys ey
    obtain ⟨bs, eb, rfl⟩ := Option.map_eq_some_iff.mp e
    obtain ⟨p, vs, rfl, hS, r1⟩ := opd_ls ox rel ey
    obtain ⟨rfl, _⟩ := r1.ints eb
    exact cr_sum hc pins s σ H _ us Q I rv ⟨_, _, rfl, hS, a.v rel (.int _)⟩
  · cases e
theorem max_ok1 (hc : X.calm = true) : CallR X (.builtin "max") (bi1 X.K X.mg .max) := by
  intro pins s σ H xs us Q I rv hh
  obtain ⟨x, h, xr, r, rfl, rel, ox, e, a⟩ := hh
  dsimp only [b1D] at e
  split at e
  · rename_i ys ey
    obtain ⟨m, eb, rfl⟩ := Option.map_eq_some_iff.mp e
    obtain ⟨ns, en, em⟩ := Option.bind_eq_some_iff.mp eb
    obtain ⟨p, vs, rfl, hS, r1⟩ := opd_ls ox rel ey
    obtain ⟨rfl, _⟩ := r1.ints en
    obtain ⟨h1, h2⟩ := maxI_of em
    refine cr_max hc pins s σ H _ us Q I rv ⟨_, _, rfl, hS, List.length_pos_of_mem h1, fun k hk hl => ?_⟩
    have : k = m := Int.le_antisymm (h2 k hk) (hl m h1)
    rw [this]
    exact a.v rel (.int _)
  · cases e
theorem min_ok1 (hc : X.calm = true) : CallR X (.builtin "min") (bi1 X.K X.mg .min) := by
  intro pins s σ H xs us Q I rv hh
  obtain ⟨x, h, xr, r, rfl, rel, ox, e, a⟩ := hh
  dsimp only [b1D] at e
  split at e
  · rename_i ys ey
    obtain ⟨m, eb, rfl⟩ := Option.map_eq_some_iff.mp e
    obtain ⟨ns, en, em⟩ := Option.bind_eq_some_iff.mp eb
    obtain ⟨p, vs, rfl, hS, r1⟩ := opd_ls ox rel ey
    obtain ⟨rfl, _⟩ := r1.ints en
    obtain ⟨h1, h2⟩ := minI_of em
    refine cr_min hc pins s σ H _ us Q I rv ⟨_, _, rfl, hS, List.length_pos_of_mem h1, fun k hk hl => ?_⟩
    have : k = m := Int.le_antisymm (hl m h1) (h2 k hk)
    rw [this]
    exact a.v rel (.int _)
  · cases e
theorem sorted_ok1 : CallR X (.builtin "sorted") (bi1 X.K X.mg .sorted) := by
  intro pins s σ H xs us Q I rv hh
  obtain ⟨x, h, xr, r, rfl, rel, ox, e, a⟩ := hh
  dsimp only [b1D] at e
  split at e
  · rename_i ys ey
    obtain ⟨ns, en, rfl⟩ := Option.map_eq_some_iff.mp e
    obtain ⟨p, vs, rfl, hS, r1⟩ := opd_ls ox rel ey
    obtain ⟨rfl, _⟩ := r1.ints en
    refine cr_sortedI pins s σ H _ us Q I rv ⟨_, _, rfl, hS, fun ns' p hp hs hq => ?_⟩
    have : ns' = sortI ns := sorted_eq (hp.trans (sortI_perm ns).symm) hs (sortI_sorted ns)
    rw [this]
    exact a.newL rel hq (Reps.ofInts _)
  · cases e
def tyOf : Ty → String
  | .int => "int" | .bool => "bool" | .str => "str" | .tup => "tuple"
theorem isa_ok (t : Ty) : CallR X (.builtin "isinstance") (fun xs H Q => ∃ x h xr k, xs = [x, .ty (tyOf t)] ∧ RelH X.K X.mg h H ∧ Opd X.K X.mg h H x xr ∧ isTy xr t h = some k ∧ Q (.bl k) H) := by
  intro pins s σ H xs us Q I rv hh
  obtain ⟨x, h, xr, k, rfl, rel, ox, e, q⟩ := hh
  unfold isTy at e
  split at e
  · cases e; cases ox
    exact call_isi pins s σ H _ us Q I rv ⟨_, _, _, _, _, rfl, .ty _, .base .non, kit_ty (b := tyOf t) (by cases t <;> decide +kernel), q⟩
  · cases ox
    exact call_isi pins s σ H _ us Q I rv ⟨_, _, _, _, k, rfl, .ty _, .base (.bl _), kit_ty (b := tyOf t) (by cases t <;> (cases e; decide +kernel)), q⟩
  · cases ox
    exact call_isi pins s σ H _ us Q I rv ⟨_, _, _, _, k, rfl, .ty _, .base (.int _), kit_ty (b := tyOf t) (by cases t <;> (cases e; decide +kernel)), q⟩
  · cases ox
    exact call_isi pins s σ H _ us Q I rv ⟨_, _, _, _, k, rfl, .ty _, .base (.str _), kit_ty (b := tyOf t) (by cases t <;> (cases e; decide +kernel)), q⟩
  · cases ox with
    | tup s1 r1 =>
      have ty : ∀ {a : Addr} {ws : List V}, SqT X.K H a ws → TyX X.K H (.ref a) (.type "tuple") := fun {a ws} z => by
        rcases z with (z | ⟨o, z⟩) | ⟨o, its, n, z, c, _⟩
        · exact .base (.tup z)
        · exact .fTuple z
        · exact .kTuple z c
      exact call_isi pins s σ H _ us Q I rv ⟨_, _, _, _, k, rfl, .ty _, ty s1.sq, kit_ty (b := tyOf t) (by cases t <;> (cases e; decide +kernel)), q⟩
  · split at e
    · rename_i ys ey
      cases e
      obtain ⟨p, vs, rfl, hS, r1⟩ := opd_ls ox rel ey
      have ty : TyX X.K H (.ref p) (.type "list") := by
        rcases hS with (z | ⟨o, z⟩) | ⟨o, its, n, z, c, _⟩
        · exact .base (.lst z)
        · exact .base (.frz z)
        · exact .kList z c
      exact call_isi pins s σ H _ us Q I rv ⟨_, _, _, _, _, rfl, .ty _, ty, kit_ty (b := tyOf t) (by cases t <;> decide +kernel), q⟩
    · cases e
theorem b2_ok (hc : X.calm = true) (b : B2) : CallR X (.builtin (match b with | .min => "min" | .max => "max")) (fun xs H Q => ∃ x y d e r, xs = [x, y] ∧ Rep X.K X.mg H x d ∧ Rep X.K X.mg H y e ∧ b2D b d e = some r ∧ ∀ v, Rep X.K X.mg H v r → Q v H) := by
  intro pins s σ H xs us Q I rv hh
  obtain ⟨x, y, d, e, r, rfl, px, py, q, a⟩ := hh
  unfold b2D at q
  split at q
  · cases q; cases px; cases py
    exact call_min2 hc pins s σ H _ us Q I rv ⟨_, _, rfl, a _ (.int _)⟩
  · cases q; cases px; cases py
    exact call_max2 hc pins s σ H _ us Q I rv ⟨_, _, rfl, a _ (.int _)⟩
  · cases q
end
end Py
namespace Py
open L2 PySem.Spec PySem PyProof.Rows
section
variable {X : Cx}
/-- the value is of a built-in type, and carries no dict -/
def TyC (X : Cx) (T : String) (x : V) (H : Hp) : Prop := ∀ (pins : List (Addr × Obj)) (s : Shared) (σ : L2.St) (v : Value), L2.Inv X pins σ H s → RelV x v → s.TypeIs v T ∧ ∀ a, v = .ref a → ∃ w, s.heap.get? a = some w ∧ w.dict = none
/-- the method that a name is, of a value of that type, and what it asks -/
structure IsM (X : Cx) (T : String) (name : Str) (id : String) (r : V → List V → Hp → VK → Prop) : Prop where
  pa : PlainAttrs T
  slot : Slot T name id
  ty : typeOf (.builtin id) = pure (.type "method_descriptor")
  m : MtR X id r
def tMtG (X : Cx) (name : Str) (to : L2.TE) (t : TA) : L2.TE := fun σ H Q => to σ H fun x H1 => ∃ T id r, IsM X T name id r ∧ TyC X T x H1 ∧ t σ H1 fun xs H2 => r x xs H2 Q
theorem pe_mtG0 {o : Expr} {to : L2.TE} {name : Str} {apos cpos : Pos} (ho : PE X o to) (hbase : attributeBase o name X.env (eval o X.env) = eval o X.env) (hline : (apos.endLine == cpos.line) = true) :
    PE X (.Call (.Attribute o name apos) [] [] cpos) (tMtG X name to tNil) := by
  refine ⟨fun pins s σ H Q I hh => ?_⟩
  refine wpAny_Call_method0_late hbase hline (thn (ho.run pins s σ H _ I hh) fun v s1 ⟨x, H1, I1, r1, T, id, r, g, ty, q1⟩ => ?_)
  obtain ⟨h1, h2⟩ := ty pins s1 σ v I1 r1
  exact ⟨T, id, g.pa, g.slot, g.ty, h1, h2, Calls.callWith_builtin rfl (PySem.evalArgs_none (g.m pins s1 σ H1 x [] v [] Q I1 r1 .nil q1))⟩
theorem pe_mtG {o e : Expr} {es : List Expr} {to : L2.TE} {t : TA} {name : Str} {apos cpos : Pos} (ho : PE X o to) (ha : PA X (e :: es) t) (hbase : attributeBase o name X.env (eval o X.env) = eval o X.env) (hline : (apos.endLine == cpos.line) = true)
    (hfew : ((backTo cpos (starEach (e :: es) X.env)).all (fun x =>
        !x.1) && (backToKw cpos (keywordEach [] X.env)).all (fun x => x.1.isSome)
      && decide ((e :: es).length + ([] : List Keyword).length + (if ([] : List Keyword).isEmpty then 0 else 1) < 30)) = true)
    (hs : starEach (e :: es) X.env = (false, eval e X.env) :: starEach es X.env) (hplain : (backTo cpos (starEach es X.env)).any (·.1) = false) :
    PE X (.Call (.Attribute o name apos) (e :: es) [] cpos) (tMtG X name to t) := by
  refine ⟨fun pins s σ H Q I hh => ?_⟩
  refine wpAny_Call_method_late hbase hfew hline rfl (thn (ho.run pins s σ H _ I hh) fun v s1 ⟨x, H1, I1, r1, T, id, r, g, ty, q1⟩ => ?_)
  obtain ⟨h1, h2⟩ := ty pins s1 σ v I1 r1
  refine ⟨T, id, g.pa, g.slot, g.ty, h1, h2, ?_⟩
  have hA :=
      ha.run cpos pins s1 σ H1 _ I1 q1
  rw [hs] at hA ⊢
  refine Calls.callWith_builtin (by show (false || (backTo cpos (starEach es X.env)).any (·.1)) = false; rw [hplain]; rfl) (Calls.evalArgs_plain ?_)
  exact thn hA fun us s2 ⟨vs, H2, I2, r2, q2⟩ => g.m pins s2 σ H2 x vs v us Q I2 r1 r2 q2
theorem tyC_list {a : Addr} {xs : List V} {H : Hp} (hS : SqL X.K H a xs) : TyC X "list" (.ref a) H := fun pins s σ v I r => tyV_is I r (.inl ⟨rfl, xs, hS⟩)
theorem tyC_tup {a : Addr} {xs : List V} {H : Hp} (hS : SqD X.K H a xs) : TyC X "tuple" (.ref a) H := fun pins s σ v I r => by
  cases r
  rcases hS with ⟨o, e, d⟩ | ⟨o, its, n, k, c, d, _⟩
  · obtain ⟨e1, _, its, _, p⟩ := I.hok _ _ e
    exact ⟨p.typeIs, fun b z => by cases z; exact ⟨o, e1, d⟩⟩
  · exact tyV_is (x := V.ref a) I rfl (Or.inr (Or.inl ⟨rfl, o, k, c, d⟩))
/-! ### the methods -/
def rMt (K : PySem.W.Frag) (M : Str → Option Value) (m : Mt) (b : Rv → Prop) : V → List V → Hp → VK → Prop := fun x vs H Q => ∃ h xr ds p, RelH K M h H ∧ Opd K M h H x xr ∧ b xr ∧ Reps K M H vs ds ∧ mtD m xr ds h = some p ∧ Aft K M h H p.2 Q p.1
def anyR : Rv → Prop := fun _ => True
def isTupR : Rv → Prop := fun r => ∃ xs, r = .v (.tup xs)
def notTupR : Rv → Prop := fun r => ∀ xs, r ≠ .v (.tup xs)
theorem mLs_of {o : Rv} {h : AH} {k : Nat → List D → Option (Rv × AH)} {p : Rv × AH} (e : mLs o h k = some p) : ∃ a xs, o = .v (.loc a) ∧ h a = some (.lst xs) ∧ k a xs = some p := by
  unfold mLs at e
  split at e
  · split at e
    · exact ⟨_, _, rfl, by assumption, e⟩
    · cases e
  · cases e
theorem reps1 {K : PySem.W.Frag} {M : Str → Option Value} {H : Hp} {vs : List V} {d : D} (r : Reps K M H vs [d]) : ∃ v, vs = [v] ∧ Rep K M H v d := by
  cases r with
  | cons a t => cases t; exact ⟨_, rfl, a⟩
theorem reps2 {K : PySem.W.Frag} {M : Str → Option Value} {H : Hp} {vs : List V} {d e : D} (r : Reps K M H vs [d, e]) : ∃ v w, vs = [v, w] ∧ Rep K M H v d ∧ Rep K M H w e := by
  cases r with
  | cons a t => cases t with
    | cons b t => cases t; exact ⟨_, _, rfl, a, b⟩
theorem asInt_of {d : D} {i : Int} (e : asInt (.v d) = some i) : d = .int i := by
  unfold asInt at e
  split at e
  · rename_i q
    cases q; cases e; rfl
  · cases e
theorem append_ok : MtR X "list.append" (rMt X.K X.mg .append anyR) := by
  intro pins s σ H x vs v us Q I rx rs hh
  obtain ⟨h, xr, ds, p, rel, ox, _, rd, e, a⟩ := hh
  obtain ⟨l, xs, rfl, el, e⟩ := mLs_of e
  cases ox
  split at e
  · split at e
    · cases e
      obtain ⟨w, rfl, pw⟩ := reps1 rd
      obtain ⟨ws, h1, r1⟩ := rel _ _ el
      refine mt_append pins s σ H _ _ v us Q I rx rs ⟨_, _, _, rfl, rfl, h1, by rw [r1.length]; assumption, ?_⟩
      exact a _ _ (Tr.write rel el) (RelH.write rel el fun m => ⟨_, upd_same, (r1.append (.cons pw .nil)).mono m⟩) .non
    · cases e
  · cases e
theorem pop_ok : MtR X "list.pop" (rMt X.K X.mg .pop anyR) := by
  intro pins s σ H x vs v us Q I rx rs hh
  obtain ⟨h, xr, ds, p, rel, ox, _, rd, e, a⟩ := hh
  obtain ⟨l, xs, rfl, el, e⟩ := mLs_of e
  cases ox
  split at e
  · split at e
    · rename_i y ey
      cases e
      cases rd
      obtain ⟨ws, h1, r1⟩ := rel _ _ el
      obtain ⟨w, hw, pw⟩ := r1.get ey
      refine mt_pop pins s σ H _ _ v us Q I rx rs ⟨_, _, w, rfl, rfl, h1, by rw [r1.length]; exact hw, ?_⟩
      have t := Tr.write (o' := .lst xs.dropLast) (u := .lst ws.dropLast) rel el
      exact a _ _ t (RelH.write rel el fun m => ⟨_, upd_same, r1.dropLast.mono m⟩) (Rep.mono (t.mn rel) pw)
    · cases e
  · cases e
theorem popi_ok : MtR X "list.pop" (rMt X.K X.mg .popi anyR) := by
  intro pins s σ H x vs v us Q I rx rs hh
  obtain ⟨h, xr, ds, p, rel, ox, _, rd, e, a⟩ := hh
  obtain ⟨l, xs, rfl, el, e⟩ := mLs_of e
  cases ox
  split at e
  · split at e
    · rename_i i ei
      split at e
      · rename_i hi
        split at e
        · rename_i k ek
          split at e
          · rename_i y ey
            cases e
            obtain ⟨w0, rfl, pw0⟩ := reps1 rd
            rw [asInt_of ei] at pw0
            cases pw0
            obtain ⟨ws, h1, r1⟩ := rel _ _ el
            obtain ⟨w, hw, pw⟩ := r1.get ey
            refine mt_popAt pins s σ H _ _ v us Q I rx rs ⟨_, _, i, k, w, rfl, rfl, h1, hi.1, hi.2, (ixN_seq (by rw [r1.length]; exact ek)).1, hw, ?_⟩
            have t := Tr.write (o' := .lst (xs.eraseIdx k)) (u := .lst (ws.eraseIdx k)) rel el
            exact a _ _ t (RelH.write rel el fun m => ⟨_, upd_same, (r1.eraseIdx k).mono m⟩) (Rep.mono (t.mn rel) pw)
          · cases e
        · cases e
      · cases e
    · cases e
  · cases e
theorem insert_ok : MtR X "list.insert" (rMt X.K X.mg .insert anyR) := by
  intro pins s σ H x vs v us Q I rx rs hh
  obtain ⟨h, xr, ds, p, rel, ox, _, rd, e, a⟩ := hh
  obtain ⟨l, xs, rfl, el, e⟩ := mLs_of e
  cases ox
  split at e
  · split at e
    · rename_i i ei
      split at e
      · rename_i hi
        cases e
        obtain ⟨w0, w, rfl, pw0, pw⟩ := reps2 rd
        rw [asInt_of ei] at pw0
        cases pw0
        obtain ⟨ws, h1, r1⟩ := rel _ _ el
        refine mt_insert pins s σ H _ _ v us Q I rx rs ⟨_, _, i, w, rfl, rfl, h1, by rw [r1.length]; exact hi.2.2, hi.1, hi.2.1, ?_⟩
        exact a _ _ (Tr.write rel el) (RelH.write rel el fun m => ⟨_, upd_same, (((r1.take _).append (.cons pw .nil)).append (r1.drop _)).mono m⟩) .non
      · cases e
    · cases e
  · cases e
theorem reverse_ok : MtR X "list.reverse" (rMt X.K X.mg .reverse anyR) := by
  intro pins s σ H x vs v us Q I rx rs hh
  obtain ⟨h, xr, ds, p, rel, ox, _, rd, e, a⟩ := hh
  obtain ⟨l, xs, rfl, el, e⟩ := mLs_of e
  cases ox
  split at e
  · cases e
    cases rd
    obtain ⟨ws, h1, r1⟩ := rel _ _ el
    refine mt_reverse pins s σ H _ _ v us Q I rx rs ⟨_, _, rfl, rfl, h1, ?_⟩
    exact a _ _ (Tr.write rel el) (RelH.write rel el fun m => ⟨_, upd_same, r1.reverse.mono m⟩) .non
  · cases e
theorem extend_ok : MtR X "list.extend" (rMt X.K X.mg .extend anyR) := by
  intro pins s σ H x vs v us Q I rx rs hh
  obtain ⟨h, xr, ds, p, rel, ox, _, rd, e, a⟩ := hh
  obtain ⟨l, xs, rfl, el, e⟩ := mLs_of e
  cases ox
  split at e
  · split at e
    · rename_i ys ey
      split at e
      · rename_i hz
        cases e
        obtain ⟨w, rfl, pw⟩ := reps1 rd
        obtain ⟨ws, h1, r1⟩ := rel _ _ el
        obtain ⟨b, zs, rfl, h2, r2⟩ := opd_lt (r := .v _) pw rel ey
        refine mt_extend pins s σ H _ _ v us Q I rx rs ⟨_, _, _, _, rfl, rfl, h1, h2, by rw [r1.length, r2.length]; exact hz, ?_⟩
        exact a _ _ (Tr.write rel el) (RelH.write rel el fun m => ⟨_, upd_same, (r1.append r2).mono m⟩) .non
      · cases e
    · cases e
  · cases e
theorem idx_of {ys : List D} {x : D} {j : Nat} (e : idx ys x = some j) : (∃ z, ys[j]? = some z ∧ eqv z x = true) ∧ ∀ m z, m < j → ys[m]? = some z → eqv z x = false := by
  unfold idx at e
  rw [List.findIdx?_eq_some_iff_getElem] at e
  obtain ⟨h1, h2, h3⟩ := e
  refine ⟨⟨ys[j], List.getElem?_eq_getElem h1, h2⟩, fun m z hm hz => ?_⟩
  obtain ⟨h4, rfl⟩ := List.getElem?_eq_some_iff.mp hz
  have := h3 m hm
  simpa using this
theorem toPs_get {i : Nat} : ∀ {xs : List D}, (toPs xs)[i]? = xs[i]?.map toP := by
  induction i with
  | zero => intro xs; cases xs <;> rfl
  | succ i ih => intro xs; cases xs with
    | nil => rfl
    | cons x r => rw [toPs, List.getElem?_cons_succ, List.getElem?_cons_succ]; exact ih
theorem index_list_ok (hu : X.A.units + 65 < cLine) : MtR X "list.index" (rMt X.K X.mg .index notTupR) := by
  intro pins s σ H x vs v us Q I rx rs hh
  obtain ⟨h, xr, ds, p, rel, ox, nt, rd, e, a⟩ := hh
  dsimp only [mtD] at e
  split at e
  · rename_i d
    split at e
    · rename_i ys ey
      split at e
      · rename_i hp
        split at e
        · rename_i j ej
          cases e
          rw [Bool.and_eq_true] at hp
          obtain ⟨w, rfl, pw⟩ := reps1 rd
          have ey' : lsV xr h = some ys := by
            unfold sqV at ey
            split at ey
            · exact absurd rfl (nt _)
            · exact ey
          obtain ⟨q, ws, rfl, hS, r1⟩ := opd_ls ox rel ey'
          obtain ⟨d1, p1, l1⟩ := dp_of 40 _ _ pw hp.1
          obtain ⟨d2, s2⟩ := dl_of hS r1 hp.2
          obtain ⟨⟨z, hz, hzd⟩, hno⟩ := idx_of ej
          have all := List.all_eq_true.mp hp.2
          refine mt_indexD hu pins s σ H _ _ v us Q I rx rs ⟨q, w, toP d, toPs ys, j, toP z, rfl, rfl, d2, d1, s2, shaped_of p1 l1 (by omega), by rw [toPs_get, hz]; rfl, ?_, fun m z' hm hz' => ?_, a.v rel (.int _)⟩
          · rw [eqv_P 40 40 z d (all z (List.mem_of_getElem? hz)) hp.1]; exact hzd
          · rw [toPs_get] at hz'
            obtain ⟨y, hy, rfl⟩ := Option.map_eq_some_iff.mp hz'
            rw [eqv_P 40 40 y d (all y (List.mem_of_getElem? hy)) hp.1]
            exact hno m y hm hy
        · cases e
      · cases e
    · cases e
  · cases e
theorem index_tup_ok (hu : X.A.units + 65 < cLine) : MtR X "tuple.index" (rMt X.K X.mg .index isTupR) := by
  intro pins s σ H x vs v us Q I rx rs hh
  obtain ⟨h, xr, ds, p, rel, ox, ⟨ys, rfl⟩, rd, e, a⟩ := hh
  dsimp only [mtD] at e
  split at e
  · rename_i d
    split at e
    · rename_i zs ey
      split at e
      · rename_i hp
        split at e
        · rename_i j ej
          cases e
          rw [Bool.and_eq_true] at hp
          cases ey
          obtain ⟨w, rfl, pw⟩ := reps1 rd
          cases ox with
          | tup hS r1 =>
            cases rx
            obtain ⟨u, rfl, ru⟩ := vals1 rs
            obtain ⟨d1, p1, l1⟩ := dp_of 40 _ _ pw hp.1
            have s1 := shaped_of p1 l1 (by omega)
            obtain ⟨as1, h1⟩ := Dp.reads I _ _ _ d1 ru
            have all := List.all_eq_true.mp hp.2
            obtain ⟨q1, b1, c1⟩ := dps_of 40 _ _ r1 all
            obtain ⟨its, rv, ⟨⟨cls, dd, data, sls⟩, ho, hc, n, hdt⟩, hlen⟩ := I.tuple hS.sq
            simp only at hc hdt
            subst hc hdt
            obtain ⟨as2, h2⟩ := Dp.readsAll I _ _ its q1 rv
            have hmap : its.map (SeqAt.readOf s.heap) = toPs ys := SeqAt.readsAll_map _ its as2 b1 h2
            have hvl := rv.length
            have hrl := r1.length
            obtain ⟨⟨z, hz, hzd⟩, hno⟩ := idx_of ej
            obtain ⟨hjy, _⟩ := List.getElem?_eq_some_iff.mp hz
            have hj : j < its.toArray.size := by rw [List.size_toArray]; omega
            have at_ : ∀ (m : Nat) (hm : m < its.toArray.size) (z' : D), ys[m]? = some z' → SeqAt.readOf s.heap its.toArray[m] = toP z' := fun m hm z' hz' => by
              have hml : m < its.length :=
                  by simpa using hm
              have e1 : (its.map (SeqAt.readOf s.heap))[m]? = some (toP z') := by rw [hmap, toPs_get, hz']; rfl
              rw [List.getElem?_map, List.getElem?_eq_getElem hml] at e1
              simpa using e1
            have hroom : X.A.units + 1 + min (PyData.depthAll (toPs ys)) (toP d).depth < cLine := room_in_shaped s1 hu
            refine call_meets F.slot_tuple_index ⟨_, ho, rfl⟩
                F.entry_tuple_index (F.args_tuple_index_2 _ _)
              (TI.tuple_indexAt _ its.toArray n dd sls u (fun w => PyData.eqv (SeqAt.readOf s.heap w) (toP d)) j hj ?_ ?_) ⟨ho, SeqAt.items_eqAt (vs := its.toArray) h2 h1 b1 p1 hroom, ?_⟩
            · show PyData.eqv (SeqAt.readOf s.heap its.toArray[j]) (toP d) = true
              rw [at_ j hj z hz, eqv_P 40 40 z d (all z (List.mem_of_getElem? hz)) hp.1]
              exact hzd
            · intro m hm hmj
              have hmd : m < ys.length := by omega
              have hz' := List.getElem?_eq_getElem hmd
              show PyData.eqv (SeqAt.readOf s.heap its.toArray[m]) (toP d) = false
              rw [at_ m hm _ hz', eqv_P 40 40 _ d (all _ (List.mem_of_getElem? hz')) hp.1]
              exact hno m _ hmj hz'
            · exact ⟨.int (j : Nat), H, I.tok _, ⟨_, rfl⟩, a.v rel (.int _)⟩
        · cases e
      · cases e
    · cases e
  · cases e
end
end Py
namespace Py
open L2 PySem.Spec PySem PyProof.Rows
theorem rsize_nn (i j c : Int) (h : c ≠ 0) : 0 ≤ Builtin.Range.rangeSize i j c := by
  unfold
      Builtin.Range.rangeSize
  split
  · split
    · have := Int.ediv_nonneg (a := j - i - 1) (b := c) (by omega) (by omega)
      omega
    · omega
  · split
    · have := Int.ediv_nonneg (a := i - j - 1) (b := -c) (by omega) (by omega)
      omega
    · omega
theorem rsize_le (i j c : Int) (h : c ≠ 0) (h1 : -(2 ^ 62) ≤ i) (h2 : i < 2 ^ 62) (h3 : -(2 ^ 62) ≤ j) (h4 : j < 2 ^ 62) : Builtin.Range.rangeSize i j c < 2 ^ 63 := by
  unfold
      Builtin.Range.rangeSize
  split
  · split
    · have := Int.ediv_le_self (a := j - i - 1) c (by omega)
      omega
    · omega
  · split
    · have := Int.ediv_le_self (a := i - j - 1) (-c) (by omega)
      omega
    · omega
theorem rgC_of {i j c : Int} (h : (small62 i && small62 j && stepOk c) = true) : RgC i j c (rngN i j c) := by
  unfold small62 stepOk at h
  simp only [Bool.and_eq_true,
      decide_eq_true_eq] at h
  obtain ⟨⟨⟨h1, h2⟩, h3, h4⟩, ⟨h5, h6⟩, h7⟩ := h
  have n0 := rsize_nn i j c h5
  have n1 := rsize_le i j c h5 (by omega) (by omega) (by omega) (by omega)
  refine ⟨h5, by omega, ?_, (Int.toNat_of_nonneg n0).symm⟩
  unfold Builtin.Range.small
  generalize Builtin.Range.rangeSize i j c = n at n0 n1
  simp only [Builtin.Range.rangeFitsLong, Bool.and_eq_true, Bool.or_eq_true, decide_eq_true_eq, beq_iff_eq]
  refine ⟨⟨⟨⟨⟨by omega, by omega⟩, by omega, by omega⟩, by omega, by omega⟩, by omega, by omega⟩, .inr ?_⟩
  split <;> simp only [Bool.and_eq_true, decide_eq_true_eq] <;> omega
end Py
/-! From the syntax of the model to the syntax that is read here. -/
namespace Py
open L2 PySem.Spec PySem PyProof.Rows
def visB (sc : Scope) (x : Str) : Bool := match sc.names.lookup x with
  | some .local => true
  | some .cell => true
  | some .free => true
  | _ => false
def locB (sc : Scope) (x : Str) : Bool := match sc.names.lookup x with
  | some .local => true
  | some .cell => true
  | _ => false
def lclB (sc : Scope) (x : Str) : Bool := match sc.names.lookup x with
  | some .local => true
  | _ => false
def gloB (sc : Scope) (x : Str) : Bool := match sc.names.lookup x with
  | some .globalImplicit => true
  | _ => false
def okN (x : Str) : Bool := !(x == ("super" : Str)) && !(x == ("__debug__" : Str)) && !(x == ("__classdict__" : Str)) && !(x == ("__name__" : Str))
def slot (N : List Str) (x : Str) : Option Nat := N.findIdx? (· == x)
def blts : List Str := ["len", "int", "bool", "str", "tuple", "list", "abs", "any", "all", "sum", "min", "max", "sorted", "isinstance", "range", "set", "dict"]
def bltB (x : Str) : Bool := blts.contains x
def trC : Const → Option D
  | .none => some .non
  | .bool b => some (.bl b)
  | .int i => some (.int i)
  | .str s => some (.str s)
  | _ => none
def trOp : Operator → Option Bop
  | .Add => some .add | .Sub => some .sub | .Mult => some .mul | .FloorDiv => some .fdiv | .Mod => some .mod | .Pow => some .pow
  | .LShift => some .shl | .RShift => some .shr | .BitAnd => some .band | .BitXor => some .bxor | .BitOr => some .bor
  | _ => none
def trCop : CmpOp → Option Cop
  | .Eq => some .eq | .NotEq => some .ne | .Lt => some .lt | .LtE => some .le | .Gt => some .gt | .GtE => some .ge | .In => some .inn | .NotIn => some .nin
  | _ => none
def trIs : CmpOp → Option Bool
  | .Is => some false
  | .IsNot => some true
  | _ => none
/-- a constant that stands behind is -/
def trIsC : PySem.Expr → Option D
  | .Constant .none _ _ => some .non
  | .Constant (.bool b) _ _ => some (.bl b)
  | _ => none
def trEs (f : PySem.Expr → Option Ex) : List PySem.Expr → Option Es
  | [] => some .nil
  | e :: es => do
    let a ← f e
    let r ← trEs f es
    return .cons a r
def trBool (f : PySem.Expr → Option Ex) (op : BoolOp) : List PySem.Expr → Option Ex
  | [] => none
  | [a] => f a
  | a :: r => do
    let x ← f a
    let y ← trBool f op r
    return match op with
      | .And => .and x y
      | .Or => .or x y
def trO (f : PySem.Expr → Option Ex) : Option PySem.Expr → Option Oe
  | none => some .no
  | some e => do
    let a ← f e
    return .so a
/-- a slice's step that is told -/
def stN : PySem.Expr → Option Int
  | .Constant (.int i) _ _ => if i = 0 ∨ i = 1 then none else some i
  | .UnaryOp .USub (.Constant (.int i) _ _) _ => if i = 0 ∨ i = -1 then none else some (-i)
  | _ => none
def tyN (x : Str) : Option Ty := if x = "int" then some .int else if x = "bool" then some .bool else if x = "str" then some .str else if x = "tuple" then some .tup else none
/-- built-ins of one argument -/
def b1N (x : Str) : Option Bi :=
  if x = "len" then some .len else if x = "int" then some .int else if x = "bool" then some .bool else if x = "str" then some .str else if x = "tuple" then some .tup else if x = "list" then some .lst
  else if x = "abs" then some .abs else if x = "any" then some .any else if x = "all" then some .all else if x = "sum" then some .sum else if x = "min" then some .min else if x = "max" then some .max
  else if x = "sorted" then some .sorted else none
def b2N (x : Str) : Option B2 := if x = "min" then some .min else if x = "max" then some .max else none
def mtN (m : Str) (n : Nat) : Option Mt :=
  if m = "append" ∧ n = 1 then some .append else if m = "pop" ∧ n = 0 then some .pop else if m = "pop" ∧ n = 1 then some .popi else if m = "index" ∧ n = 1 then some .index else if m = "reverse" ∧ n = 0 then some .reverse
  else if m = "extend" ∧ n = 1 then some .extend else if m = "insert" ∧ n = 2 then some .insert else none
/-- range(..) of a def's or a block's names -/
def isRng (sc : Scope) (f : PySem.Expr) : Bool := match f with
  | .Name x _ => decide (x = "range") && gloB sc x
  | _ => false
def trI (sc : Scope) (f : PySem.Expr → Option Ex) (e : PySem.Expr) : Option It := match e with
  | .Call g es [] _ => if isRng sc g then (match es with
      | [a] => do
        let x ← f a
        return .rng1 x
      | [a, b] => do
        let x ← f a
        let y ← f b
        return .rng2 x y
      | [a, b, c] => do
        let x ← f a
        let y ← f b
        let z ← f c
        return .rng3 x y z
      | _ => none)
    else do
      let x ← f e
      return .seq x
  | _ => do
    let x ← f e
    return .seq x
/-- len(set(b)) -/
def setA (sc : Scope) (x : Str) (a : PySem.Expr) : Option PySem.Expr := if x = "len" then (match a with
    | .Call (.Name s _) [b] [] _ => if s = "set" ∧ gloB sc s = true then some b else none
    | _ => none) else none
/-- sorted(set(b)) -/
def setB (sc : Scope) (x : Str) (a : PySem.Expr) : Option PySem.Expr := if x = "sorted" then (match a with
    | .Call (.Name s _) [b] [] _ => if s = "set" ∧ gloB sc s = true then some b else none
    | _ => none) else none
/-- a target: ok tells which names may be stored -/
def trT (N : List Str) (ok : Str → Bool) : Nat → PySem.Expr → Option Tg
  | 0, _ => none
  | n + 1, e => match e with
    | .Name x _ => if ok x then (slot N x).map .nm else none
    | .Tuple es _ _ => (go n es).map .tp
    | _ => none
where
  go (n : Nat) : List PySem.Expr → Option Tgs
    | [] => some .nil
    | e :: es => do
      let a ← trT N ok n e
      let r ← go n es
      return .cons a r
mutual
def tgIdx : Tg → List Nat
  | .nm i => [i]
  | .tp ts => tgsIdx ts
def tgsIdx : Tgs → List Nat
  | .nil => []
  | .cons t ts => tgIdx t ++ tgsIdx ts
end
mutual
def tgIn (p : Nat → Bool) : Tg → Bool
  | .nm i => p i
  | .tp ts => tgsIn p ts
def tgsIn (p : Nat → Bool) : Tgs → Bool
  | .nil => true
  | .cons t ts => tgIn p t && tgsIn p ts
end
/-- a block's own names with their slots -/
def ownOf (N : List Str) : List (Str × NameKind) → List (Str × Nat)
  | [] => []
  | (x, k) :: r => match k with
    | .local => (match slot N x with
      | some i => (x, i) :: ownOf N r
      | none => ownOf N r)
    | .cell => (match slot N x with
      | some i => (x, i) :: ownOf N r
      | none => ownOf N r)
    | _ => ownOf N r
def trE (F : Str → Bool) (N : List Str) : Nat → Scope → PySem.Expr → Option Ex
  | 0, _, _ => none
  | n + 1, sc, e => match e with
    | .Constant c _ _ => (trC c).map .lit
    | .Name x _ => if okN x then (if visB sc x then (slot N x).map .var else if gloB sc x && !bltB x then some (.glo x) else none) else none
    | .BinOp a op b _ => do
      let o ← trOp op
      let x ← trE F N n sc a
      let y ← trE F N n sc b
      return .bin o x y
    | .UnaryOp op a _ => match op with
      | .Not => do
        let x ← trE F N n sc a
        return .not x
      | .USub => do
        let x ← trE F N n sc a
        return .neg x
      | _ => none
    | .BoolOp op es _ => trBool (trE F N n sc) op es
    | .IfExp c a b _ => do
      let z ← trE F N n sc c
      let x ← trE F N n sc a
      let y ← trE F N n sc b
      return .ite z x y
    | .Compare a ops bs _ => match ops, bs with
      | [o], [b] => (match trIs o with
        | some neg => do
          let c ← trIsC b
          let x ← trE F N n sc a
          return .isc neg x c
        | none => do
          let o1 ← trCop o
          let x ← trE F N n sc a
          let y ← trE F N n sc b
          return .cmp o1 x y)
      | [o, o'], [b, c] => do
        let o1 ← trCop o
        let o2 ← trCop o'
        let x ← trE F N n sc a
        let y ← trE F N n sc b
        let z ← trE F N n sc c
        return .chain o1 o2 x y z
      | _, _ => none
    | .Tuple es _ _ => (trEs (trE F N n sc) es).map .tup
    | .List es _ => (trEs (trE F N n sc) es).map .lst
    | .Call f es [] pos => match f with
      | .Name x _ => if okN x then
          (if visB sc x then (match es with
            | [] => none
            | _ => do
              let i ← slot N x
              let r ← trEs (trE F N n sc) es
              return .callv i r)
          else if gloB sc x then (if bltB x then (match es with
              | [a] => (match trI sc (trE F N n sc) a with
                | some (.seq _) => do
                  let b ← b1N x
                  let y ← trE F N n sc a
                  return .b1 b y
                | some (.rng1 i) => if x = "tuple" then some (.rng true (.rng1 i)) else if x = "list" then some (.rng false (.rng1 i)) else none
                | some (.rng2 i j) => if x = "tuple" then some (.rng true (.rng2 i j)) else if x = "list" then some (.rng false (.rng2 i j)) else none
                | some _ => none
                | none => (match setA sc x a with
                  | some b => do
                    let y ← trE F N n sc b
                    return .b1 .lens y
                  | none => (match setB sc x a with
                    | some b => do
                      let y ← trE F N n sc b
                      return .b1 .sset y
                    | none => none)))
              | [a, b] => if x = "isinstance" then (match b with
                  | .Name t _ => if gloB sc t then do
                      let ty ← tyN t
                      let y ← trE F N n sc a
                      return .b1 (.isa ty) y
                    else none
                  | _ => none)
                else do
                  let o ← b2N x
                  let y ← trE F N n sc a
                  let z ← trE F N n sc b
                  return .b2 o y z
              | _ => none)
            else if F x then do
              let r ← trEs (trE F N n sc) es
              return .call x r
            else none)
          else none) else none
      | .Attribute o m apos => if apos.endLine == pos.line then do
          let k ← mtN m es.length
          let x ← trE F N n sc o
          let r ← trEs (trE F N n sc) es
          return .mt k x r
        else none
      | _ => none
    | .Subscript a i _ => match i with
      | .Slice lo hi st _ => (match st with
        | none => do
          let x ← trE F N n sc a
          let l ← trO (trE F N n sc) lo
          let u ← trO (trE F N n sc) hi
          return .sl x l u
        | some sp => do
          let k ← stN sp
          let x ← trE F N n sc a
          let l ← trO (trE F N n sc) lo
          let u ← trO (trE F N n sc) hi
          return .sls x l u k)
      | _ => do
        let x ← trE F N n sc a
        let y ← trE F N n sc i
        return .ix x y
    | .ListComp elt gens scope _ => match gens with
      | [⟨t, it, ifs, 0⟩] =>
        let own := ownOf N scope.names
        if blkC N sc scope own then do
          let t' ← trT N (locB scope) 4 t
          if tgIn (own.map (·.2)).contains t' then do
            let it' ← trI sc (trE F N n sc) it
            let e' ← trE F N n (relS scope sc) elt
            match ifs with
            | [] => some (.comp t' it' (own.map (·.2)) e')
            | [c] => do
              let c' ← trE F N n (relS scope sc) c
              return .compi t' it' (own.map (·.2)) c' e'
            | _ => none
          else none
        else none
      | [⟨t, it, [], 0⟩, ⟨t1, it1, [], 0⟩] =>
        let own := ownOf N scope.names
        if blkC N sc scope own then do
          let t' ← trT N (locB scope) 4 t
          let t1' ← trT N (locB scope) 4 t1
          if tgIn (own.map (·.2)).contains t' && (tgIn (tgIdx t1').contains t1' && (tgIdx t1').all (own.map (·.2)).contains) then do
            let it' ← trI sc (trE F N n sc) it
            let it1' ← trI (relS scope sc) (trE F N n (relS scope sc)) it1
            let e' ← trE F N n (relS scope sc) elt
            return .comp2 t' it' (own.map (·.2)) t1' it1' (tgIdx t1') e'
          else none
        else none
      | _ => none
    | _ => none
end Py
/-! From statements of the model to the statements that are read here. -/
namespace Py
open L2 PySem.Spec PySem PyProof.Rows
def trN : Nat := 60
/-- does a comprehension store its name itself -/
def swB (sc : Scope) (t : Str) (p : Pos) : PySem.Expr → Bool
  | .ListComp _ _ s q => lclB sc t && p.line == q.line && !(s.names.any fun y => y.1 == t && (y.2 == .local || y.2 == .cell))
  | _ => false
def isStar : PySem.Expr → Bool
  | .Starred .. => true
  | _ => false
/-- the names stored from the right, where that is so: none is not known -/
def swC (sc : Scope) (ts vs : List PySem.Expr) : Option (Option (List Str)) :=
  if (!(ts.length == 2 || ts.length == 3) || vs.length != ts.length) = true then some none
  else if vs.any isStar = true then some none
  else
    let ln := (ts.head?.map (·.pos.line)).getD 0
    let ns := ts.filterMap fun t => match t with
      | .Name x p => if (sc.names.lookup x == some .local && p.line == ln) = true then some x else none
      | _ => none
    if (ns.length != ts.length || ns.eraseDups.length != ns.length) = true then some none
    else if vs.all (foldedForSure 8) = true then some none
    else if vs.all (constantsAlone 8) = true then none
    else some (some ns)
def nmS (N : List Str) (sc : Scope) (e : PySem.Expr) : Option Nat := match e with
  | .Name x _ => if lclB sc x = true then slot N x else none
  | _ => none
section
variable (F Xs : Str → Bool) (N : List Str)
def trS : Nat → Scope → PySem.Stmt → Option St
  | 0, _, _ => none
  | n + 1, sc, st => match st with
    | .Assign [tg] e _ => (match tg with
      | .Name x _ => if locB sc x = true then do
          let i ← slot N x
          let v ← trE F N trN sc e
          return .asg (.nm i) v
        else none
      | .Tuple ts _ _ => (match e with
        | .Tuple vs _ _ => (match swC sc ts vs with
          | none => none
          | some none => do
            let t ← trT N (locB sc) 6 tg
            let v ← trE F N trN sc e
            return .asg t v
          | some (some _) => (match ts, vs with
            | [a, b], [c, d] => do
              let i ← nmS N sc a
              let j ← nmS N sc b
              let r ← trEs (trE F N trN sc) [c, d]
              if i = j then none else return .asg (.tp (.cons (.nm i) (.cons (.nm j) .nil))) (.tup r)
            | [a, b, l], [c, d, m] => do
              let i ← nmS N sc a
              let j ← nmS N sc b
              let k ← nmS N sc l
              let r ← trEs (trE F N trN sc) [c, d, m]
              if i = j ∨ i = k ∨ j = k then none else return .asg (.tp (.cons (.nm i) (.cons (.nm j) (.cons (.nm k) .nil)))) (.tup r)
            | _, _ => none))
        | _ => do
          let t ← trT N (locB sc) 6 tg
          let v ← trE F N trN sc e
          return .asg t v)
      | .Subscript o i _ => (match i with
        | .Slice _ _ _ _ => none
        | _ => do
          let v ← trE F N trN sc e
          let a ← trE F N trN sc o
          let k ← trE F N trN sc i
          return .set a k v)
      | _ => none)
    | .AugAssign (.Name x _) op e _ => if locB sc x = true then do
        let i ← slot N x
        let o ← trOp op
        let v ← trE F N trN sc e
        return .aug i o v
      else none
    | .Expr e _ => (match e with
      | .Constant (.str _) _ _ => some .pass
      | .ListComp _ _ _ _ => none
      | _ => do
        let v ← trE F N trN sc e
        return .expr v)
    | .If c a b _ => do
      let z ← trE F N trN sc c
      let x ← go n sc a
      let y ← go n sc b
      return .ifs z x y
    | .While c b [] _ => do
      let z ← trE F N trN sc c
      let x ← go n sc b
      return .whl z x
    | .For tg it b [] _ => do
      let t ← trT N (locB sc) 6 tg
      let z ← trI sc (trE F N trN sc) it
      let x ← go n sc b
      return .for_ t z x
    | .Return (some e) _ => do
      let v ← trE F N trN sc e
      return .ret v
    | .Return none _ => some .retn
    | .Raise (some (.Call (.Name c _) [.Constant (.str _) _ _] [] _)) none _ => if (Xs c && gloB sc c && okN c) = true then some (.rais c) else none
    | .Try b [.ExceptHandler (some (.Name c _)) none [.Return (some (.Constant k _ _)) _] _] [] [] _ => if (Xs c && gloB sc c && okN c) = true then do
        let x ← go n sc b
        let d ← trC k
        return .tryx x c d
      else none
    | .Pass _ => some .pass
    | .Break _ => some .brk
    | .Continue _ => some .cnt
    | _ => none
where
  go (n : Nat) (sc : Scope) : List PySem.Stmt → Option Sts
    | [] => some .nil
    | s :: r => do
      let a ← trS n sc s
      let b ← go n sc r
      return .cons a b
end
end Py
/-! Slices with a step. -/
namespace Py
open L2 PySem.Spec PySem PyProof.Rows
theorem vals_pick {xs : List V} {its : List Value} (r : Vals xs its) : ∀ is : List Nat, Vals (is.filterMap fun k => xs[k]?) (is.filterMap fun k => its[k]?)
  | [] => .nil
  | k :: is => by
    have ih := vals_pick r is
    by_cases hk : k < xs.length
    · have h1 : xs[k]? = some xs[k] := List.getElem?_eq_getElem hk
      obtain ⟨u, h2, h3⟩ := Vals.get r h1
      rw [List.filterMap_cons, List.filterMap_cons, h1, h2]
      exact .cons h3 ih
    · have h1 : xs[k]? = none := List.getElem?_eq_none (by omega)
      have h2 : its[k]? = none := List.getElem?_eq_none (by rw [← r.length]; omega)
      rw [List.filterMap_cons, List.filterMap_cons, h1, h2]
      exact ih
theorem reps_pick {K : PySem.W.Frag} {M : Str → Option Value} {H : Hp} {vs : List V} {xs : List D} (r : Reps K M H vs xs) : ∀ is : List Nat, Reps K M H (is.filterMap fun k => vs[k]?) (is.filterMap fun k => xs[k]?)
  | [] => .nil
  | k :: is => by
    have ih := reps_pick r is
    by_cases hk : k < xs.length
    · have h1 : xs[k]? = some xs[k] := List.getElem?_eq_getElem hk
      obtain ⟨u, h2, h3⟩ := r.get h1
      rw [List.filterMap_cons, List.filterMap_cons, h1, h2]
      exact .cons h3 ih
    · have h1 : xs[k]? = none := List.getElem?_eq_none (by omega)
      have h2 : vs[k]? = none := List.getElem?_eq_none (by rw [r.length]; omega)
      rw [List.filterMap_cons, List.filterMap_cons, h1, h2]
      exact ih
section
variable {prog : Program} {w : World} {A :
    Around} {E : Value → Shared → Prop} {s : Shared}
theorem sliceApplied_st {sl : Addr} {vl vu vs : Value} {lo hi : Option Int} {st : Int} {n : Nat} {Q : Int × Int × Nat → Shared → Prop} (hs : s.heap.IsSliceOf sl vl vu vs) (pl : IsPart vl lo) (pu : IsPart vu hi) (ps : IsPart vs (some st)) (h0 : st ≠ 0)
    (h : Q ((Builtin.Slice.sliceAdjust lo hi st n).1, st, Builtin.Slice.slicePlaces (Builtin.Slice.sliceAdjust lo hi st n).1 (Builtin.Slice.sliceAdjust lo hi st n).2 st) s) : wpAny (model prog w) A (Builtin.Slice.sliceApplied (.ref sl) (pure (n : Int))) Q E s := by
  obtain ⟨os, hos, hcs, hds⟩ :=
      id hs
  unfold Builtin.Slice.sliceApplied
      Builtin.Slice.sliceFields
  refine wpAny_bind (wpAny_bind (wpAny_field hos hds (x := vl) rfl (wpAny_bind (wpAny_field hos hds (x := vu) rfl (wpAny_bind (wpAny_field hos hds (x := vs) rfl (wpAny_pure ?_)))))))
  refine wpAny_bind (HT.slicePart_ ps ?_)
  show wpAny _ _ (if (st == 0) = true then _ else _) _ _ s
  rw [if_neg (by
      simpa using h0)]
  refine wpAny_bind (HT.slicePart_ pl (wpAny_bind (HT.slicePart_ pu (wpAny_bind (wpAny_pure ?_)))))
  exact wpAny_pure h
theorem getItem_tuple_st {t sl : Addr} {items : Array Value} {vl vu vs : Value} {lo hi : Option Int} {st : Int} {Q : Value → Shared → Prop} (ht : IsTup s.heap t items) (hs : s.heap.IsSliceOf sl vl vu vs) (pl : IsPart vl lo) (pu : IsPart vu hi) (ps : IsPart vs (some st)) (h0 : st ≠ 0) (h1 : st ≠ 1)
    (h : Q (.ref s.heap.objs.size) { s with heap := s.heap.push { cls := .type "tuple", data := .seq (pkT st lo hi items.toList).toArray } })
    (hsz : (pkT st lo hi items.toList).length ≤ sizeLine) : wpAny (model prog w) A (getItem (.ref t) (.ref sl)) Q E s := by
  have htake : sizeOk (.seq (pkT st lo hi items.toList).toArray) := by
    show (pkT st lo hi items.toList).toArray.size ≤ sizeLine
    rw [List.size_toArray]
    exact hsz
  obtain ⟨os, hos, hcs, hds⟩ :=
      id hs
  have hTs : s.TypeIs (.ref sl) "slice" :=
      ⟨os, hos, hcs⟩
  unfold getItem
  try with_reducible
      refine wpAny_holding ?_
  first | (refine wpAny_bind (wpAny_pure ?_)) | skip
  refine wpAny_bind (wpAny_sequenceKey
      ht.typeIs (by decide) ?_)
  refine wpAny_bind (wpAny_callSpecial?_slot (name :=
      Str.ofString "__getitem__") ht.typeIs PyProof.Rows.slot_tuple_getitem
    (wpAny_call_entry PyProof.Rows.slot_tuple_getitem
        ht.typeIs entry_tuple_getitem ?_ (args_tuple_getitem _ _)))
  show wpAny _ _ (Builtin.Tuple.tupleItemsOf
      (.ref t) >>= _) _ _ s
  refine wpAny_bind
      (tupleItemsOf_ ht ?_)
  refine wpAny_bind
      (wpAny_typeOf hTs ?_)
  rw [if_pos (by decide)]
  refine wpAny_bind (sliceApplied_st hs pl pu ps h0 ?_)
  have hno : ¬ (((Builtin.Slice.sliceAdjust lo hi st items.size).1 == 0 && st == 1 && (Builtin.Slice.slicePlaces (Builtin.Slice.sliceAdjust lo hi st items.size).1 (Builtin.Slice.sliceAdjust lo hi st items.size).2 st) == items.size) = true) := by
    intro q
    rw [Bool.and_eq_true,
        Bool.and_eq_true] at q
    exact h1 (eq_of_beq q.1.2)
  show wpAny _ _ (if ((Builtin.Slice.sliceAdjust lo hi st items.size).1 == 0 && st == 1 && (Builtin.Slice.slicePlaces (Builtin.Slice.sliceAdjust lo hi st items.size).1 (Builtin.Slice.sliceAdjust lo hi st items.size).2 st) == items.size) = true then _ else _) _ _ s
  have e : ((List.range (Builtin.Slice.slicePlaces (Builtin.Slice.sliceAdjust lo hi st items.size).1 (Builtin.Slice.sliceAdjust lo hi st items.size).2 st)).filterMap fun (k : Nat) => items[((Builtin.Slice.sliceAdjust lo hi st items.size).1 + (k : Int) * st).toNat]?) = pkT st lo hi items.toList := by
    unfold pkT
    rw [Array.length_toList, List.filterMap_map]
    congr 1
    funext k
    simp
  rw [if_neg hno, e]
  first
    | exact wpAny_bind (m :=
        Builtin.Tuple.tupleExact _) (wpAny_newObj_type (wpAny_pure ⟨_, rfl, wpAny_pure h⟩) htake)
    | exact wpAny_bind (m :=
        Builtin.Tuple.tupleExact _) (wpAny_newObj_type (wpAny_bind (wpAny_pure (wpAny_pure ⟨_, rfl, wpAny_pure h⟩))) htake)
    | exact wpAny_bind (wpAny_bind (m :=
        Builtin.Tuple.tupleExact _) (wpAny_newObj_type (wpAny_pure (wpAny_pure ⟨_, rfl, wpAny_pure h⟩)) htake))
    | exact wpAny_bind (wpAny_bind (m :=
        Builtin.Tuple.tupleExact _) (wpAny_newObj_type (wpAny_pure ⟨_, rfl, wpAny_pure h⟩) htake))
end
section
variable {X : Cx} {e : Expr} {te : L2.TE} {lo hi : Option Expr} {tl th : L2.TO} {pos p2 : Pos}
def tSls (K : PySem.W.Frag) (st : Int) (te : L2.TE) (tl th : L2.TO) : L2.TE := fun σ H Q => te σ H fun x H1 => tl σ H1 fun l H2 => th σ H2 fun u H3 => ∃ a xs, x = .ref a ∧
  ((SqL K H3 a xs ∧ (pkL st l u xs).length ≤ sizeLine ∧ ∀ p, H3 p = none → Q (.ref p) (upd H3 p (.lst (pkL st l u xs)))) ∨ (SqT K H3 a xs ∧ (pkT st l u xs).length ≤ sizeLine ∧ NewT Q H3 (pkT st l u xs)))
theorem po_st {sp : Expr} {k : Int} (h : stN sp = some k) : k ≠ 0 ∧ k ≠ 1 ∧ ∀ (pins : List (Addr × Obj)) (s : Shared) (σ : L2.St) (H : Hp), L2.Inv X pins σ H s →
    wpAny (model X.prog X.w) X.A (evalPart (some sp) X.env) (fun u s' => L2.Inv X pins σ H s' ∧ IsPart u (some k)) X.xe s := by
  unfold stN at h
  split at h
  · split at h
    · cases h
    · rename_i hi
      cases h
      refine ⟨fun z => hi (.inl z), fun z => hi (.inr z), fun pins s σ H I => ?_⟩
      exact thn ((po_some pe_int).run pins s σ H (fun o H' => o = some k ∧ H' = H) I ⟨k, rfl, rfl, rfl⟩) fun u s' ⟨o, H', I', p, e1, e2⟩ => by
        subst e1 e2
        exact ⟨I', p⟩
  · split at h
    · cases h
    · rename_i i _ _ _ hi
      injection h with h
      subst h
      refine ⟨fun z => hi (.inl (by omega)), fun z => hi (.inr (by omega)), fun pins s σ H I => ?_⟩
      exact thn ((po_some (pe_un un_neg pe_int)).run pins s σ H (fun o H' => o = some (-i) ∧ H' = H) I ⟨i, rfl, -i, rfl, rfl, rfl⟩) fun u s' ⟨o, H', I', p, e1, e2⟩ => by
        subst e1 e2
        exact ⟨I', p⟩
  · cases h
theorem pe_sls {sp : Expr} {k : Int} (hk : stN sp = some k) (he : PE X e te) (hl : PO X lo tl) (hu : PO X hi th) : PE X (.Subscript e (.Slice lo hi (some sp) p2) pos) (tSls X.K k te tl th) := by
  refine ⟨fun pins s σ H Q I h =>
      ?_⟩
  obtain ⟨k0, k1, hp⟩ := po_st (X := X) hk
  refine Subscript_ (thn (he.run pins s σ H _ I h) fun v s1 ⟨x, H1, I1, r1, q1⟩ =>
      ?_)
  refine wpAny_Slice (thn (hl.run pins s1 σ H1 _ I1 q1) fun vl s2 ⟨l, H2, I2, pl, q2⟩ =>
      thn (hu.run pins s2 σ H2 _ I2 q2) fun vu s3 ⟨u, H3, I3, pu, q3⟩ => ?_)
  refine thn (hp pins s3 σ H3 I3) fun vs s4 ⟨I4, ps⟩ => ?_
  have I5 : L2.Inv X pins σ H3 { s4 with heap := s4.heap.push { cls := .type "slice", data := .fields #[vl, vu, vs] } } := I4.kept (t' := s4.toks) fun b ob q => Heap.get?_push_of_some _ q
  obtain ⟨a, xs, rfl, q3⟩ := q3
  cases r1
  show wpAny (model X.prog X.w) X.A (subscriptTail e (.Slice lo hi (some sp) p2) (.ref a) (.ref s4.heap.objs.size)) (EP X pins σ Q) X.xe { s4 with heap := s4.heap.push { cls := .type "slice", data := .fields #[vl, vu, vs] } }
  rcases q3 with ⟨hx, hz, q⟩ | ⟨hx, hz, q⟩
  · obtain ⟨its, r, ht, hz1⟩ := I5.list hx
    have hlen := r.length
    refine tail_any (ops :=
        [.ref a, .ref s4.heap.objs.size]) ht.isList.typeIs (PySem.slot_list_getitem.lookup) ?_ (by with_unfolding_all rfl)
    refine wpAny_getItem_list_slice ht.isList (Heap.IsSliceOf.new _ vl vu vs) pl pu ps (by simpa using k0) ?_ (by rw [List.size_toArray]; omega)
    have e1 : slicePick its.toArray l u (some k) = (pkL k l u its).toArray := by
      unfold slicePick pkL
      rw [List.size_toArray]
      congr 2
      funext z
      simp
    rw [e1]
    have r2 : Vals (pkL k l u xs) (pkL k l u its) := by
      unfold pkL
      rw [hlen]
      exact vals_pick r _
    refine ⟨.ref _, _, I5.laid (t' := s4.toks) (o := .lst (pkL k l u xs)) (fun b ob q => Heap.get?_push_of_some _ q) (Nat.le_refl _) ?_, rfl, q _ (I5.hok.fresh (Nat.le_refl _))⟩
    exact ⟨hz, _, 0, r2, Heap.get?_push_size _ rfl⟩
  · obtain ⟨its, r, ht, hz1⟩ := I5.tuple hx
    have hlen := r.length
    have r2 : Vals (pkT k l u xs) (pkT k l u its) := by
      unfold pkT
      rw [hlen]
      exact vals_pick r _
    refine tail_any (ops := [.ref a, .ref s4.heap.objs.size]) ht.typeIs (slot_tuple_getitem.lookup) ?_ (by with_unfolding_all rfl)
    exact getItem_tuple_st ht (Heap.IsSliceOf.new _ vl vu vs) pl pu ps k0 k1 (newT_ok I5 r2 hz q) (by rw [← r2.length]; exact hz)
theorem sls_ok {h : AH} {H : Hp} {x : V} {xr : Rv} {l u : Option Int} {k : Int} {r : Rv} {Q : VK} (rel : RelH X.K X.mg h H) (ox : Opd X.K X.mg h H x xr) (e : slsD xr l u k h = some r) (a : Aft X.K X.mg h H h Q r) : ∃ p xs, x = .ref p ∧
    ((SqL X.K H p xs ∧ (pkL k l u xs).length ≤ sizeLine ∧ ∀ q, H q = none → Q (.ref q) (upd H q (.lst (pkL k l u xs)))) ∨ (SqT X.K H p xs ∧ (pkT k l u xs).length ≤ sizeLine ∧ NewT Q H (pkT k l u xs))) := by
  unfold slsD at e
  split at e
  · split at e
    · rename_i xs hz
      cases e
      cases ox with
      | tup s1 r1 =>
        rename_i p vs
        have r2 : Reps X.K X.mg H (pkT k l u vs) (pkT k l u xs) := by
          unfold pkT
          rw [r1.length]
          exact reps_pick r1 _
        exact ⟨_, _, rfl, .inr ⟨s1.sq, by rw [r2.length, sizeLine_eq]; exact hz, a.newT rel r2⟩⟩
    · cases e
  · split at e
    · rename_i xs ex
      split at e
      · rename_i hz
        cases e
        obtain ⟨p, vs, rfl, s1, r1⟩ := opd_ls ox rel ex
        have r2 : Reps X.K X.mg H (pkL k l u vs) (pkL k l u xs) := by
          unfold pkL
          rw [r1.length]
          exact reps_pick r1 _
        exact ⟨_, _, rfl, .inl ⟨s1, by rw [r2.length, sizeLine_eq]; exact hz, fun q hq => a.newL rel hq r2⟩⟩
      · cases e
    · cases e
end
end Py
/-! The abstract reading is sound: what it says of a piece of syntax, the layer's readings say. -/
namespace Py
open L2 PySem.Spec PySem PyProof.Rows

/-- the slots hold the data -/
structure RelS (K : PySem.W.Frag) (M : Str → Option Value) (H : Hp) (σ : L2.St) (env : Env) : Prop where
  len : σ.length = env.length
  at_ : ∀ (i : Nat) (d : D), env[i]? = some (some d) → ∃ v, σ[i]? = some (some v) ∧ Rep K M H v d
/-- what may be thrown -/
def Xok (K : PySem.W.Frag) (M : Str → Option Value) (W : WX) (σ : L2.St) (h : AH) (H : Hp) (X0 : Xc) : Prop :=
  ∀ c h' H' d a, X0 c h' → Tr h H h' H' → RelH K M h' H' → M c = some (.ref a) → W (.ref a) d σ H'
structure Now (K : PySem.W.Frag) (M : Str → Option Value) (W : WX) (σ : L2.St) (env : Env) (h : AH) (H : Hp) (X0 : Xc) : Prop where
  rel : RelH K M h H
  rs : RelS K M H σ env
  xo : Xok K M W σ h H X0
section
variable {K : PySem.W.Frag} {M : Str → Option Value} {W : WX} {σ : L2.St} {env : Env} {h h' : AH} {H H' : Hp} {X0 : Xc}
theorem RelS.mono (m : Mn K H H') (r : RelS K M H σ env) : RelS K M H' σ env := ⟨r.len, fun i d e => let ⟨v, e1, q⟩ := r.at_ i d e; ⟨v, e1, q.mono m⟩⟩
theorem Xok.mono (x : Tr h H h' H') (q : Xok K M W σ h H X0) : Xok K M W σ h' H' X0 := fun c h2 H2 d a x0 t r e => q c h2 H2 d a x0 (x.trans t) r e
theorem Now.go (n : Now K M W σ env h H X0) (x : Tr h H h' H') (r : RelH K M h' H') : Now K M W σ env h' H' X0 := ⟨r, n.rs.mono (x.mn n.rel), n.xo.mono x⟩
theorem RelS.set {v : V} {d : D} (r : RelS K M H σ env) (q : Rep K M H v d) (i : Nat) : RelS K M H (σ.set i (some v)) (env.set i (some d)) := by
  refine ⟨by rw [List.length_set, List.length_set, r.len], fun j e he => ?_⟩
  by_cases hj : i = j
  · subst hj
    by_cases hl : i < env.length
    · rw [List.getElem?_set_self hl] at he
      cases he
      exact ⟨v, List.getElem?_set_self (by rw [r.len]; exact hl), q⟩
    · rw [List.getElem?_eq_none (by simpa using hl)] at he
      cases he
  · rw [List.getElem?_set_ne hj] at he ⊢
    exact r.at_ j e he
theorem RelS.setN (r : RelS K M H σ env) (i : Nat) : RelS K M H (σ.set i none) (env.set i none) := by
  refine ⟨by rw [List.length_set, List.length_set, r.len], fun j e he => ?_⟩
  by_cases hj : i = j
  · subst hj
    by_cases hl : i < env.length
    · rw [List.getElem?_set_self hl] at he
      cases he
    · rw [List.getElem?_eq_none (by simpa using hl)] at he
      cases he
  · rw [List.getElem?_set_ne hj] at he ⊢
    exact r.at_ j e he
theorem RelS.wipe (r : RelS K M H σ env) : ∀ vs : List Nat, RelS K M H (L2.wipe σ vs) (Py.wipe env vs)
  | [] => r
  | v :: vs => (RelS.wipe r vs).setN v
theorem RelS.lk {i : Nat} {d : D} (r : RelS K M H σ env) (e : lk env i = some d) : ∃ v, σ[i]? = some (some v) ∧ Rep K M H v d := by
  unfold Py.lk at e
  split at e
  · rename_i d' h'
    cases e
    exact r.at_ _ _ h'
  · cases e
end

/-! ### the readings -/
section
variable (K : PySem.W.Frag) (M : Str → Option Value) (W : WX)
def tOf (m : TX) : L2.TE := fun σ H Q => ∃ env h Q0 X0, Now K M W σ env h H X0 ∧ m env h Q0 X0 ∧ ∀ r h' v H', Q0 r h' → Tr h H h' H' → RelH K M h' H' → RepR K M H h' H' v r → Q v H'
def ttOf (m : Env → AH → (Bool → AH → Prop) → Xc → Prop) : L2.TT := fun σ H Q => ∃ env h Q0 X0, Now K M W σ env h H X0 ∧ m env h Q0 X0 ∧ ∀ k h' H', Q0 k h' → Tr h H h' H' → RelH K M h' H' → Q k H'
def taOf (m : TEs) : L2.TA := fun σ H Q => ∃ env h Q0 X0, Now K M W σ env h H X0 ∧ m env h Q0 X0 ∧ ∀ ds h' vs H', Q0 ds h' → Tr h H h' H' → RelH K M h' H' → Reps K M H' vs ds → Q vs H'
def toOf (m : TO) : L2.TO := fun σ H Q => ∃ env h Q0 X0, Now K M W σ env h H X0 ∧ m env h Q0 X0 ∧ ∀ o h' H', Q0 o h' → Tr h H h' H' → RelH K M h' H' → Q o H'
/-- what was made between Hp and H0, and is not known, is kept -/
def Kp (Hpre : Hp) (h0 : AH) (H0 : Hp) (h : AH) (H : Hp) : Prop := ∀ p o, Hpre p = none → H0 p = some o → h0 p = none → H p = some o ∧ h p = none
def Walks (s : Src) (J : L2.It) (Hpre : Hp) (h0 : AH) (H0 : Hp) : Prop := ∀ h H, Kp Hpre h0 H0 h H → Mn K H0 H → RelH K M h H → s.chk h → ∀ i,
  (∀ d, s.items[i]? = some d → J.go i H ∧ ∀ x H', J.yld i H x H' → H' = H ∧ Rep K M H x d) ∧ (s.items.length ≤ i → J.stop i H)
def tiOf (m : TI) : L2.TI := fun σ H R => ∃ env h Q0 X0, Now K M W σ env h H X0 ∧ m env h Q0 X0 ∧ ∀ s h' J H', Q0 s h' → Tr h H h' H' → RelH K M h' H' → Walks K M s J H h' H' → R J H'
/-- only slots of p change -/
def Ag (p : Nat → Bool) (σ σ' : L2.St) : Prop := σ'.length = σ.length ∧ ∀ i : Nat, p i = false → σ'[i]? = σ[i]?
def tgOf (p : Nat → Bool) (m : TG) : L2.TG := fun v σ H Q => ∃ d env h Q0, RelH K M h H ∧ RelS K M H σ env ∧ Rep K M H v d ∧ m d env h Q0 ∧
  ∀ env' h' σ' H', Q0 env' h' → Tr h H h' H' → RelH K M h' H' → RelS K M H' σ' env' → Ag p σ σ' → Q σ' H'
def tgsOf (p : Nat → Bool) (m : TGs) : L2.TGs := fun vs σ H Q => ∃ ds env h Q0, RelH K M h H ∧ RelS K M H σ env ∧ Reps K M H vs ds ∧ m ds env h Q0 ∧
  ∀ env' h' σ' H', Q0 env' h' → Tr h H h' H' → RelH K M h' H' → RelS K M H' σ' env' → Ag p σ σ' → Q σ' H'
end
section
variable {X : Cx}
theorem PE_le {e : Expr} {t t' : L2.TE} (g : PE X e t) (m : ∀ σ H Q, t' σ H Q → t σ H Q) : PE X e t' := ⟨fun pins s σ H Q I q => g.run pins s σ H Q I (m σ H Q q)⟩
theorem PT_le {e : Expr} {t t' : L2.TT} (g : PT X e t) (m : ∀ σ H Q, t' σ H Q → t σ H Q) : PT X e t' := ⟨fun pins s σ H Q I q => g.run pins s σ H Q I (m σ H Q q)⟩
theorem PW_le {e : Expr} {t t' : L2.TT} (g : PW X e t) (m : ∀ σ H Q, t' σ H Q → t σ H Q) : PW X e t' := ⟨fun wh pins s σ H Q I q => g.run wh pins s σ H Q I (m σ H Q q)⟩
theorem PA_le {e : List Expr} {t t' : L2.TA} (g : PA X e t) (m : ∀ σ H Q, t' σ H Q → t σ H Q) : PA X e t' := ⟨fun pos pins s σ H Q I q => g.run pos pins s σ H Q I (m σ H Q q)⟩
theorem PI_le {tg e : Expr} {t t' : L2.TI} (g : PI X tg e t) (m : ∀ σ H R, t' σ H R → t σ H R) : PI X tg e t' := ⟨fun pins s σ H R I q => g.run pins s σ H R I (m σ H R q)⟩
theorem PO_le {e : Option Expr} {t t' : L2.TO} (g : PO X e t) (m : ∀ σ H R, t' σ H R → t σ H R) : PO X e t' := ⟨fun pins s σ H R I q => g.run pins s σ H R I (m σ H R q)⟩
theorem PG_le {e : Expr} {t t' : L2.TG} (g : PG X e t) (m : ∀ v σ H R, t' v σ H R → t v σ H R) : PG X e t' := ⟨fun pins s σ H v u Q I r q => g.run pins s σ H v u Q I r (m v σ H Q q)⟩
theorem PS_le {e : Stmt} {t t' : L2.TS} (g : PS X e t) (m : ∀ D σ H, t' D σ H → t D σ H) : PS X e t' := ⟨fun pins s σ H D I q => g.run pins s σ H D I (m D σ H q)⟩
theorem PSs_le {e : List Stmt} {t t' : L2.TS} (g : PSs X e t) (m : ∀ D σ H, t' D σ H → t D σ H) : PSs X e t' := ⟨fun pins s σ H D I q => g.run pins s σ H D I (m D σ H q)⟩
end

section
variable {K : PySem.W.Frag} {M : Str → Option Value} {W : WX} {a b c e : TX}
variable {σ : L2.St} {H : Hp}
/-- the operand of a made or known object, behind another step -/
theorem opd2 {H0 : Hp} {h1 h2 : AH} {H1 H2 : Hp} {v : V} {r : Rv} (q : RepR K M H0 h1 H1 v r) (x : Tr h1 H1 h2 H2) (rel : RelH K M h1 H1) : Opd K M h2 H2 v r := (q.opd).mono x rel
theorem aft_of {Q0 : Rv → AH → Prop} {Q : VK} {h h2 : AH} {H2 : Hp} {r : Rv} (hq : ∀ r h' v H', Q0 r h' → Tr h H h' H' → RelH K M h' H' → RepR K M H h' H' v r → Q v H') (x : Tr h H h2 H2) (rel : RelH K M h2 H2) (q : Q0 r h2) : Aft K M h2 H2 h2 Q r :=
  fun v H3 t r3 rp => hq r h2 v H3 q (x.trans t) r3 (rp.back x.grow)
end
end Py
/-! The abstract reading is sound: expressions. -/
namespace Py
open L2 PySem.Spec PySem PyProof.Rows
abbrev eOf (X : Cx) (W : WX) (m : TX) : L2.TE := tOf X.K X.mg W m
abbrev cOf (X : Cx) (W : WX) (m : TX) : L2.TT := ttOf X.K X.mg W (tT m)
abbrev aOf (X : Cx) (W : WX) (m : TEs) : L2.TA := taOf X.K X.mg W m
abbrev oOf (X : Cx) (W : WX) (m : TO) : L2.TO := toOf X.K X.mg W m
abbrev iOf (X : Cx) (W : WX) (m : TI) : L2.TI := tiOf X.K X.mg W m
abbrev gOf (X : Cx) (p : Nat → Bool) (m : TG) : L2.TG := tgOf X.K X.mg p m
/-- a test that is plainly the truth of its value -/
def PlainT (X : Cx) (e : Expr) : Prop := ∀ whole, isTrue e X.env whole = (do let v ← whole; standAt e.pos; holding [v] (truthy v))
section
variable {X : Cx} {W : WX} {a b c e : Expr} {pos : Pos} {ma mb mc : TX}
theorem s_truth (ha : PE X a (eOf X W ma)) (he : PlainT X a) : PT X a (cOf X W ma) := PT_le (pt_truth ha he) fun σ H Q ⟨env, h, Q0, X0, n, q, hq⟩ =>
  ⟨env, h, _, X0, n, q, fun r h1 v1 H1 ⟨k, e, q1⟩ t1 r1 p1 => ⟨k, tru_V r1 p1.opd e, hq k h1 H1 q1 t1 r1⟩⟩
theorem s_lit {d : D} {v : V} (g : PE X a (tC v)) (hd : ∀ H, Rep X.K X.mg H v d) : PE X a (eOf X W (xLit d)) := PE_le g fun σ H Q ⟨env, h, Q0, X0, n, q, hq⟩ =>
  hq _ _ _ _ q .refl n.rel (hd H)
theorem s_var {i : Nat} (g : PE X a (tVar i)) : PE X a (eOf X W (xVar i)) := PE_le g fun σ H Q ⟨env, h, Q0, X0, n, ⟨d, e, q⟩, hq⟩ =>
  let ⟨v, e1, r⟩ := n.rs.lk e
  ⟨v, e1, hq _ _ _ _ q .refl n.rel r⟩
theorem s_bin (op : Bop) (ha : PE X a (eOf X W ma)) (hb : PE X b (eOf X W mb)) : PE X (.BinOp a (opOf op) b pos) (eOf X W (xBin op ma mb)) :=
  PE_le (pe_op (bin_ok op) ha hb) fun σ H Q ⟨env, h, Q0, X0, n, q, hq⟩ => ⟨env, h, _, X0, n, q, fun x h1 v1 H1 q1 t1 r1 p1 =>
    ⟨env, h1, _, X0, n.go t1 r1, q1, fun y h2 v2 H2 ⟨r, e, q2⟩ t2 r2 p2 => ⟨h2, x, y, r, r2, opd2 p1 t2 r1, p2.opd, e, aft_of hq (t1.trans t2) r2 q2⟩⟩⟩
theorem s_neg (ha : PE X a (eOf X W ma)) : PE X (.UnaryOp .USub a pos) (eOf X W (xNeg ma)) :=
  PE_le (pe_un un_neg ha) fun σ H Q ⟨env, h, Q0, X0, n, q, hq⟩ => ⟨env, h, _, X0, n, q, fun x h1 v1 H1 ⟨i, e, q1⟩ t1 r1 p1 => by
    unfold asInt at e
    split at e
    · cases e
      cases p1
      exact ⟨_, rfl, hq _ _ _ _ q1 t1 r1 (.int _)⟩
    · cases e⟩
theorem s_cmp (hu : X.A.units + 65 < cLine) (op : Cop) (ha : PE X a (eOf X W ma)) (hb : PE X b (eOf X W mb)) (hm : behindInMarks (copOf op) b = false) :
    PE X (.Compare a [copOf op] [b] pos) (eOf X W (xCmp op ma mb)) ∧ PT X (.Compare a [copOf op] [b] pos) (cOf X W (xCmp op ma mb)) := by
  constructor
  · exact PE_le (pe_cmpR (cmp_ok hu op) ha hb hm) fun σ H Q ⟨env, h, Q0, X0, n, q, hq⟩ => ⟨env, h, _, X0, n, q, fun x h1 v1 H1 q1 t1 r1 p1 =>
      ⟨env, h1, _, X0, n.go t1 r1, q1, fun y h2 v2 H2 ⟨k, e, q2⟩ t2 r2 p2 => ⟨h2, x, y, k, r2, opd2 p1 t2 r1, p2.opd, e, hq _ _ _ _ q2 (t1.trans t2) r2 (.bl k)⟩⟩⟩
  · exact PT_le (pt_cmpR (cmp_ok hu op) ha hb hm) fun σ H Q ⟨env, h, Q0, X0, n, q, hq⟩ => ⟨env, h, _, X0, n, q, fun x h1 v1 H1 q1 t1 r1 p1 =>
      ⟨env, h1, _, X0, n.go t1 r1, q1, fun y h2 v2 H2 ⟨k, e, k', e', q2⟩ t2 r2 p2 => ⟨h2, x, y, k, r2, opd2 p1 t2 r1, p2.opd, e, k, rfl, by
        have e2 : some k = some k' := e'
        cases e2
        exact hq _ _ _ q2 (t1.trans t2) r2⟩⟩⟩
theorem s_chain (hu : X.A.units + 65 < cLine) (o1 o2 : Cop) (ha : PE X a (eOf X W ma)) (hb : PE X b (eOf X W mb)) (hc : PE X c (eOf X W mc)) (hm : lastMarks [copOf o1, copOf o2] [b, c] = false) :
    PE X (.Compare a [copOf o1, copOf o2] [b, c] pos) (eOf X W (xChain o1 o2 ma mb mc)) ∧ PT X (.Compare a [copOf o1, copOf o2] [b, c] pos) (cOf X W (xChain o1 o2 ma mb mc)) := by
  constructor
  · exact PE_le (pe_chain (cmp_ok hu o1) (cmp_ok hu o2) ha hb hc hm) fun σ H Q ⟨env, h, Q0, X0, n, q, hq⟩ => ⟨env, h, _, X0, n, q, fun x h1 v1 H1 q1 t1 r1 p1 =>
      ⟨env, h1, _, X0, n.go t1 r1, q1, fun y h2 v2 H2 ⟨k, e, q2⟩ t2 r2 p2 => ⟨h2, x, y, k, r2, opd2 p1 t2 r1, p2.opd, e, k, rfl, by
        cases k with
        | false => exact hq _ _ _ _ q2 (t1.trans t2) r2 (.bl false)
        | true => exact ⟨env, h2, _, X0, (n.go t1 r1).go t2 r2, q2, fun z h3 v3 H3 ⟨k2, e2, q3⟩ t3 r3 p3 => ⟨h3, y, z, k2, r3, opd2 p2 t3 r2, p3.opd, e2, hq _ _ _ _ q3 ((t1.trans t2).trans t3) r3 (.bl k2)⟩⟩⟩⟩⟩
  · exact PT_le (pt_chain (cmp_ok hu o1) (cmp_ok hu o2) ha hb hc hm) fun σ H Q ⟨env, h, Q0, X0, n, q, hq⟩ => ⟨env, h, _, X0, n, q, fun x h1 v1 H1 q1 t1 r1 p1 =>
      ⟨env, h1, _, X0, n.go t1 r1, q1, fun y h2 v2 H2 ⟨k, e, q2⟩ t2 r2 p2 => ⟨h2, x, y, k, r2, opd2 p1 t2 r1, p2.opd, e, k, rfl, by
        cases k with
        | false =>
          obtain ⟨k', e', q2⟩ := q2
          cases (show some false = some k' from e')
          exact ⟨false, rfl, hq _ _ _ q2 (t1.trans t2) r2⟩
        | true => exact ⟨env, h2, _, X0, (n.go t1 r1).go t2 r2, q2, fun z h3 v3 H3 ⟨k2, e2, k', e', q3⟩ t3 r3 p3 => ⟨h3, y, z, k2, r3, opd2 p2 t3 r2, p3.opd, e2, k2, rfl, by
            cases (show some k2 = some k' from e')
            exact hq _ _ _ q3 ((t1.trans t2).trans t3) r3⟩⟩⟩⟩⟩
theorem s_isc (neg : Bool) (d : D) {v : V} (ha : PE X a (eOf X W ma)) (hb : PE X b (tC v)) (hd : ∀ H, Rep X.K X.mg H v d) :
    PE X (.Compare a [if neg then .IsNot else .Is] [b] pos) (eOf X W (xIsc neg ma d)) ∧ PT X (.Compare a [if neg then .IsNot else .Is] [b] pos) (cOf X W (xIsc neg ma d)) := by
  have hm : behindInMarks (if neg then .IsNot else .Is) b = false := by cases neg <;> exact nomark b
  constructor
  · exact PE_le (pe_cmpR (is_ok d neg) ha hb hm) fun σ H Q ⟨env, h, Q0, X0, n, q, hq⟩ => ⟨env, h, _, X0, n, q, fun x h1 v1 H1 ⟨k, e, q1⟩ t1 r1 p1 =>
      ⟨h1, x, k, r1, p1.opd, hd _, e, hq _ _ _ _ q1 t1 r1 (.bl _)⟩⟩
  · exact PT_le (pt_cmpR (is_ok d neg) ha hb hm) fun σ H Q ⟨env, h, Q0, X0, n, q, hq⟩ => ⟨env, h, _, X0, n, q, fun x h1 v1 H1 ⟨k, e, k', e', q1⟩ t1 r1 p1 =>
      ⟨h1, x, k, r1, p1.opd, hd _, e, _, rfl, by
        cases (show some (k != neg) = some k' from e')
        exact hq _ _ _ q1 t1 r1⟩⟩
theorem s_not (ha : PE X a (eOf X W ma) ∧ PT X a (cOf X W ma)) : PE X (.UnaryOp .Not a pos) (eOf X W (xNot ma)) ∧ PT X (.UnaryOp .Not a pos) (cOf X W (xNot ma)) := by
  constructor
  · exact PE_le (pe_notT ha.1) fun σ H Q ⟨env, h, Q0, X0, n, q, hq⟩ => ⟨env, h, _, X0, n, q, fun x h1 v1 H1 ⟨k, e, q1⟩ t1 r1 p1 => ⟨k, tru_V r1 p1.opd e, hq _ _ _ _ q1 t1 r1 (.bl _)⟩⟩
  · exact PT_le (pt_not ha.2) fun σ H Q ⟨env, h, Q0, X0, n, q, hq⟩ => ⟨env, h, fun k h1 => Q0 (!k) h1, X0, n, by
      simp only [tT, xNot, tru, gd_some] at q ⊢
      exact q, fun k h1 H1 q1 t1 r1 => hq _ _ _ q1 t1 r1⟩
theorem s_ite (hm : MX ma) (hm' : MX mb) (hc : PT X c (cOf X W mc)) (ha : PE X a (eOf X W ma) ∧ PT X a (cOf X W ma)) (hb : PE X b (eOf X W mb) ∧ PT X b (cOf X W mb)) : PE X (.IfExp c a b pos) (eOf X W (xIte mc ma mb)) ∧ PT X (.IfExp c a b pos) (cOf X W (xIte mc ma mb)) := by
  constructor
  · exact PE_le (pe_ifExp hc ha.1 hb.1) fun σ H Q ⟨env, h, Q0, X0, n, q, hq⟩ => ⟨env, h, _, X0, n, q, fun k h1 H1 q1 t1 r1 => by
      cases k with
      | true => exact ⟨env, h1, Q0, X0, n.go t1 r1, q1, fun r h2 v2 H2 q2 t2 r2 p2 => hq r h2 v2 H2 q2 (t1.trans t2) r2 (p2.back t1.grow)⟩
      | false => exact ⟨env, h1, Q0, X0, n.go t1 r1, q1, fun r h2 v2 H2 q2 t2 r2 p2 => hq r h2 v2 H2 q2 (t1.trans t2) r2 (p2.back t1.grow)⟩⟩
  · refine ⟨fun pins s σ H Q I ⟨env, h, Q0, X0, n, q, hq⟩ => ?_⟩
    refine isTrue_IfExp (thn (hc.run pins s σ H (fun k H1 => (if k = true then cOf X W ma else cOf X W mb) σ H1 Q) I ⟨env, h, _, X0, n, q, fun k h1 H1 q1 t1 r1 => ?_⟩) fun d s1 ⟨H1, I1, q1⟩ => ?_)
    · cases k with
      | true => exact ⟨env, h1, Q0, X0, n.go t1 r1, q1, fun r h2 H2 q2 t2 r2 => hq r h2 H2 q2 (t1.trans t2) r2⟩
      | false => exact ⟨env, h1, Q0, X0, n.go t1 r1, q1, fun r h2 H2 q2 t2 r2 => hq r h2 H2 q2 (t1.trans t2) r2⟩
    · cases d with
      | true => exact ha.2.run pins s1 σ H1 Q I1 q1
      | false => exact hb.2.run pins s1 σ H1 Q I1 q1
theorem s_one {op : BoolOp} (ha : PE X a (eOf X W ma) ∧ PT X a (cOf X W ma)) : PE X (.BoolOp op [a] pos) (eOf X W ma) ∧ PW X (.BoolOp op [a] pos) (cOf X W ma) := by
  constructor
  · exact pe_one ha.1
  · cases op with
    | And => exact pw_and1 ha.2
    | Or => exact pw_or1 ha.2
theorem s_and {rest : List Expr} (mm : MX ma) (ha : PE X a (eOf X W ma) ∧ PT X a (cOf X W ma)) (hb : PE X (.BoolOp .And (b :: rest) pos) (eOf X W mb) ∧ PW X (.BoolOp .And (b :: rest) pos) (cOf X W mb)) :
    PE X (.BoolOp .And (a :: b :: rest) pos) (eOf X W (xAnd ma mb)) ∧ PW X (.BoolOp .And (a :: b :: rest) pos) (cOf X W (xAnd ma mb)) := by
  constructor
  · exact PE_le (pe_andT ha.1 hb.1) fun σ H Q ⟨env, h, Q0, X0, n, q, hq⟩ => ⟨env, h, _, X0, n, q, fun x h1 v1 H1 ⟨k, e, q1⟩ t1 r1 p1 => ⟨k, tru_V r1 p1.opd e, by
      cases k with
      | true => exact ⟨env, h1, Q0, X0, n.go t1 r1, q1, fun r h2 v2 H2 q2 t2 r2 p2 => hq r h2 v2 H2 q2 (t1.trans t2) r2 (p2.back t1.grow)⟩
      | false => exact hq _ _ _ _ q1 t1 r1 p1⟩⟩
  · exact PW_le (pw_and ha.2 hb.2) fun σ H Q ⟨env, h, Q0, X0, n, q, hq⟩ => ⟨env, h, fun k h1 => if k = true then tT mb env h1 Q0 X0 else Q0 false h1, X0, n, by
      refine mm _ _ _ _ _ _ (fun x h1 q => ?_) (fun _ _ z => z) q
      obtain ⟨k, e, q⟩ := q
      refine ⟨k, e, ?_⟩
      cases k with
      | true => exact q
      | false =>
        obtain ⟨k', e', q⟩ := q
        rw [e] at e'
        cases e'
        exact q, fun k h1 H1 q1 t1 r1 => by
      cases k with
      | true => exact ⟨env, h1, Q0, X0, n.go t1 r1, q1, fun r h2 H2 q2 t2 r2 => hq r h2 H2 q2 (t1.trans t2) r2⟩
      | false => exact hq _ _ _ q1 t1 r1⟩
theorem s_or {rest : List Expr} (mm : MX ma) (ha : PE X a (eOf X W ma) ∧ PT X a (cOf X W ma)) (hb : PE X (.BoolOp .Or (b :: rest) pos) (eOf X W mb) ∧ PW X (.BoolOp .Or (b :: rest) pos) (cOf X W mb)) :
    PE X (.BoolOp .Or (a :: b :: rest) pos) (eOf X W (xOr ma mb)) ∧ PW X (.BoolOp .Or (a :: b :: rest) pos) (cOf X W (xOr ma mb)) := by
  constructor
  · exact PE_le (pe_orT ha.1 hb.1) fun σ H Q ⟨env, h, Q0, X0, n, q, hq⟩ => ⟨env, h, _, X0, n, q, fun x h1 v1 H1 ⟨k, e, q1⟩ t1 r1 p1 => ⟨k, tru_V r1 p1.opd e, by
      cases k with
      | false => exact ⟨env, h1, Q0, X0, n.go t1 r1, q1, fun r h2 v2 H2 q2 t2 r2 p2 => hq r h2 v2 H2 q2 (t1.trans t2) r2 (p2.back t1.grow)⟩
      | true => exact hq _ _ _ _ q1 t1 r1 p1⟩⟩
  · exact PW_le (pw_or ha.2 hb.2) fun σ H Q ⟨env, h, Q0, X0, n, q, hq⟩ => ⟨env, h, fun k h1 => if k = true then Q0 true h1 else tT mb env h1 Q0 X0, X0, n, by
      refine mm _ _ _ _ _ _ (fun x h1 q => ?_) (fun _ _ z => z) q
      obtain ⟨k, e, q⟩ := q
      refine ⟨k, e, ?_⟩
      cases k with
      | false => exact q
      | true =>
        obtain ⟨k', e', q⟩ := q
        rw [e] at e'
        cases e'
        exact q, fun k h1 H1 q1 t1 r1 => by
      cases k with
      | false => exact ⟨env, h1, Q0, X0, n.go t1 r1, q1, fun r h2 H2 q2 t2 r2 => hq r h2 H2 q2 (t1.trans t2) r2⟩
      | true => exact hq _ _ _ q1 t1 r1⟩
/-! ### arguments -/
/-- a made object becomes known -/
theorem rv_take {K : PySem.W.Frag} {M : Str → Option Value} {h0 h : AH} {H0 H : Hp} {v : V} {r : Rv} {Q0 : D → AH → Prop} (q : rv r h Q0) (t : Tr h0 H0 h H) (rel : RelH K M h H) (p : RepR K M H0 h H v r) :
    ∃ d h', Q0 d h' ∧ Tr h0 H0 h' H ∧ RelH K M h' H ∧ Rep K M H v d := by
  cases r with
  | v d => exact ⟨d, h, q, t, rel, p⟩
  | o x =>
    obtain ⟨a, rfl, n0, n, ro⟩ := p
    exact ⟨.loc a, put h a x, q a n, t.take n0, rel.take ro, .loc a⟩
theorem s_nil : PA X [] (aOf X W esNil) := PA_le pa_nil fun σ H Q ⟨env, h, Q0, X0, n, q, hq⟩ => hq _ _ _ _ q .refl n.rel .nil
theorem s_cons {es : List Expr} {ms : TEs} (ha : PE X a (eOf X W ma)) (hs : PA X es (aOf X W ms)) (hst : starEach (a :: es) X.env = (false, eval a X.env) :: starEach es X.env) : PA X (a :: es) (aOf X W (esCons ma ms)) :=
  PA_le (pa_cons ha hs hst) fun σ H Q ⟨env, h, Q0, X0, n, q, hq⟩ => ⟨env, h, _, X0, n, q, fun r h1 v1 H1 q1 t1 r1 p1 => by
    obtain ⟨d, h1', q1, t1', r1', p1'⟩ := rv_take q1 t1 r1 p1
    exact ⟨env, h1', _, X0, n.go t1' r1', q1, fun ds h2 vs H2 q2 t2 r2 p2 => hq _ _ _ _ q2 (t1'.trans t2) r2 (.cons (p1'.mono (t2.mn r1')) p2)⟩⟩
theorem s_tup {es : List Expr} {ms : TEs} {k : Nat} (hs : PA X es (aOf X W ms)) : PE X (.Tuple es k pos) (eOf X W (xTup ms)) :=
  PE_le (pe_tupX hs) fun σ H Q ⟨env, h, Q0, X0, n, q, hq⟩ => ⟨env, h, _, X0, n, q, fun ds h1 vs H1 ⟨z, q1⟩ t1 r1 p1 =>
    ⟨by rw [p1.length, sizeLine_eq]; exact z, Aft.newT (ds := ds) (aft_of hq t1 r1 q1) r1 p1⟩⟩
theorem s_lst {es : List Expr} {ms : TEs} (hs : PA X es (aOf X W ms)) : PE X (.List es pos) (eOf X W (xLst ms)) :=
  PE_le (pe_lst hs) fun σ H Q ⟨env, h, Q0, X0, n, q, hq⟩ => ⟨env, h, _, X0, n, q, fun ds h1 vs H1 ⟨z, q1⟩ t1 r1 p1 =>
    ⟨by rw [p1.length, sizeLine_eq]; exact z, fun p hp => Aft.newL (ds := ds) (aft_of hq t1 r1 q1) r1 hp p1⟩⟩
/-- one argument -/
theorem s_call1 {id : Value} {b : Bi} {r : List V → Hp → VK → Prop} {f : Expr} (hr : ∀ xs H Q, bi1 X.K X.mg b xs H Q → r xs H Q) (g : ∀ t : L2.TA, PA X [a] t → PE X f (tCB r t)) (ha : PE X a (eOf X W ma)) (hst : starEach [a] X.env = (false, eval a X.env) :: starEach [] X.env) :
    PE X f (eOf X W (xB1 b ma)) :=
  PE_le (g _ (pa_cons ha pa_nil hst)) fun σ H Q ⟨env, h, Q0, X0, n, q, hq⟩ => ⟨env, h, _, X0, n, q, fun x h1 v1 H1 ⟨r, e, q1⟩ t1 r1 p1 => hr _ _ _ ⟨v1, h1, x, r, rfl, r1, p1.opd, e, aft_of hq t1 r1 q1⟩⟩
theorem s_ix (ha : PE X a (eOf X W ma)) (hb : PE X b (eOf X W mb)) (hs : PlainIx b) : PE X (.Subscript a b pos) (eOf X W (xIx ma mb)) :=
  PE_le (pe_ix ix_ok ha hb hs) fun σ H Q ⟨env, h, Q0, X0, n, q, hq⟩ => ⟨env, h, _, X0, n, q, fun x h1 v1 H1 q1 t1 r1 p1 =>
    ⟨env, h1, _, X0, n.go t1 r1, q1, fun y h2 v2 H2 ⟨d, e, q2⟩ t2 r2 p2 => ⟨h2, x, y, d, r2, opd2 p1 t2 r1, p2.opd, e, fun v pv => hq _ _ _ _ q2 (t1.trans t2) r2 pv⟩⟩⟩
theorem s_oNo : PO X none (oOf X W oNo) := PO_le po_none fun σ H Q ⟨env, h, Q0, X0, n, q, hq⟩ => hq _ _ _ q .refl n.rel
theorem s_oSo (ha : PE X a (eOf X W ma)) : PO X (some a) (oOf X W (oSo ma)) := PO_le (po_some ha) fun σ H Q ⟨env, h, Q0, X0, n, q, hq⟩ => ⟨env, h, _, X0, n, q, fun x h1 v1 H1 ⟨i, e, q1⟩ t1 r1 p1 => by
    unfold asInt at e
    split at e
    · cases e
      cases p1
      exact ⟨_, rfl, hq _ _ _ q1 t1 r1⟩
    · cases e⟩
theorem s_sl {lo hi : Option Expr} {ml mh : TO} {p2 : Pos} (ha : PE X a (eOf X W ma)) (hl : PO X lo (oOf X W ml)) (hh : PO X hi (oOf X W mh)) : PE X (.Subscript a (.Slice lo hi none p2) pos) (eOf X W (xSl ma ml mh)) :=
  PE_le (pe_slice sl_ok ha hl hh) fun σ H Q ⟨env, h, Q0, X0, n, q, hq⟩ => ⟨env, h, _, X0, n, q, fun x h1 v1 H1 q1 t1 r1 p1 =>
    ⟨env, h1, _, X0, n.go t1 r1, q1, fun l h2 H2 q2 t2 r2 => ⟨env, h2, _, X0, (n.go t1 r1).go t2 r2, q2, fun u h3 H3 ⟨r, e, q3⟩ t3 r3 =>
      ⟨h3, x, r, r3, opd2 p1 (t2.trans t3) r1, e, aft_of hq ((t1.trans t2).trans t3) r3 q3⟩⟩⟩⟩
theorem s_sls {lo hi : Option Expr} {sp : Expr} {k : Int} {ml mh : TO} {p2 : Pos} (hk : stN sp = some k) (ha : PE X a (eOf X W ma)) (hl : PO X lo (oOf X W ml)) (hh : PO X hi (oOf X W mh)) : PE X (.Subscript a (.Slice lo hi (some sp) p2) pos) (eOf X W (xSls ma ml mh k)) :=
  PE_le (pe_sls hk ha hl hh) fun σ H Q ⟨env, h, Q0, X0, n, q, hq⟩ => ⟨env, h, _, X0, n, q, fun x h1 v1 H1 q1 t1 r1 p1 =>
    ⟨env, h1, _, X0, n.go t1 r1, q1, fun l h2 H2 q2 t2 r2 => ⟨env, h2, _, X0, (n.go t1 r1).go t2 r2, q2, fun u h3 H3 ⟨r, e, q3⟩ t3 r3 =>
      sls_ok r3 (opd2 p1 (t2.trans t3) r1) e (aft_of hq ((t1.trans t2).trans t3) r3 q3)⟩⟩⟩
end
end Py
namespace Py
open L2 PySem.Spec PySem PyProof.Rows
/-! ### len(set(..)) -/
theorem ddI_nd : ∀ (ns acc : List Int), acc.Nodup → (ns.foldl (fun acc x => if acc.any (· == x) then acc else acc ++ [x]) acc).Nodup
  | [], _, h => h
  | x :: r, acc, h => by
    rw [List.foldl_cons]
    refine ddI_nd r _ ?_
    split
    · exact h
    · rename_i e
      rw [List.nodup_append]
      refine ⟨h, by simp, fun a ha b hb z => ?_⟩
      rw [List.mem_singleton.mp hb] at z
      subst z
      exact e (List.any_eq_true.mpr ⟨a, ha, by simp⟩)
theorem ddI_mem : ∀ (ns acc : List Int) (y : Int), y ∈ ns.foldl (fun acc x => if acc.any (· == x) then acc else acc ++ [x]) acc ↔ y ∈ acc ∨ y ∈ ns
  | [], _, y => by simp
  | x :: r, acc, y => by
    rw [List.foldl_cons, ddI_mem r]
    split
    · rename_i e
      obtain ⟨z, hz, e2⟩ := List.any_eq_true.mp e
      have e3 : z = x := by simpa using e2
      subst e3
      constructor
      · rintro (h | h)
        · exact .inl h
        · exact .inr (List.mem_cons_of_mem _ h)
      · rintro (h | h)
        · exact .inl h
        · rcases List.mem_cons.mp h
              with rfl | h
          · exact .inl hz
          · exact .inr h
    · simp only [List.mem_append, List.mem_cons, List.not_mem_nil, or_false]
      constructor
      · rintro ((h | h) | h)
        · exact .inl h
        · exact .inr (.inl h)
        · exact .inr (.inr h)
      · rintro (h | h | h)
        · exact .inl (.inl h)
        · exact .inl (.inr h)
        · exact .inr h
theorem ddI_len {ns ks : List Int} (nd : ks.Nodup) (h : ∀ k, k ∈ ks ↔ k ∈ ns) : ks.length = (ddI ns).length := by
  have n2 : (ddI ns).Nodup := ddI_nd ns [] List.nodup_nil
  exact List.Perm.length_eq ((List.perm_ext_iff_of_nodup nd n2).mpr fun a => by rw [h]; unfold ddI; rw [ddI_mem]; simp)
theorem ddI_le (ns : List Int) : (ddI ns).length ≤ ns.length := by
  have key : ∀ (ns acc : List Int), (ns.foldl (fun acc x => if acc.any (· == x) then acc else acc ++ [x]) acc).length ≤ acc.length + ns.length := by
    intro ns
    induction ns with
    | nil => intro acc; simp
    | cons x r ih =>
      intro acc
      rw [List.foldl_cons]
      refine Nat.le_trans (ih _) ?_
      split
      · simp only
            [List.length_cons]; omega
      · simp only [List.length_append, List.length_cons, List.length_nil]; omega
  simpa [ddI] using key ns []
theorem firstMet_dd (ns : List Int) : ∀ i, i ≤ ns.length → PyProof.Rows.firstMet (fun i => ns.getD i 0) i = ddI (ns.take i) := by
  intro i
  induction i with
  | zero => intro _; rfl
  | succ i ih =>
    intro hi
    have hlt : i < ns.length :=
        hi
    have e1 :
        ns.getD i 0 = ns[i] := by
      rw [List.getD_eq_getElem?_getD,
          List.getElem?_eq_getElem hlt] <;> rfl
    have e2 :
        ns.take (i + 1) = ns.take i ++ [ns[i]] := by
      rw [List.take_add_one,
          List.getElem?_eq_getElem hlt] <;> rfl
    rw [PyProof.Rows.firstMet_succ, ih (by omega), e2, e1]
    unfold ddI
    rw [List.foldl_append]
    rfl
theorem ints_vals : ∀ {ns : List Int} {us : List Value}, Vals (ns.map V.int) us → PyProof.Rows.IntsAre us ns
  | [], _, .nil => .nil
  | n :: ns, _, .cons r t => by
    obtain ⟨k, rfl⟩ := r
    exact .cons n k (ints_vals t)
def tLens (K : PySem.W.Frag) (ta : TE) : TE := fun σ H Q => ta σ H fun x H1 => ∃ (l : Addr) (ns : List Int), x = .ref l ∧ (SqL K H1 l (ns.map V.int) ∨ SqT K H1 l (ns.map V.int)) ∧ ns.length < 4000 ∧ Q (.int ((ddI ns).length : Nat)) H1
theorem pe_lens {X : Cx} {a : Expr} {ta : TE} {p p2 q pos : Pos} (hc : X.calm = true) (hg : Gl X "len") (hm : X.mg "len" = none) (hg2 : Gl X "set") (hm2 : X.mg "set" = none) (ha : PE X a ta)
    (na : starEach [a] X.env = (false, eval a X.env) :: starEach [] X.env) : PE X (.Call (.Name "len" p) [.Call (.Name "set" p2) [a] [] q] [] pos) (tLens X.K ta) := by
  refine ⟨fun pins s σ H Q I h =>
      ?_⟩
  refine Call_ (ld_blt
      I hg hm boot_len ?_)
  refine PyProof.Rows.callWith_builtin1
      (PyProof.Rows.args_cons ?_ rfl) rfl rfl
  refine Call_ (ld_blt
      I hg2 hm2 boot_set ?_)
  refine PyProof.Rows.callWith_type1 (PyProof.Rows.args_cons (thn (ha.run pins s σ H _ I h) fun v s1 ⟨x, H1, I1, r1, q1⟩ =>
      PyProof.Rows.args_nil ?_) na) na rfl
  obtain ⟨l, ns, rfl, hq, hl, q1⟩ := q1
  cases r1
  have fl := ddI_le ns
  rcases hq with hq | hq
  · obtain ⟨its, r, pl, hz⟩ :=
        I1.list hq
    have hlen : its.toArray.size = ns.length :=
        by rw [List.size_toArray, ← r.length, List.length_map]
    refine call_set_list (I1.ok.hd hc) pl.isList (by simpa using ints_vals r) (by rw [hlen]; unfold scanBound; omega) fun h' tk hS hk => ?_
    refine PyProof.Rows.args_nil
        ?_
    rw [hlen, firstMet_dd ns ns.length (Nat.le_refl _), List.take_length] at hS
    obtain ⟨o, es, ep, t, ho, hex, hd, _, _, _, hf, hn⟩ :=
        hS
    have I2 : Inv X pins σ H1 { s1 with heap := h', toks := tk } := I1.kept fun b o e =>
        hk b o (Heap.lt_size e) e
    exact call_len_set ho hex hd hf (by rw [hn]; omega) ⟨.int (ddI ns).length, H1, I2.tok _, ⟨_, by rw [hn]⟩, q1⟩
  · obtain ⟨its, r, pl, hz⟩ :=
        I1.tuple hq
    refine call_set_tupI ns (I1.ok.hd hc) pl (by simpa using ints_vals r) (by unfold scanBound; omega) fun h' tk c R hcl hk => ?_
    refine PyProof.Rows.args_nil
        ?_
    obtain ⟨o, es, ep, t, ho, hex, hd, _, nd, hm, _, hf, hn, _, _⟩ := R
    have hcn : es.size = (ddI ns).length := by
      have e1 := ddI_len (ns := ns) nd fun k => by rw [← hm k]; simp
      rw [List.length_map, Array.length_toList] at e1
      exact e1
    have I2 : Inv X pins σ H1 { s1
        with heap := h', toks := tk } := I1.kept hk
    exact call_len_set ho hex hd hf (by rw [hcn]; omega) ⟨.int (ddI ns).length, H1, I2.tok _, ⟨_, by rw [hcn]⟩, q1⟩
theorem setA_eq {sc : Scope} {x : Str} {a b : Expr} (h : setA sc x a = some b) : x = "len" ∧ ∃ p2 q, a = .Call (.Name "set" p2) [b] [] q ∧ gloB sc "set" = true := by
  unfold setA at h
  split at h
  · rename_i e
    refine ⟨e, ?_⟩
    split at h
    · split at h
      · rename_i e2
        cases h
        obtain ⟨rfl, e3⟩ := e2
        exact ⟨_, _, rfl, e3⟩
      · cases h
    · cases h
  · cases h
section
variable {X : Cx} {W : WX} {a : Expr} {ma : TX} {p p2 q pos : Pos}
theorem s_lens (hc : X.calm = true) (hg : Gl X "len") (hm : X.mg "len" = none) (hg2 : Gl X "set") (hm2 : X.mg "set" = none) (ha : PE X a (eOf X W ma))
    (na : starEach [a] X.env = (false, eval a X.env) :: starEach [] X.env) : PE X (.Call (.Name "len" p) [.Call (.Name "set" p2) [a] [] q] [] pos) (eOf X W (xB1 .lens ma)) :=
  PE_le (pe_lens hc hg hm hg2 hm2 ha na) fun σ H Q ⟨env, h, Q0, X0, n, q, hq⟩ => ⟨env, h, _, X0, n, q, fun x h1 v1 H1 ⟨r, e, q1⟩ t1 r1 p1 => by
    have fin : ∀ {xs : List D} {ns : List Int}, intsL xs = some ns → lensI xs = some r → ns.length < 4000 ∧ r = .v (.int (ddI ns).length) := fun e1 e2 => by
      unfold lensI at e2
      rw [e1, Option.bind_some] at e2
      split at e2
      · rename_i hl
        cases e2
        exact ⟨hl, rfl⟩
      · cases e2
    have inLs : ∀ {xs : List D}, lensI xs = some r → ∃ ns, intsL xs = some ns := fun e2 => by
      unfold lensI at e2
      cases ei : intsL _ with
      | some ns => exact ⟨ns, rfl⟩
      | none => rw [ei] at e2; cases e2
    dsimp only [b1D] at e
    split at e
    · rename_i xs
      obtain ⟨ns, en⟩ := inLs e
      obtain ⟨hl, rfl⟩ := fin en e
      cases p1.opd with
      | tup s1 r2 =>
        obtain ⟨rfl, _⟩ := r2.ints en
        exact ⟨_, ns, rfl, .inr s1.sq, hl, (aft_of hq t1 r1 q1).v r1 (.int _)⟩
    · split at e
      · rename_i xs ex
        obtain ⟨ns, en⟩ := inLs e
        obtain ⟨hl, rfl⟩ := fin en e
        obtain ⟨l, vs, rfl, hS, r2⟩ := opd_ls p1.opd r1 ex
        obtain ⟨rfl, _⟩ := r2.ints en
        exact ⟨l, ns, rfl, .inl hS, hl, (aft_of hq t1 r1 q1).v r1 (.int _)⟩
      · cases e⟩
end
end Py
namespace Py
open L2 PySem.Spec PySem PyProof.Rows
/-! ### sorted(set(..)) of a list of ints -/
/-- a set that is just made -/
def nob (w : World) : Obj := { cls := .type "set", dict := none, data := .set #[] 0 (.fresh 0 0 (!w.params.followText "set-order")) }
section
variable {P : Program} {w : World} {A : Around} {E : Value → Shared → Prop}
/-- a new set is filled from a list -/
theorem fill_set {s : Shared} {l a : Addr} {items : Array Value} {ns : List Int} {Q : PySem.Fin → Shared → Prop} (hh : A.handled = none) (ha : s.heap.get? a = some (nob w)) (hl : s.heap.IsList l items) (hi : IntsAre items.toList ns) (hb : ns.length + 1 < scanBound)
    (q : ∀ (h' : Heap) (tk c : Nat), SetR w h' a (fun j => decide (j ∈ ns)) c → c ≤ ns.length → (∀ b o, b ≠ a → s.heap.get? b = some o → h'.get? b = some o) → wpAny (model P w) A (ret Value.none) Q E { s with heap := h', toks := tk }) :
    wpAny (model P w) A (Builtin.«set.__init__» ⟨[.ref a, .ref l], []⟩) Q E s := by
  obtain ⟨ol, hol, hcl, nl, hdl⟩ := hl
  have notSet := F.sub_list_set
  have notFrz := F.sub_list_frozenset
  have notDict : (Value.type "list" == Value.type "dict") = false := by decide
  obtain ⟨ocls, odict, odata, oslots⟩ :=
      ol
  simp only at hcl hdl
  subst hcl hdl
  have isl : s.heap.IsList l items := ⟨_, hol, rfl, nl, rfl⟩
  unfold Builtin.«set.__init__»
      noKeywords Builtin.Frozenset.updateFrom
  generalize epi : pyIter = PI
  wp_walk
  subst epi
  have la : l < s.heap.objs.size := Heap.lt_size hol
  have aa : a < s.heap.objs.size := Heap.lt_size ha
  have ne : a ≠ l := fun e => by
    rw [e, hol] at ha
    have : Value.type "list" = Value.type "set" := congrArg Obj.cls (Option.some.inj ha)
    exact absurd this (by decide)
  have cnt : items.size = ns.length := by rw [← hi.length, Array.length_toList]
  refine wpAny_pyIter_list isl (wpAny_bind (wpAny_runValue ?_))
  refine set_update_ints ((Walks.list (by simp [hh]) _ l (Nat.ne_of_lt la) items).toS) a ?_ ns cnt hb (fun i v hv => ?_) items.size 0 _ (by omega) (Nat.zero_le _) ⟨⟨_, Heap.get?_push_size _ rfl, rfl, rfl⟩, isl.push _⟩ ⟨0, Nat.le_refl 0, setR_new_at (Heap.get?_push_of_some _ ha)⟩ fun s' c m hc hS => ?_
  · simp only [List.mem_cons, List.not_mem_nil, or_false, not_or]
    exact ⟨Nat.ne_of_lt aa, ne⟩
  · have hlt : i < ns.length := cnt ▸ (Array.getElem?_eq_some_iff.mp hv).1
    obtain ⟨t, e⟩ := hi.int_at i v (by rw [Array.getElem?_toList]; exact hv)
    exact ⟨ns[i], t, List.getElem?_eq_getElem hlt, by rw [e]; simp [hlt]⟩
  · obtain ⟨h', g2, d', tk', os'⟩ := s'
    obtain rfl : g2 = s.gens := m.gens
    obtain rfl : d' = s.drawn := m.drawn
    obtain rfl : os' = s.os := m.os
    show wpAny (model P w) A (pure ()) _ E _
    refine wpAny_pure (q h' tk' c hS (cnt ▸ hc) fun b o nb e => m.heap b o ?_ (Heap.get?_push_of_some _ e))
    simp only [List.mem_cons, List.not_mem_nil, or_false, not_or]
    exact ⟨nb, Nat.ne_of_lt (Heap.lt_size e)⟩
theorem call_setL {s : Shared} {l : Addr} {items : Array Value} {ns : List Int} {Q : Value → Shared → Prop} (hh : A.handled = none) (hl : s.heap.IsList l items) (hi : IntsAre items.toList ns) (hb : ns.length + 1 < scanBound)
    (q : ∀ (h' : Heap) (tk c : Nat), SetR w h' s.heap.objs.size (fun j => decide (j ∈ ns)) c → c ≤ ns.length → (∀ b o, s.heap.get? b = some o → h'.get? b = some o) → Q (.ref s.heap.objs.size) { s with heap := h', toks := tk }) :
    wpAny (model P w) A (call (.type
        "set") [.ref l]) Q E s := by
  have r0 := F.called_set.made
  have r1 := F.called_set.sub
  have r2 := F.called_set.notType
  have r3 := F.called_set.canCreate
  have r4 := F.typeCall_set_1 (.ref l)
  obtain ⟨c, tl, r5⟩ := F.called_set.mro
  refine wpAny_call (codeAny_of_tree (wpAny_pure ⟨Code.quiet_builtin _ (by decide +kernel), codeAny_builtin F.entry_type_call ?_⟩))
  rw [Around.under_plain (weight_type_call_type
      "set" [.ref l] []) rfl]
  repeat (any_goals (first
      | assumption | wp_step))
  refine codeAny_mono (code_set_led1 (.ref l) (E := E) (Q₁ := fun v s1 => v = .ref s.heap.objs.size ∧ s1 = { s with heap := s.heap.push (nob w) }) ⟨rfl, rfl⟩) fun r s1 z => ?_
  match r, z with
  | .error e, z => exact z
  | .ok (.ret v), z =>
    obtain ⟨rfl, rfl⟩ := z
    have new : (s.heap.push (nob w)).get? s.heap.objs.size = some (nob w) := Heap.get?_push_size _ rfl
    have ty : Shared.TypeIs { s with heap := s.heap.push (nob w) } (.ref s.heap.objs.size) "set" := ⟨_, new, rfl⟩
    have i0 := F.called_set.init.lookup
    have i1 := F.called_set.init.bind (.ref s.heap.objs.size)
    repeat (any_goals (first
        | assumption | wp_step))
    refine codeAny_call_builtin F.called_set.init.plain F.entry_set_init (check_set_init_1 ty (fill_set (by simp [hh]) new (hl.push _) hi hb fun h' tk c R hc kp => wpAny_pure ?_))
    repeat (any_goals (first
        | assumption | wp_step))
    exact q _ _ _ R hc fun b o e => kp b o (Nat.ne_of_lt (Heap.lt_size e)) (Heap.get?_push_of_some _ e)
end
theorem setB_eq {sc : Scope} {x : Str} {a b : Expr} (h : setB sc x a = some b) : x = "sorted" ∧ ∃ p2 q, a = .Call (.Name "set" p2) [b] [] q ∧ gloB sc "set" = true := by
  unfold setB at h
  split at h
  · rename_i e
    refine ⟨e, ?_⟩
    split at h
    · split at h
      · rename_i e2
        cases h
        obtain ⟨rfl, e3⟩ := e2
        exact ⟨_, _, rfl, e3⟩
      · cases h
    · cases h
  · cases h
theorem ddI_in {ns : List Int} {y : Int} : y ∈ ddI ns ↔ y ∈ ns := by
  unfold ddI
  rw [ddI_mem]
  simp
theorem sset_eq {ns ms : List Int} (hs : ms.Pairwise (· < ·)) (hm : ∀ k, k ∈ ms ↔ k ∈ ns) : ms = sortI (ddI ns) := by
  have nd : ms.Nodup := hs.imp fun h e => by omega
  have n2 : (ddI ns).Nodup := ddI_nd ns [] List.nodup_nil
  have p : ms.Perm (ddI ns) := (List.perm_ext_iff_of_nodup nd n2).mpr fun a => by rw [hm, ddI_in]
  exact sorted_eq (p.trans (sortI_perm _).symm) (hs.imp fun h => Int.le_of_lt h) (sortI_sorted _)
def tSset (K : PySem.W.Frag) (ta : TE) : TE := fun σ H Q => ta σ H fun x H1 => ∃ (l : Addr) (ns : List Int), x = .ref l ∧ SqL K H1 l (ns.map V.int) ∧ ns.length < 64 ∧ ∀ p, H1 p = none → Q (.ref p) (upd H1 p (.lst ((sortI (ddI ns)).map V.int)))
section
variable {X : Cx} {W : WX} {a : Expr} {ma : TX} {ta : TE} {p p2 q pos : Pos}
theorem pe_sset (hc : X.calm = true) (hg : Gl X "sorted") (hm : X.mg "sorted" = none) (hg2 : Gl X "set") (hm2 : X.mg "set" = none) (ha : PE X a ta)
    (na : starEach [a] X.env = (false, eval a X.env) :: starEach [] X.env) : PE X (.Call (.Name "sorted" p) [.Call (.Name "set" p2) [a] [] q] [] pos) (tSset X.K ta) := by
  refine ⟨fun pins s σ H Q I h => Call_ (ld_blt I hg hm boot_sorted ?_)⟩
  refine callWith_builtin1 (args_cons (Call_ (ld_blt I hg2 hm2 boot_set ?_)) rfl) rfl rfl
  refine callWith_type1 (args_cons (thn (ha.run pins s σ H _ I h) fun v s1 ⟨x, H1, I1, r1, l, ns, e1, hq, hl, q1⟩ => args_nil ?_) na) na rfl
  subst e1
  cases r1
  obtain ⟨its, r, pl, hz⟩ :=
      I1.list hq
  have hlen : its.length = ns.length := by rw [← r.length, List.length_map]
  refine call_setL (I1.ok.hd hc) pl.isList (by simpa using ints_vals r) (by unfold scanBound; omega) fun h' tk c R cl hk => args_nil ?_
  have I2 : Inv X pins σ H1 { s1
      with heap := h', toks := tk } := I1.kept hk
  replace R : SetR X.w ({ s1 with heap := h', toks := tk } : Shared).heap s1.heap.objs.size (fun j => decide (j ∈ ns)) c := R
  generalize ({ s1 with heap := h', toks := tk } : Shared) = s2 at I2 R
  refine sorted_set R (I2.ok.hd hc) (by omega) fun s' p out c2 ms k g o hp hgt hi hs hm hl2 => ?_
  have free : H1 p = none := I2.hok.fresh hp
  have em : ms = sortI (ddI ns) := sset_eq hs fun z => by rw [hm z, decide_eq_true_iff]
  subst em
  have few : ((sortI (ddI ns)).map V.int).length ≤ sizeLine := by rw [List.length_map, hl2, sizeLine_eq]; omega
  have J : Inv X pins σ (upd H1 p (.lst ((sortI (ddI ns)).map V.int))) { s2 with heap := s'.heap, gens := s'.gens, drawn := s'.drawn, toks := s'.toks } :=
    I2.call (ch := []) (Un.laid k hp free) (I2.hok.laid k hp ⟨few, out.toList, c2, vals_of_ints hi, hgt⟩) (by rw [g]; exact I2.bare) (fun _ z => nomatch z)
  obtain ⟨hp', g', d', t', o'⟩ := s'
  obtain rfl : o' = s2.os := o
  exact ⟨.ref p, _, J, rfl, q1 p free⟩
theorem s_sset (hc : X.calm = true) (hg : Gl X "sorted") (hm : X.mg "sorted" = none) (hg2 : Gl X "set") (hm2 : X.mg "set" = none) (ha : PE X a (eOf X W ma))
    (na : starEach [a] X.env = (false, eval a X.env) :: starEach [] X.env) : PE X (.Call (.Name "sorted" p) [.Call (.Name "set" p2) [a] [] q] [] pos) (eOf X W (xB1 .sset ma)) :=
  PE_le (pe_sset hc hg hm hg2 hm2 ha na) fun σ H Q ⟨env, h, Q0, X0, n, q, hq⟩ => ⟨env, h, _, X0, n, q, fun x h1 v1 H1 ⟨r, e, q1⟩ t1 r1 p1 => by
    dsimp only [b1D] at e
    split at e
    · rename_i xs ex
      unfold ssetI at e
      obtain ⟨ns, en, e⟩ := Option.bind_eq_some_iff.mp e
      split at e
      · rename_i hl
        cases e
        obtain ⟨l, vs, rfl, hS, r2⟩ := opd_ls p1.opd r1 ex
        obtain ⟨rfl, _⟩ := r2.ints en
        exact ⟨l, ns, rfl, hS, hl, fun p hp => Aft.newL (aft_of hq t1 r1 q1) r1 hp (Reps.ofInts _)⟩
      · cases e
    · cases e⟩
end
end Py
namespace Py
open L2 PySem.Spec PySem PyProof.Rows
/-! ### shapes that no step minds -/
def plainE : Expr → Bool
  | .Starred .. => false
  | .Slice .. => false
  | .Set .. => false
  | .Call (.Name x _) _ _ _ => okN x
  | _ => true
theorem plain_star {e : Expr} (h : plainE e = true) (es : List Expr) (env : PySem.Env) : starEach (e :: es) env = (false, eval e env) :: starEach es env := by
  cases e <;> first | rfl | cases h
theorem plain_ix {e : Expr} (h : plainE e = true) : PlainIx e := by
  intro o i
  cases e <;> first | rfl | cases h
theorem plain_mark {e : Expr} (h : plainE e = true) (op : CmpOp) : behindInMarks op e = false := by
  cases e <;> first | rfl | cases h
theorem plain_fold {e : Expr} (h : plainE e = true) (env : PySem.Env) (x : Value) : foldedSetIterable e env x = pure x := by
  cases e <;> first | rfl | cases h
theorem plain_base {e : Expr} (h : plainE e = true) (m : Str) (env : PySem.Env) : attributeBase e m env (eval e env) = eval e env := by
  unfold attributeBase
  split
  · rename_i id np pos
    have h1 : okN id = true := h
    have h2 : (id != "super") = true := by
      unfold okN at h1
      simp only [Bool.and_eq_true]
          at h1
      exact h1.1.1.1
    simp only [h2, Bool.true_or, if_true]
  · rfl
theorem star_all {es : List Expr} (h : ∀ e ∈ es, plainE e = true) (env : PySem.Env) : ∀ x ∈ starEach es env, x.1 = false := by
  induction es with
  | nil => intro x hx; cases hx
  | cons e es ih =>
    rw [plain_star (h e List.mem_cons_self)]
    intro x hx
    cases hx with
    | head => rfl
    | tail _ hx => exact ih (fun e he => h e (List.mem_cons_of_mem _ he)) x hx
theorem back_any {es : List Expr} (h : ∀ e ∈ es, plainE e = true) (env : PySem.Env) (pos : Pos) : (backTo pos (starEach es env)).any (·.1) = false := by
  rw [List.any_eq_false]
  intro x hx
  obtain ⟨y, hy, rfl⟩ :=
      List.mem_map.mp hx
  simp [star_all h env y hy]
theorem back_few {es : List Expr} (h : ∀ e ∈ es, plainE e = true) (env : PySem.Env) (pos : Pos) (hl : es.length < 30) : ((backTo pos (starEach es env)).all (fun x => !x.1) && (backToKw pos (keywordEach [] env)).all (fun x => x.1.isSome)
      && decide (es.length + ([] : List Keyword).length + (if ([] : List Keyword).isEmpty then 0 else 1) < 30)) = true := by
  have h1 : (backTo pos (starEach es env)).all (fun x => !x.1) = true := by
    rw [List.all_eq_true]
    intro x hx
    obtain ⟨y, hy, rfl⟩ :=
        List.mem_map.mp hx
    simp [star_all h env y hy]
  rw [h1]
  simp [keywordEach, backToKw, hl]
/-! ### calls of defs -/
def spOf (K : PySem.W.Frag) (M : Str → Option Value) (cal : Cal) (f : Str) (np : Nat) : Sp := fun vs H Q E => vs.length = np ∧ ∃ h ds Q0 X0, RelH K M h H ∧ Reps K M H vs ds ∧ cal f ds h Q0 X0 ∧
  (∀ d h' v H', Q0 d h' → Tr h H h' H' → RelH K M h' H' → Rep K M H' v d → Q v H') ∧ ∀ c h' H' d a, X0 c h' → Tr h H h' H' → RelH K M h' H' → M c = some (.ref a) → E (.ref a) d H'
/-- a def is as the abstract reading says, to n levels -/
structure FnA (pr : Program) (w : World) (K : PySem.W.Frag) (M : Str → Option Value) (base : Heap) (P : Prog) (n : Nat) (f : Str) (fa : Addr) (fd : FuncData) (ps : List Str) : Prop where
  ok : FnOk pr w K M base (L2.CX pr w) n fa fd ps (spOf K M (wC P n) f ps.length)
  np : ∀ c, P.fn f = some c → ps.length = c.np
  mg : M f = some (.ref fa)
  keep : PySem.W.keepIn K (.ref fa) = true
  binds : Binds K fd ps []
abbrev FnAt (X : Cx) : Prog → Nat → Str → Addr → FuncData → List Str → Prop := FnA X.prog X.w X.K X.mg X.base
/-- the sight of a body -/
structure Sit (P : Prog) (n : Nat) (X : Cx) (W : WX) : Prop where
  calm : X.calm = true
  nd : X.N.Nodup
  room : Room n X.A
  blt : ∀ x, bltB x = true → X.mg x = none
  glo : ∀ x d, P.gl x = some d → ∃ v u, X.mg x = some u ∧ RelV v u ∧ ∀ H, Rep X.K X.mg H v d
  fns : ∀ f, P.fn f ≠ none → ∃ fa fd ps, FnAt X P n f fa fd ps
  gfn : ∀ f, isFn P.gl f → P.fn f ≠ none
  tk : Takes X W
theorem wC_len {P : Prog} : ∀ {n : Nat} {f : Str} {ds : List D} {h : AH} {Q : D → AH → Prop} {X : Xc}, wC P n f ds h Q X → ∃ c, P.fn f = some c ∧ ds.length = c.np
  | n + 1, f, ds, h, Q, X, ⟨c, e, l, _⟩ => ⟨c, e, l⟩
section
variable {X : Cx} {W : WX} {P : Prog} {n : Nat} {f x : Str} {es : List Expr} {ms : TEs} {p pos : Pos}
theorem pe_callS0 {CX : CXT} {k : Nat} {fa : Addr} {fd : FuncData} {ps : List Str} {sp : Sp} {E : L2.St → XK} (F : FnOk X.prog X.w X.K X.mg X.base CX k fa fd ps sp) (hr : Room k X.A) (hg : Gl X x) (hm : X.mg x = some (.ref fa)) (hk : PySem.W.keepIn X.K (.ref fa) = true)
    (hb : Binds X.K fd ps []) (hx : ∀ σ, PassesAt CX X σ (E σ)) (hdb : (x == ("__debug__" : Str)) = false) : PE X (.Call (.Name x p) [] [] pos) (tCallS sp E tNil) :=
  ⟨fun pins s σ H Q I h => wpAny_Call_Name_kw (ld_glob I hg hm (PySem.W.callWith_K0 I.kIn hk (run_fnS (us := []) F hr hb (hx σ) I .nil h)) hdb)⟩
theorem Sit.sp (S : Sit P n X W) {σ : L2.St} {H H1 : Hp} {h h1 : AH} {env : Env} {X0 : Xc} {Q0 : Rv → AH → Prop} {Q : VK} {ds : List D} {vs : List V} {fa : Addr} {fd : FuncData} {ps : List Str} (F : FnAt X P n f fa fd ps)
    (nw : Now X.K X.mg W σ env h H X0) (t1 : Tr h H h1 H1) (r1 : RelH X.K X.mg h1 H1) (p1 : Reps X.K X.mg H1 vs ds) (q : wC P n f ds h1 (fun d h2 => Q0 (.v d) h2) X0)
    (hq : ∀ r h' v H', Q0 r h' → Tr h H h' H' → RelH X.K X.mg h' H' → RepR X.K X.mg H h' H' v r → Q v H') : spOf X.K X.mg (wC P n) f ps.length vs H1 Q (WE W σ) := by
  obtain ⟨c, e, l⟩ := wC_len q
  exact ⟨by rw [p1.length, l, F.np c e], h1, ds, _, X0, r1, p1, q, fun d h2 v H2 q2 t2 r2 p2 => hq _ _ _ _ q2 (t1.trans t2) r2 p2, fun c h2 H2 d a x0 t2 r2 e => nw.xo c h2 H2 d a x0 (t1.trans t2) r2 e⟩
theorem s_call (S : Sit P n X W) (hf : P.fn f ≠ none) (hg : Gl X f) (hdb : (f == ("__debug__" : Str)) = false) (hp : ∀ e ∈ es, plainE e = true) (hs : PA X es (aOf X W ms)) (h0 : es = [] → ms = esNil) :
    PE X (.Call (.Name f p) es [] pos) (eOf X W (xCall (wC P n) f ms)) := by
  obtain ⟨fa, fd, ps, F⟩ := S.fns f hf
  cases es with
  | nil =>
    rw [h0 rfl]
    exact PE_le (pe_callS0 (E := WE W) F.ok S.room hg F.mg F.keep F.binds (passAt S.tk) hdb) fun σ H Q ⟨env, h, Q0, X0, nw, q, hq⟩ => S.sp F nw .refl nw.rel .nil q hq
  | cons e es =>
    exact PE_le (pe_callS (E := WE W) F.ok S.room hg F.mg F.keep F.binds (passAt S.tk) hs hdb (plain_star (hp e List.mem_cons_self) es X.env) (back_any (fun e he => hp e (List.mem_cons_of_mem _ he)) _ _))
      fun σ H Q ⟨env, h, Q0, X0, nw, q, hq⟩ => ⟨env, h, _, X0, nw, q, fun ds h1 vs H1 q1 t1 r1 p1 => S.sp F nw t1 r1 p1 q1 hq⟩
/-- a def that a slot holds -/
theorem s_callv {i : Nat} {e : Expr} (S : Sit P n X W) (hN : X.N[i]? = some x) (hv : Vis X.env.scope x) (hdb : (x == ("__debug__" : Str)) = false) (hcd : (x == ("__classdict__" : Str)) = false) (hp : ∀ a ∈ e :: es, plainE a = true) (hs : PA X (e :: es) (aOf X W ms)) :
    PE X (.Call (.Name x p) (e :: es) [] pos) (eOf X W (xCallv (wC P n) P.gl i ms)) := by
  refine ⟨fun pins s σ H Q I ⟨env, h, Q0, X0, nw, ⟨f, ef, hG, q⟩, hq⟩ => ?_⟩
  obtain ⟨d, e1, e2⟩ := Option.bind_eq_some_iff.mp ef
  obtain ⟨v, e3, rp⟩ := nw.rs.lk e1
  have e4 : d = .fn f := by
    unfold asFn at e2
    split at e2
    · cases e2; rfl
    · cases e2
  subst e4
  cases rp with
  | @fn a _ hm =>
  refine wpAny_Call_Name_kw (thn ((pe_var (pos := p) hN hv hdb hcd).run pins s σ H (fun v H1 => v = .ref a ∧ H1 = H) I ⟨.ref a, e3, rfl, rfl⟩) fun u s1 ⟨v, H1, I1, r1, q1⟩ => ?_)
  obtain ⟨rfl, rfl⟩ := q1
  cases r1
  · obtain ⟨fa, fd, ps, F⟩ := S.fns f (S.gfn f hG)
    have ea : a = fa := by
      have := hm.symm.trans F.mg
      injection this with this
      injection this
    subst ea
    exact PySem.W.callWith_K (h₀ := X.base) I.ok.mod.kin F.keep (thn (hs.run pos pins s1 σ _ (fun vs H2 => spOf X.K X.mg (wC P n) f ps.length vs H2 Q (WE W σ)) I1 ⟨env, h, _, X0, nw, q, fun ds h1 vs H1 q1 t1 r1 p1 => S.sp F nw t1 r1 p1 q1 hq⟩)
      fun us s2 ⟨vs, H2, I2, r, q⟩ => ⟨I2.kIn, run_fnS F.ok S.room F.binds (passAt S.tk σ) I2 r q⟩) (plain_star (hp e List.mem_cons_self) es X.env) (back_any (fun e he => hp e (List.mem_cons_of_mem _ he)) _ _)
end
end Py
namespace Py
open L2 PySem.Spec PySem PyProof.Rows
/-! ### built-ins -/
section
variable {X : Cx} {W : WX} {P : Prog} {n : Nat} {x : Str} {a b c : Expr} {ma mb mc : TX} {es : List Expr} {ms : TEs} {p pos : Pos}
theorem bltG (S : Sit P n X W) (h : bltB x = true) : X.mg x = none := S.blt x h
theorem s_b1 (S : Sit P n X W) {k : Bi} (hk : b1N x = some k) (hg : Gl X x) (hp : plainE a = true) (ha : PE X a (eOf X W ma)) : PE X (.Call (.Name x p) [a] [] pos) (eOf X W (xB1 k ma)) := by
  have hst := plain_star hp [] X.env
  unfold b1N at hk
  by_cases e : x = "len"
  · subst e
    cases (show some _ = some k from hk)
    have hm := S.blt "len" (by decide +kernel)
    exact s_call1 (id := .builtin "len") (fun _ _ _ z => z) (fun t h => pe_callB len_ok hg hm (by decide +kernel) h (by decide) (by decide) hst rfl) ha hst
  rw [if_neg e] at hk
  by_cases e : x = "int"
  · subst e
    cases (show some _ = some k from hk)
    have hm := S.blt "int" (by decide +kernel)
    exact s_call1 (id := .builtin "len") (fun _ _ _ z => z) (fun t h => pe_callTy int_ok1 hg hm (by decide +kernel) h (by decide) (by decide) hst rfl) ha hst
  rw [if_neg e] at hk
  by_cases e : x = "bool"
  · subst e
    cases (show some _ = some k from hk)
    have hm := S.blt "bool" (by decide +kernel)
    exact s_call1 (id := .builtin "len") (fun _ _ _ z => z) (fun t h => pe_callTy bool_ok1 hg hm (by decide +kernel) h (by decide) (by decide) hst rfl) ha hst
  rw [if_neg e] at hk
  by_cases e : x = "str"
  · subst e
    cases (show some _ = some k from hk)
    have hm := S.blt "str" (by decide +kernel)
    exact s_call1 (id := .builtin "len") (fun _ _ _ z => z) (fun t h => pe_callTy str_ok1 hg hm (by decide +kernel) h (by decide) (by decide) hst rfl) ha hst
  rw [if_neg e] at hk
  by_cases e : x = "tuple"
  · subst e
    cases (show some _ = some k from hk)
    have hm := S.blt "tuple" (by decide +kernel)
    exact s_call1 (id := .builtin "len") (fun _ _ _ z => z) (fun t h => pe_callTy tup_ok1 hg hm (by decide +kernel) h (by decide) (by decide) hst rfl) ha hst
  rw [if_neg e] at hk
  by_cases e : x = "list"
  · subst e
    cases (show some _ = some k from hk)
    have hm := S.blt "list" (by decide +kernel)
    exact s_call1 (id := .builtin "len") (fun _ _ _ z => z) (fun t h => pe_callTy lst_ok1 hg hm (by decide +kernel) h (by decide) (by decide) hst rfl) ha hst
  rw [if_neg e] at hk
  by_cases e : x = "abs"
  · subst e
    cases (show some _ = some k from hk)
    have hm := S.blt "abs" (by decide +kernel)
    exact s_call1 (id := .builtin "len") (fun _ _ _ z => z) (fun t h => pe_callB abs_ok1 hg hm (by decide +kernel) h (by decide) (by decide) hst rfl) ha hst
  rw [if_neg e] at hk
  by_cases e : x = "any"
  · subst e
    cases (show some _ = some k from hk)
    have hm := S.blt "any" (by decide +kernel)
    exact s_call1 (id := .builtin "len") (fun _ _ _ z => z) (fun t h => pe_callB (any_ok1 S.calm) hg hm (by decide +kernel) h (by decide) (by decide) hst rfl) ha hst
  rw [if_neg e] at hk
  by_cases e : x = "all"
  · subst e
    cases (show some _ = some k from hk)
    have hm := S.blt "all" (by decide +kernel)
    exact s_call1 (id := .builtin "len") (fun _ _ _ z => z) (fun t h => pe_callB (all_ok1 S.calm) hg hm (by decide +kernel) h (by decide) (by decide) hst rfl) ha hst
  rw [if_neg e] at hk
  by_cases e : x = "sum"
  · subst e
    cases (show some _ = some k from hk)
    have hm := S.blt "sum" (by decide +kernel)
    exact s_call1 (id := .builtin "len") (fun _ _ _ z => z) (fun t h => pe_callB (sum_ok1 S.calm) hg hm (by decide +kernel) h (by decide) (by decide) hst rfl) ha hst
  rw [if_neg e] at hk
  by_cases e : x = "min"
  · subst e
    cases (show some _ = some k from hk)
    have hm := S.blt "min" (by decide +kernel)
    exact s_call1 (id := .builtin "len") (fun _ _ _ z => z) (fun t h => pe_callB (min_ok1 S.calm) hg hm (by decide +kernel) h (by decide) (by decide) hst rfl) ha hst
  rw [if_neg e] at hk
  by_cases e : x = "max"
  · subst e
    cases (show some _ = some k from hk)
    have hm := S.blt "max" (by decide +kernel)
    exact s_call1 (id := .builtin "len") (fun _ _ _ z => z) (fun t h => pe_callB (max_ok1 S.calm) hg hm (by decide +kernel) h (by decide) (by decide) hst rfl) ha hst
  rw [if_neg e] at hk
  by_cases e : x = "sorted"
  · subst e
    cases (show some _ = some k from hk)
    have hm := S.blt "sorted" (by decide +kernel)
    exact s_call1 (id := .builtin "len") (fun _ _ _ z => z) (fun t h => pe_callB sorted_ok1 hg hm (by decide +kernel) h (by decide) (by decide) hst rfl) ha hst
  rw [if_neg e] at hk
  cases hk
theorem s_b2 (S : Sit P n X W) {k : B2} (hk : b2N x = some k) (hg : Gl X x) (hp : plainE a = true) (hp' : plainE b = true) (ha : PE X a (eOf X W ma)) (hb : PE X b (eOf X W mb)) : PE X (.Call (.Name x p) [a, b] [] pos) (eOf X W (xB2 k ma mb)) := by
  have hst := plain_star hp [b] X.env
  have hst' := plain_star hp' [] X.env
  have hpl : (backTo pos (starEach [b] X.env)).any (·.1) = false := back_any (by simpa using hp') _ _
  have key : ∀ {f : Expr} {r : List V → Hp → VK → Prop}, (∀ xs H Q, (∃ x y d e r, xs = [x, y] ∧ Rep X.K X.mg H x d ∧ Rep X.K X.mg H y e ∧ b2D k d e = some r ∧ ∀ v, Rep X.K X.mg H v r → Q v H) → r xs H Q) → (∀ t : L2.TA, PA X [a, b] t → PE X f (tCB r t)) → PE X f (eOf X W (xB2 k ma mb)) := by
    intro f r hr g
    refine PE_le (g _ (pa_cons ha (pa_cons hb pa_nil hst') hst)) fun σ H Q ⟨env, h, Q0, X0, nw, q, hq⟩ => ⟨env, h, _, X0, nw, q, fun x h1 v1 H1 q1 t1 r1 p1 => ?_⟩
    obtain ⟨d, h1', q1, t1', r1', p1'⟩ := rv_take q1 t1 r1 p1
    refine ⟨env, h1', _, X0, nw.go t1' r1', q1, fun y h2 v2 H2 q2 t2 r2 p2 => ?_⟩
    obtain ⟨e, h2', ⟨r, er, q2⟩, t2', r2', p2'⟩ := rv_take q2 t2 r2 p2
    exact hr _ _ _ ⟨v1, v2, d, e, r, rfl, p1'.mono (t2'.mn r1'), p2', er, fun v pv => hq _ _ _ _ q2 (t1'.trans t2') r2' pv⟩
  unfold b2N at hk
  split at hk
  · rename_i e; subst e; cases hk
    exact key (fun _ _ _ z => z) fun t h => pe_callB (b2_ok S.calm .min) hg (S.blt _ (by decide +kernel)) (by decide +kernel) h (by decide) (by decide) hst hpl
  split at hk
  · rename_i e; subst e; cases hk
    exact key (fun _ _ _ z => z) fun t h => pe_callB (b2_ok S.calm .max) hg (S.blt _ (by decide +kernel)) (by decide +kernel) h (by decide) (by decide) hst hpl
  · cases hk
theorem s_isa (S : Sit P n X W) {t : Str} {ty : Ty} {p2 : Pos} (ht : tyN t = some ty) (hg : Gl X "isinstance") (hgt : Gl X t) (hp : plainE a = true) (ha : PE X a (eOf X W ma)) :
    PE X (.Call (.Name "isinstance" p) [a, .Name t p2] [] pos) (eOf X W (xB1 (.isa ty) ma)) := by
  have hst := plain_star hp [.Name t p2] X.env
  have hb : PE X (.Name t p2) (tC (.ty (tyOf ty))) := by
    unfold tyN at ht
    repeat' split at ht
    all_goals first
      | (cases ht; done)
      | (rename_i e; subst e; cases ht; exact pe_bltn hgt (S.blt _ (by decide +kernel)) (by decide +kernel) rfl (by decide) (by decide))
  refine PE_le (pe_callB (isa_ok ty) hg (S.blt _ (by decide +kernel)) (by decide +kernel) (pa_cons ha (pa_cons hb pa_nil rfl) hst) (by decide) (by decide) hst rfl) fun σ H Q ⟨env, h, Q0, X0, nw, q, hq⟩ =>
    ⟨env, h, _, X0, nw, q, fun x h1 v1 H1 ⟨r, e, q1⟩ t1 r1 p1 => ?_⟩
  obtain ⟨k, ek, e⟩ := Option.map_eq_some_iff.mp e
  subst e
  exact ⟨v1, h1, x, k, rfl, r1, p1.opd, ek, hq _ _ _ _ q1 t1 r1 (.bl k)⟩
/-! ### a range made a tuple or a list -/
theorem small_of {i : Int} (h : small62 i = true) : -(2 ^ 62) ≤ i ∧ i < 2 ^ 62 := by
  unfold small62 at h
  simp only [Bool.and_eq_true,
      decide_eq_true_eq] at h
  omega
theorem reps_rg {K : PySem.W.Frag} {M : Str → Option Value} {H : Hp} (i j : Int) : Reps K M H (rgV i j) (rngL i (j - i).toNat) := by
  unfold rgV rngL
  generalize (j - i).toNat = m
  have : ∀ l : List Nat, Reps K M H (l.map fun k => V.int (i + (k : Nat))) (l.map fun k => D.int (i + (k : Nat))) := fun l => by
    induction l with
    | nil => exact .nil
    | cons k l ih => exact .cons (.int _) ih
  exact this _
theorem s_rg (S : Sit P n X W) (k : Bool) {te : L2.St → Hp → (Int → Int → Hp → Prop) → Prop} {mi : TI} (hx : x = if k = true then "tuple" else "list") (hg : Gl X x) (hr : PRg X a te) (hst : starEach [a] X.env = (false, eval a X.env) :: starEach [] X.env)
    (hi : ∀ σ H Q env h Q0 X0, Now X.K X.mg W σ env h H X0 → mi env h Q0 X0 → (∀ i j h' H', Q0 (.fix (rngL i (j - i).toNat)) h' → small62 i = true → small62 j = true → Tr h H h' H' → RelH X.K X.mg h' H' → Q i j H') → te σ H Q) :
    PE X (.Call (.Name x p) [a] [] pos) (eOf X W (xRng k mi)) := by
  cases k with
  | true =>
    subst hx
    refine PE_le (pe_tupRgX S.calm hg (S.blt _ (by decide +kernel)) hr hst) fun σ H Q ⟨env, h, Q0, X0, nw, q, hq⟩ => hi _ _ _ env h _ X0 nw q fun i j h1 H1 ⟨z, q1⟩ si sj t1 r1 => ?_
    obtain ⟨a1, a2⟩ := small_of si
    obtain ⟨a3, a4⟩ := small_of sj
    have z : (rngL i (j - i).toNat).length ≤ 16777216 := z
    unfold rngL at z
    rw [List.length_map, List.length_range] at z
    exact ⟨⟨a1, a2, a3, a4, by omega⟩, Aft.newT (aft_of hq t1 r1 q1) r1 (reps_rg i j)⟩
  | false =>
    subst hx
    refine PE_le (pe_listRg S.calm hg (S.blt _ (by decide +kernel)) hr hst) fun σ H Q ⟨env, h, Q0, X0, nw, q, hq⟩ => hi _ _ _ env h _ X0 nw q fun i j h1 H1 ⟨z, q1⟩ si sj t1 r1 => ?_
    obtain ⟨a1, a2⟩ := small_of si
    obtain ⟨a3, a4⟩ := small_of sj
    have z : (rngL i (j - i).toNat).length ≤ 16777216 := z
    unfold rngL at z
    rw [List.length_map, List.length_range] at z
    exact ⟨⟨a1, a2, a3, a4, by omega⟩, fun p hp => Aft.newL (aft_of hq t1 r1 q1) r1 hp (reps_rg i j)⟩
theorem asInt_r {K : PySem.W.Frag} {M : Str → Option Value} {H0 H : Hp} {h : AH} {v : V} {r : Rv} {i : Int} (e : asInt r = some i) (p : RepR K M H0 h H v r) : v = .int i := by
  unfold asInt at e
  split at e
  · cases e
    cases p
    rfl
  · cases e
theorem s_rng1 (S : Sit P n X W) (k : Bool) {p2 pos2 : Pos} (hx : x = if k = true then "tuple" else "list") (hg : Gl X x) (hgr : Gl X "range") (hp : plainE a = true) (ha : PE X a (eOf X W ma)) : PE X (.Call (.Name x p) [.Call (.Name "range" p2) [a] [] pos2] [] pos) (eOf X W (xRng k (iR1 ma))) := by
  refine s_rg S k hx hg (prg_1 hgr (S.blt _ (by decide +kernel)) ha (plain_star hp [] _)) rfl fun σ H Q env h Q0 X0 nw q hq => ⟨env, h, _, X0, nw, q, fun r h1 v1 H1 ⟨j, e, s1, q1⟩ t1 r1 p1 => ?_⟩
  exact ⟨j, asInt_r e p1, hq 0 j h1 H1 (by rw [Int.sub_zero]; exact q1) (by decide) s1 t1 r1⟩
theorem s_rng2 (S : Sit P n X W) (k : Bool) {p2 pos2 : Pos} (hx : x = if k = true then "tuple" else "list") (hg : Gl X x) (hgr : Gl X "range") (hp : plainE a = true) (hp' : plainE b = true) (ha : PE X a (eOf X W ma)) (hb : PE X b (eOf X W mb)) :
    PE X (.Call (.Name x p) [.Call (.Name "range" p2) [a, b] [] pos2] [] pos) (eOf X W (xRng k (iR2 ma mb))) := by
  refine s_rg S k hx hg (prg_2 hgr (S.blt _ (by decide +kernel)) ha hb (plain_star hp [b] _) (plain_star hp' [] _) (back_any (by simpa using hp') _ _)) rfl fun σ H Q env h Q0 X0 nw q hq => ⟨env, h, _, X0, nw, q, fun r h1 v1 H1 ⟨i, ei, q1⟩ t1 r1 p1 =>
    ⟨env, h1, _, X0, nw.go t1 r1, q1, fun r' h2 v2 H2 ⟨j, ej, s2, q2⟩ t2 r2 p2 => ?_⟩⟩
  rw [Bool.and_eq_true] at s2
  exact ⟨i, j, asInt_r ei p1, asInt_r ej p2, hq i j h2 H2 q2 s2.1 s2.2 (t1.trans t2) r2⟩
/-! ### methods -/
theorem aft_more {K : PySem.W.Frag} {M : Str → Option Value} {Q0 : Rv → AH → Prop} {Q : VK} {h h2 h3 : AH} {H H2 : Hp} {r : Rv} (hq : ∀ r h' v H', Q0 r h' → Tr h H h' H' → RelH K M h' H' → RepR K M H h' H' v r → Q v H') (x : Tr h H h2 H2) (q : Q0 r h3) : Aft K M h2 H2 h3 Q r :=
  fun v H3 t r3 rp => hq r h3 v H3 q (x.trans t) r3 (rp.back x.grow)
theorem lt_some {x : Rv} {h : AH} (e : (ltV x h).isSome = true) : ∃ xs, ltV x h = some xs := Option.isSome_iff_exists.mp e
theorem s_mt (hu : X.A.units + 65 < cLine) {o : Expr} {mo : TX} {name : Str} {apos cpos : Pos} {m : Mt} (hm : mtN name es.length = some m) (hl : (apos.endLine == cpos.line) = true) (hpo : plainE o = true) (hp : ∀ e ∈ es, plainE e = true)
    (ho : PE X o (eOf X W mo)) (hs : PA X es (aOf X W ms)) (h0 : es = [] → ms = esNil) : PE X (.Call (.Attribute o name apos) es [] cpos) (eOf X W (xMt m mo ms)) := by
  have hb := plain_base hpo name X.env
  have ml : es.length < 30 := by
    unfold mtN at hm
    repeat' split at hm
    all_goals first
      | (cases hm; done)
      | (rename_i e; obtain ⟨_, e⟩ := e; omega)
  -- what the name is
  have key : ∀ {h1 : AH} {H1 : Hp} {v1 : V} {r : Rv}, mtChk m r h1 = true → RelH X.K X.mg h1 H1 → Opd X.K X.mg h1 H1 v1 r → ∃ T id b, IsM X T name id (rMt X.K X.mg m b) ∧ TyC X T v1 H1 ∧ b r := by
    intro h1 H1 v1 r hc rel op
    have lst : ∀ {id : String}, (ltV r h1).isSome = true → Slot "list" name id → typeOf (.builtin id) = pure (.type "method_descriptor") → MtR X id (rMt X.K X.mg m anyR) →
        ∃ T id b, IsM X T name id (rMt X.K X.mg m b) ∧ TyC X T v1 H1 ∧ b r := fun {id} e s t g => by
      obtain ⟨xs, e⟩ := lt_some e
      obtain ⟨a, vs, rfl, hv, _⟩ := opd_lt op rel e
      exact ⟨"list", id, anyR, ⟨PySem.F.plainAttrs_list, s, t, g⟩, tyC_list (SqL.of hv), trivial⟩
    unfold mtN at hm
    split at hm
    · rename_i e; obtain ⟨rfl, _⟩ := e; cases hm
      exact lst hc PySem.F.slot_list_append PySem.F.type_list_append append_ok
    split at hm
    · rename_i e; obtain ⟨rfl, _⟩ := e; cases hm
      exact lst hc PySem.F.slot_list_pop PySem.F.type_list_pop pop_ok
    split at hm
    · rename_i e; obtain ⟨rfl, _⟩ := e; cases hm
      exact lst hc PySem.F.slot_list_pop PySem.F.type_list_pop popi_ok
    split at hm
    · rename_i e; obtain ⟨rfl, _⟩ := e; cases hm
      obtain ⟨xs, hc⟩ := Option.isSome_iff_exists.mp (show (sqV r h1).isSome = true from hc)
      by_cases ht : isTupR r
      · obtain ⟨ys, rfl⟩ := ht
        cases op with
        | tup sd _ => exact ⟨"tuple", _, isTupR, ⟨PySem.F.plainAttrs_tuple, PySem.F.slot_tuple_index, PySem.F.type_tuple_index, index_tup_ok hu⟩, tyC_tup sd, _, rfl⟩
      · have nt : notTupR r := fun ys e => ht ⟨ys, e⟩
        have hc' : lsV r h1 = some xs := by
          unfold sqV at hc
          split at hc
          · exact absurd rfl (nt _)
          · exact hc
        obtain ⟨a, vs, rfl, sl, _⟩ := opd_ls op rel hc'
        exact ⟨"list", _, notTupR, ⟨PySem.F.plainAttrs_list, PySem.F.slot_list_index, PySem.F.type_list_index, index_list_ok hu⟩, tyC_list sl, nt⟩
    split at hm
    · rename_i e; obtain ⟨rfl, _⟩ := e; cases hm
      exact lst hc PySem.F.slot_list_reverse PySem.F.type_list_reverse reverse_ok
    split at hm
    · rename_i e; obtain ⟨rfl, _⟩ := e; cases hm
      exact lst hc PySem.F.slot_list_extend PySem.F.type_list_extend extend_ok
    split at hm
    · rename_i e; obtain ⟨rfl, _⟩ := e; cases hm
      exact lst hc PySem.F.slot_list_insert PySem.F.type_list_insert insert_ok
    · cases hm
  cases es with
  | nil =>
    rw [h0 rfl]
    refine PE_le (pe_mtG0 ho hb hl) fun σ H Q ⟨env, h, Q0, X0, nw, q, hq⟩ => ⟨env, h, _, X0, nw, q, fun r h1 v1 H1 ⟨hc, q1⟩ t1 r1 p1 => ?_⟩
    obtain ⟨T, id, b, im, ty, br⟩ := key hc r1 p1.opd
    obtain ⟨p, ep, q1⟩ := q1
    exact ⟨T, id, _, im, ty, h1, r, [], p, r1, p1.opd, br, .nil, ep, aft_more hq t1 q1⟩
  | cons e es =>
    refine PE_le (pe_mtG ho hs hb hl (back_few hp _ _ ml) (plain_star (hp e List.mem_cons_self) es X.env) (back_any (fun e he => hp e (List.mem_cons_of_mem _ he)) _ _)) fun σ H Q ⟨env, h, Q0, X0, nw, q, hq⟩ =>
      ⟨env, h, _, X0, nw, q, fun r h1 v1 H1 ⟨hc, q1⟩ t1 r1 p1 => ?_⟩
    obtain ⟨T, id, b, im, ty, br⟩ := key hc r1 p1.opd
    refine ⟨T, id, _, im, ty, env, h1, _, X0, nw.go t1 r1, q1, fun ds h2 vs H2 ⟨p, ep, q2⟩ t2 r2 p2 => ?_⟩
    exact ⟨h2, r, ds, p, r2, opd2 p1 t2 r1, br, p2, ep, aft_more hq (t1.trans t2) q2⟩
end
end Py
namespace Py
open L2 PySem.Spec PySem PyProof.Rows
/-! ### targets -/
theorem slot_at {N : List Str} {x : Str} {i : Nat} (h : slot N x = some i) : N[i]? = some x := by
  unfold slot at h
  rw [List.findIdx?_eq_some_iff_getElem] at h
  obtain ⟨hl, he, _⟩ := h
  rw [List.getElem?_eq_getElem hl]
  congr
  exact eq_of_beq he
section
variable {X : Cx} {p : Nat → Bool} {es : List Expr}
theorem each_len (es : List Expr) (env : PySem.Env) : (assignEach es env).length = es.length := by
  induction es with
  | nil => rfl
  | cons e es ih =>
    cases e <;> (show (_ :: assignEach es env).length = _; rw [List.length_cons, List.length_cons, ih])
theorem g_or {e : Expr} {t u : L2.TG} (h : PG X e t) (h' : PG X e u) : PG X e (fun v σ H Q => t v σ H Q ∨ u v σ H Q) :=
  ⟨fun pins s σ H v w Q I r q => q.elim (h.run pins s σ H v w Q I r) (h'.run pins s σ H v w Q I r)⟩
theorem ag_refl {σ : L2.St} : Ag p σ σ := ⟨rfl, fun _ _ => rfl⟩
theorem Ag.trans {σ τ ρ : L2.St} (a : Ag p σ τ) (b : Ag p τ ρ) : Ag p σ ρ := ⟨b.1.trans a.1, fun i h => (b.2 i h).trans (a.2 i h)⟩
theorem s_nm {x : Str} {i : Nat} {pos : Pos} (nd : X.N.Nodup) (hi : X.N[i]? = some x) (hx : Loc X.env.scope x) (hf : X.fn x = true ∨ X.env.scope.names.lookup x = some .local) (hp : p i = true) : PG X (.Name x pos) (gOf X p (gNm i)) :=
  PG_le (pg_name nd hi hx hf) fun v σ H Q ⟨d, env, h, Q0, rel, rs, rp, q, hq⟩ => hq _ _ _ _ q .refl rel (rs.set rp i) ⟨List.length_set, fun j hj => List.getElem?_set_ne (fun e => by rw [← e, hp] at hj; cases hj)⟩
theorem s_tp {k : Nat} {pos : Pos} {m : TGs} (hc : X.calm = true) (hl : ∀ ds env h q, m ds env h q → ds.length = es.length) (h : PGs X es (tgsOf X.K X.mg p m)) (hst : (assignEach es X.env).findIdx? (·.1) = none) : PG X (.Tuple es k pos) (gOf X p (gTp m)) :=
  PG_le (g_or (pg_tup (n := es.length) hc h (each_len _ _) hst) (pg_lst (n := es.length) hc h (each_len _ _) hst)) fun v σ H Q ⟨d, env, h, Q0, rel, rs, rp, ⟨xs, e, q⟩, hq⟩ => by
    obtain ⟨a, vs, rfl, hs, hr⟩ := opd_sq (r := .v d) (v := v) rp rel e
    have hl' : vs.length = es.length := by rw [hr.length]; exact hl _ _ _ _ q
    rcases hs with hs | hs
    · exact .inr ⟨a, vs, rfl, hs, hl', xs, env, h, Q0, rel, rs, hr, q, hq⟩
    · exact .inl ⟨a, vs, rfl, hs.sq, hl', xs, env, h, Q0, rel, rs, hr, q, hq⟩
theorem s_tnil : PGs X [] (tgsOf X.K X.mg p gNil) := ⟨fun pins s σ H vs us Q I r ⟨ds, env, h, Q0, rel, rs, rp, ⟨e, q⟩, hq⟩ => pgs_nil.run pins s σ H vs us Q I r (by
  subst e
  cases rp
  exact ⟨rfl, hq _ _ _ _ q .refl rel rs ag_refl⟩)⟩
theorem s_tcons {e : Expr} {m : TG} {ms : TGs} (h1 : PG X e (gOf X p m)) (h2 : PGs X es (tgsOf X.K X.mg p ms)) (hs : (assignEach (e :: es) X.env).map (·.2) = assign e X.env :: (assignEach es X.env).map (·.2)) : PGs X (e :: es) (tgsOf X.K X.mg p (gCons m ms)) :=
  ⟨fun pins s σ H vs us Q I r ⟨ds, env, h, Q0, rel, rs, rp, q, hq⟩ => (pgs_cons h1 h2 hs).run pins s σ H vs us Q I r (by
    cases ds with
    | nil => exact q.elim
    | cons d ds =>
      cases rp with
      | @cons v vs _ _ rv rr =>
        exact ⟨v, vs, rfl, d, env, h, _, rel, rs, rv, q, fun env1 h1 σ1 H1 q1 t1 r1 s1 a1 =>
          ⟨ds, env1, h1, _, r1, s1, rr.mono (t1.mn rel), q1, fun env2 h2 σ2 H2 q2 t2 r2 s2 a2 => hq _ _ _ _ q2 (t1.trans t2) r2 s2 (a1.trans a2)⟩⟩)⟩
end
mutual
theorem tg_ex : ∀ (t : Tg) (d : D) (env : Env) (h : AH) (k : Env → AH → Prop), wTg t d env h k → ∃ e1 h1, k e1 h1
  | .nm i, d, env, h, k, q => ⟨_, _, q⟩
  | .tp ts, d, env, h, k, ⟨xs, _, q⟩ => tgs_ex ts xs env h k q
theorem tgs_ex : ∀ (ts : Tgs) (ds : List D) (env : Env) (h : AH) (k : Env → AH → Prop), wTgs ts ds env h k → ∃ e1 h1, k e1 h1
  | .nil, ds, env, h, k, q => ⟨_, _, q.2⟩
  | .cons t ts, [], env, h, k, q => q.elim
  | .cons t ts, d :: ds, env, h, k, q => let ⟨e1, h1, q1⟩ := tg_ex t d env h _ q; tgs_ex ts ds e1 h1 k q1
end
theorem tg_len : ∀ (es : List Expr) (ts : Tgs) (N : List Str) (ok : Str → Bool) (n : Nat) (ds : List D) (env : Env) (h : AH) (k : Env → AH → Prop), trT.go N ok n es = some ts → wTgs ts ds env h k → ds.length = es.length
  | [], ts, N, ok, n, ds, env, h, k, e, q => by
    unfold trT.go at e
    cases e
    rw [q.1]
    rfl
  | a :: es, ts, N, ok, n, ds, env, h, k, e, q => by
    unfold trT.go at e
    simp only [bind, Option.bind_eq_some_iff, pure, Option.some.injEq] at e
    obtain ⟨t', e1, ts', e2, rfl⟩ := e
    cases ds with
    | nil => exact q.elim
    | cons d ds =>
      obtain ⟨e1', h1, q1⟩ := tg_ex t' d env h _ q
      rw [List.length_cons, List.length_cons, tg_len es ts' N ok n ds e1' h1 k e2 q1]
/-- a target that is read is plain -/
theorem trT_star {N : List Str} {ok : Str → Bool} {n : Nat} {e : Expr} {t : Tg} (h : trT N ok n e = some t) (es : List Expr) (env : PySem.Env) : assignEach (e :: es) env = (false, assign e env) :: assignEach es env := by
  cases n with
  | zero => unfold trT at h; cases h
  | succ n =>
    unfold trT at h
    cases e <;> first | rfl | cases h
theorem s_tgt {X : Cx} {p : Nat → Bool} {N : List Str} {ok : Str → Bool} (hc : X.calm = true) (nd : X.N.Nodup) (hN : X.N = N) (hok : ∀ x, ok x = true → Loc X.env.scope x ∧ (X.fn x = true ∨ X.env.scope.names.lookup x = some .local)) :
    ∀ (n : Nat) (e : Expr) (t : Tg), trT N ok n e = some t → tgIn p t = true → PG X e (gOf X p (wTg t))
  | 0, e, t, h, _ => by unfold trT at h; cases h
  | n + 1, e, t, h, hp => by
    unfold trT at h
    split at h
    · split at h
      · rename_i x _ hx
        obtain ⟨i, hi, rfl⟩ := Option.map_eq_some_iff.mp h
        obtain ⟨h1, h2⟩ := hok _ hx
        exact s_nm nd (hN ▸ slot_at hi) h1 h2 hp
      · cases h
    · rename_i es _ _
      obtain ⟨ts, hts, rfl⟩ := Option.map_eq_some_iff.mp h
      have go : ∀ (es : List Expr) (ts : Tgs), trT.go N ok n es = some ts → tgsIn p ts = true → PGs X es (tgsOf X.K X.mg p (wTgs ts)) ∧ (assignEach es X.env).findIdx? (·.1) = none := by
        intro es
        induction es with
        | nil =>
          intro ts e hq
          unfold trT.go at e
          cases e
          exact ⟨s_tnil, rfl⟩
        | cons a es ih =>
          intro ts e hq
          unfold trT.go at e
          simp only [bind, Option.bind_eq_some_iff, pure, Option.some.injEq] at e
          obtain ⟨t', e1, ts', e2, rfl⟩ := e
          rw [tgsIn, Bool.and_eq_true] at hq
          obtain ⟨g1, g2⟩ := ih ts' e2 hq.2
          have st := trT_star e1 es X.env
          refine ⟨s_tcons (s_tgt hc nd hN hok n a t' e1 hq.1) g1 (by rw [st]; rfl), ?_⟩
          rw [st, List.findIdx?_cons]
          simp [g2]
      obtain ⟨g1, g2⟩ := go es ts hts hp
      exact s_tp hc (fun ds env h q w => tg_len es ts N ok n ds env h q hts w) g1 g2
    · cases h
mutual
theorem tgIn_all : ∀ t : Tg, tgIn (fun _ => true) t = true
  | .nm i => rfl
  | .tp ts => tgsIn_all ts
theorem tgsIn_all : ∀ t : Tgs, tgsIn (fun _ => true) t = true
  | .nil => rfl
  | .cons t ts => by rw [tgsIn, tgIn_all t, tgsIn_all ts]; rfl
end
/-! ### what is walked -/
section
variable {X : Cx} {W : WX} {P : Prog} {n : Nat} {a b c tg : Expr} {ma mb mc : TX} {p pos : Pos}
theorem pi_any {l : Expr} {tl : L2.TE} (hl : PE X l tl) : PI X tg l (fun σ H R => tl σ H fun x H1 => ∃ a, x = .ref a ∧ (((∃ xs, SqL X.K H1 a xs) ∧ R (Itl X.K a) H1) ∨ ((∃ xs, SqT X.K H1 a xs) ∧ R (Itt X.K a) H1))) := by
  refine ⟨fun pins s σ H R I w => thn (hl.run pins s σ H _ I w) fun v s1 ⟨x, H1, I1, r1, a, e, q⟩ => ?_⟩
  cases e
  cases r1
  rcases q with ⟨⟨xs, hq⟩, q⟩ | ⟨⟨xs, hq⟩, q⟩
  · obtain ⟨its, _, pl, _⟩ := I1.list hq
    exact wpAny_pyIter_list pl.isList (pi_one (tk := s1.toks) I1 _ (turn_list a _) ⟨_, Heap.get?_push_size _ rfl, rfl, rfl⟩ q)
  · obtain ⟨its, _, pl, _⟩ := I1.tuple hq
    exact wpAny_pyIter_tuple (show s1.heap.IsTuple a its.toArray from pl) (pi_one (tk := s1.toks) I1 _ (turn_tuple a _) ⟨_, Heap.get?_push_size _ rfl, rfl, rfl⟩ q)
theorem walk_l {K : PySem.W.Frag} {M : Str → Option Value} {a : Addr} {s : Src} {Hpre : Hp} {h0 : AH} {H0 : Hp} (g : ∀ h H, Kp Hpre h0 H0 h H → Mn K H0 H → RelH K M h H → s.chk h → ∃ vs, SqL K H a vs ∧ Reps K M H vs s.items) : Walks K M s (Itl K a) Hpre h0 H0 := fun h H t m r ck i => by
  obtain ⟨vs, sl, rp⟩ := g h H t m r ck
  refine ⟨fun d hd => ?_, fun hi => ⟨vs, sl, by rw [rp.length]; exact hi⟩⟩
  obtain ⟨v, hv, pv⟩ := rp.get hd
  refine ⟨⟨vs, v, sl, hv⟩, fun x H' y => ⟨y.1, ?_⟩⟩
  have := y.2 vs sl
  rw [hv] at this
  cases this
  exact pv
theorem walk_t {K : PySem.W.Frag} {M : Str → Option Value} {a : Addr} {s : Src} {Hpre : Hp} {h0 : AH} {H0 : Hp} (g : ∀ h H, Kp Hpre h0 H0 h H → Mn K H0 H → RelH K M h H → s.chk h → ∃ vs, SqT K H a vs ∧ Reps K M H vs s.items) : Walks K M s (Itt K a) Hpre h0 H0 := fun h H t m r ck i => by
  obtain ⟨vs, sl, rp⟩ := g h H t m r ck
  refine ⟨fun d hd => ?_, fun hi => ⟨vs, sl, by rw [rp.length]; exact hi⟩⟩
  obtain ⟨v, hv, pv⟩ := rp.get hd
  refine ⟨⟨vs, v, sl, hv⟩, fun x H' y => ⟨y.1, ?_⟩⟩
  have := y.2 vs sl
  rw [hv] at this
  cases this
  exact pv
theorem s_iseq (ha : PE X a (eOf X W ma)) : PI X tg a (iOf X W (iSeq ma)) := PI_le (pi_any ha) fun σ H R ⟨env, h, Q0, X0, nw, q, hq⟩ => ⟨env, h, _, X0, nw, q, fun r h1 v1 H1 ⟨s, e, q1⟩ t1 r1 p1 => by
  unfold srcOf at e
  split at e
  · cases e
    cases p1 with
    | tup sd rs => exact ⟨_, rfl, .inr ⟨⟨_, sd.sq⟩, hq _ _ _ _ q1 t1 r1 (walk_t fun h2 H2 t2 m2 r2 _ => ⟨_, (m2.t _ _ sd).sq, rs.mono m2⟩)⟩⟩
  · cases e
    cases p1 with
    | fl sd rs => exact ⟨_, rfl, .inl ⟨⟨_, sd.seq⟩, hq _ _ _ _ q1 t1 r1 (walk_l fun h2 H2 t2 m2 r2 _ => ⟨_, (m2.f _ _ sd).seq, rs.mono m2⟩)⟩⟩
  · split at e
    · rename_i ea
      cases e
      cases p1 with
      | loc _ =>
      obtain ⟨vs, hv, rs⟩ := r1 _ _ ea
      exact ⟨_, rfl, .inl ⟨⟨vs, SqL.of hv⟩, hq _ _ _ _ q1 t1 r1 (walk_l fun h2 H2 t2 m2 r2 ck => by
        obtain ⟨vs, hv, rs⟩ := r2 _ _ ck
        exact ⟨vs, SqL.of hv, rs⟩)⟩⟩
    · cases e
  · cases e
    obtain ⟨pp, rfl, n0, nn, vs, hv, rs⟩ := p1
    exact ⟨_, rfl, .inl ⟨⟨vs, SqL.of hv⟩, hq _ _ _ _ q1 t1 r1 (walk_l fun h2 H2 t2 m2 r2 ck => ⟨vs, SqL.of (t2 _ _ n0 hv nn).1, rs.mono m2⟩)⟩⟩
  · cases e⟩
theorem walk_r {K : PySem.W.Frag} {M : Str → Option Value} {i : Int} {m : Nat} {Hpre : Hp} {h0 : AH} {H0 : Hp} : Walks K M (.fix (rngL i m)) (Itr i m) Hpre h0 H0 := fun h H t _ r ck k => by
  refine ⟨fun d hd => ?_, fun hi => ?_⟩
  · simp only [Src.items, rngL, List.getElem?_map, Option.map_eq_some_iff] at hd
    obtain ⟨k', hk, rfl⟩ := hd
    obtain ⟨hl, e⟩ := List.getElem?_eq_some_iff.mp hk
    rw [List.length_range] at hl
    rw [List.getElem_range] at e
    subst e
    exact ⟨hl, fun x H' y => ⟨y.1, by rw [y.2]; exact .int _⟩⟩
  · exact show m ≤ k by simpa [Src.items, rngL] using hi
theorem walk_c {K : PySem.W.Frag} {M : Str → Option Value} {i c : Int} {m : Nat} {Hpre : Hp} {h0 : AH} {H0 : Hp} : Walks K M (.fix (rngLC i c m)) (Itc i c m) Hpre h0 H0 := fun h H t _ r ck k => by
  refine ⟨fun d hd => ?_, fun hi => ?_⟩
  · simp only [Src.items, rngLC, List.getElem?_map, Option.map_eq_some_iff] at hd
    obtain ⟨k', hk, rfl⟩ := hd
    obtain ⟨hl, e⟩ := List.getElem?_eq_some_iff.mp hk
    rw [List.length_range] at hl
    rw [List.getElem_range] at e
    subst e
    exact ⟨hl, fun x H' y => ⟨y.1, by rw [y.2]; exact .int _⟩⟩
  · exact show m ≤ k by simpa [Src.items, rngLC] using hi
theorem s_ir1 (S : Sit P n X W) (hg : Gl X "range") (hp : plainE a = true) (ha : PE X a (eOf X W ma)) : PI X tg (.Call (.Name "range" p) [a] [] pos) (iOf X W (iR1 ma)) := by
  have st := plain_star hp [] X.env
  refine PI_le (pi_range1 hg (S.blt _ (by decide +kernel)) (pa_cons ha pa_nil st) st) fun σ H R ⟨env, h, Q0, X0, nw, q, hq⟩ => ⟨env, h, _, X0, nw, q, fun r h1 v1 H1 ⟨j, e, s1, q1⟩ t1 r1 p1 => ?_⟩
  exact ⟨j, by rw [asInt_r e p1], (small_of s1).1, (small_of s1).2, hq _ _ _ _ q1 t1 r1 walk_r⟩
theorem s_ir2 (S : Sit P n X W) (hg : Gl X "range") (hp : plainE a = true) (hp' : plainE b = true) (ha : PE X a (eOf X W ma)) (hb : PE X b (eOf X W mb)) : PI X tg (.Call (.Name "range" p) [a, b] [] pos) (iOf X W (iR2 ma mb)) := by
  have st := plain_star hp [b] X.env
  have st' := plain_star hp' [] X.env
  refine PI_le (pi_range2 hg (S.blt _ (by decide +kernel)) (pa_cons ha (pa_cons hb pa_nil st') st) (by rw [st, st']; rfl) st') fun σ H R ⟨env, h, Q0, X0, nw, q, hq⟩ => ⟨env, h, _, X0, nw, q, fun r h1 v1 H1 ⟨i, ei, q1⟩ t1 r1 p1 =>
    ⟨env, h1, _, X0, nw.go t1 r1, q1, fun r' h2 v2 H2 ⟨j, ej, s2, q2⟩ t2 r2 p2 => ?_⟩⟩
  rw [Bool.and_eq_true] at s2
  exact ⟨i, j, by rw [asInt_r ei p1, asInt_r ej p2], ⟨(small_of s2.1).1, (small_of s2.1).2, (small_of s2.2).1, (small_of s2.2).2⟩, hq _ _ _ _ q2 (t1.trans t2) r2 walk_r⟩
theorem s_ir3 (S : Sit P n X W) (hg : Gl X "range") (hp : plainE a = true) (hp' : plainE b = true) (hp2 : plainE c = true) (ha : PE X a (eOf X W ma)) (hb : PE X b (eOf X W mb)) (hc : PE X c (eOf X W mc)) : PI X tg (.Call (.Name "range" p) [a, b, c] [] pos) (iOf X W (iR3 ma mb mc)) := by
  have st := plain_star hp [b, c] X.env
  have st' := plain_star hp' [c] X.env
  have st2 := plain_star hp2 [] X.env
  refine PI_le (pi_range3 hg (S.blt _ (by decide +kernel)) (pa_cons ha (pa_cons hb (pa_cons hc pa_nil st2) st') st) st (back_any (by simp [hp', hp2]) _ _)) fun σ H R ⟨env, h, Q0, X0, nw, q, hq⟩ => ⟨env, h, _, X0, nw, q, fun r h1 v1 H1 ⟨i, ei, q1⟩ t1 r1 p1 =>
    ⟨env, h1, _, X0, nw.go t1 r1, q1, fun r' h2 v2 H2 ⟨j, ej, q2⟩ t2 r2 p2 => ⟨env, h2, _, X0, (nw.go t1 r1).go t2 r2, q2, fun r3' h3 v3 H3 ⟨k, ek, s3, q3⟩ t3 r3 p3 => ?_⟩⟩⟩
  exact ⟨i, j, k, _, by rw [asInt_r ei p1, asInt_r ej p2, asInt_r ek p3], rgC_of s3, hq _ _ _ _ q3 ((t1.trans t2).trans t3) r3 walk_c⟩
end
end Py
namespace Py
open L2 PySem.Spec PySem PyProof.Rows
/-! ### comprehensions -/
abbrev W0 : WX := fun _ _ _ _ => False
theorem wipe_in {i : Nat} : ∀ {σ : L2.St} {vs : List Nat}, i ∈ vs → (L2.wipe σ vs)[i]? = if i < σ.length then some none else none
  | σ, v :: vs, h => by
    unfold L2.wipe
    by_cases e : v = i
    · subst e
      by_cases hl : v < σ.length
      · rw [if_pos hl, List.getElem?_set_self (by rw [wipe_length]; exact hl)]
      · rw [if_neg hl, List.getElem?_eq_none (by rw [List.length_set, wipe_length]; omega)]
    · rw [List.getElem?_set_ne e]
      exact wipe_in ((List.mem_cons.mp h).resolve_left fun z => e z.symm)
theorem wipe_ag {σ τ : L2.St} {vs : List Nat} (a : Ag vs.contains (L2.wipe σ vs) τ) : L2.wipe τ vs = L2.wipe σ vs := by
  apply List.ext_getElem?
  intro i
  by_cases h : i ∈ vs
  · rw [wipe_in h, wipe_in h, a.1, wipe_length]
  · rw [wipe_out h, a.2 i (by simpa using h)]
section
variable {X : Cx} {W : WX} {P : Prog} {n : Nat}
theorem Sit.blk (S : Sit P n X W) (s : Shared) (H : Hp) (scope : Scope) (cenv : PySem.Env) (fp : List Addr) : Sit P n (X.blk s H scope cenv fp) W0 :=
  ⟨S.calm, S.nd, S.room, S.blt, S.glo, fun f h => let ⟨fa, fd, ps, F⟩ := S.fns f h; ⟨fa, fd, ps, ⟨F.ok, F.np, F.mg, F.keep, F.binds⟩⟩, S.gfn, takes0⟩
end
section
variable {K : PySem.W.Frag} {M : Str → Option Value} {W : WX}
theorem no_x {σ : L2.St} {h : AH} {H : Hp} : Xok K M W σ h H noX := fun _ _ _ _ _ x => x.elim
/-- a turn's result -/
def ResO (H : Hp) : Option D → Option V → Prop
  | some d, some y => Rep K M H y d
  | none, none => True
  | _, _ => False
/-- one turn, as the layer reads it -/
def turnL (g : L2.TG) (tt : L2.TT) (te : L2.TE) (vs : List Nat) (x : V) (σ : L2.St) (H : Hp) (k : Option V → Hp → Prop) : Prop :=
  g x (L2.wipe σ vs) H fun σ2 H2 => L2.wipe σ2 vs = L2.wipe σ vs ∧ tt σ2 H2 fun b H3 => if b = true then te σ2 H3 fun y H4 => k (some y) H4 else k none H3
/-- the abstract turn is right -/
def StepOk (K : PySem.W.Frag) (M : Str → Option Value) (σ : L2.St) (env : Env) (step : D → AH → (Option D → AH → Prop) → Prop) (tl : V → L2.St → Hp → (Option V → Hp → Prop) → Prop) : Prop :=
  ∀ d x h H k k', RelH K M h H → RelS K M H σ env → Rep K M H x d → step d h k → (∀ o h' ov H', k o h' → Tr h H h' H' → RelH K M h' H' → ResO (K := K) (M := M) H' o ov → k' ov H') → tl x σ H k'
theorem step_c {mt : TG} {me : TX} {own : List Nat} {σ : L2.St} {env : Env} : StepOk K M σ env (stepC mt env own me) (turnL (tgOf K M own.contains mt) tYes (tOf K M W0 me) own) := fun d x h H k k' rel rs rp q hk =>
  ⟨d, Py.wipe env own, h, _, rel, rs.wipe own, rp, q, fun env2 h2 σ2 H2 q2 t2 r2 s2 a2 => ⟨wipe_ag a2, by
    show (if true = true then tOf K M W0 me σ2 H2 (fun y H4 => k' (some y) H4) else k' none H2)
    rw [if_pos rfl]
    refine ⟨env2, h2, _, noX, ⟨r2, s2, no_x⟩, q2, fun r h3 v3 H3 q3 t3 r3 p3 => ?_⟩
    obtain ⟨d, h3', q3, t3', r3', p3'⟩ := rv_take q3 t3 r3 p3
    exact hk _ _ (some v3) _ q3 (t2.trans t3') r3' p3'⟩⟩
theorem step_ci {mt : TG} {mc me : TX} {own : List Nat} {σ : L2.St} {env : Env} : StepOk K M σ env (stepCi mt env own mc me) (turnL (tgOf K M own.contains mt) (ttOf K M W0 (tT mc)) (tOf K M W0 me) own) := fun d x h H k k' rel rs rp q hk =>
  ⟨d, Py.wipe env own, h, _, rel, rs.wipe own, rp, q, fun env2 h2 σ2 H2 q2 t2 r2 s2 a2 => ⟨wipe_ag a2, env2, h2, _, noX, ⟨r2, s2, no_x⟩, q2, fun b h3 H3 q3 t3 r3 => by
    cases b with
    | true =>
      rw [if_pos rfl]
      refine ⟨env2, h3, _, noX, ⟨r3, s2.mono (t3.mn r2), no_x⟩, q3, fun r h4 v4 H4 q4 t4 r4 p4 => ?_⟩
      obtain ⟨d, h4', q4, t4', r4', p4'⟩ := rv_take q4 t4 r4 p4
      exact hk _ _ (some v4) _ q4 ((t2.trans t3).trans t4') r4' p4'
    | false =>
      rw [if_neg (by decide)]
      exact hk none _ none _ q3 (t2.trans t3) r3 trivial⟩⟩
/-- the state of a comprehension: D its list -/
structure CSt (K : PySem.W.Frag) (M : Str → Option Value) (σ : L2.St) (env : Env) (h1 : AH) (H1 : Hp) (D : Addr) (acc : List Py.D) (h : AH) (H : Hp) : Prop where
  rel : RelH K M h H
  rs : RelS K M H σ env
  tr : Tr h1 H1 h H
  nn : h D = none
  ls : ∃ vs, H D = some (.lst vs) ∧ Reps K M H vs acc
/-- the list is written: no one else minds -/
theorem mn_own {H : Hp} {D : Addr} {vs ws : List V} (e : H D = some (.lst vs)) : Mn K H (upd H D (.lst ws)) := by
  refine ⟨fun a xs s => ?_, fun a xs s => ?_⟩
  · rcases s with ⟨o, q, z⟩ | s
    · exact .inl ⟨o, by rw [upd_ne (ne_of q e (by intro z; cases z))]; exact q, z⟩
    · exact .inr s
  · rcases s with ⟨o, q⟩ | s
    · exact .inl ⟨o, by rw [upd_ne (ne_of q e (by intro z; cases z))]; exact q⟩
    · exact .inr s
theorem CSt.push {σ : L2.St} {env : Env} {h1 h h' : AH} {H1 H H' : Hp} {D : Addr} {acc : List Py.D} {d : Py.D} {y : V} (c : CSt K M σ env h1 H1 D acc h H) (hD : H1 D = none) (t : Tr h H h' H') (r : RelH K M h' H') (p : Rep K M H' y d) :
    ∃ vs, H' D = some (.lst vs) ∧ vs.length = acc.length ∧ CSt K M σ env h1 H1 D (acc ++ [d]) h' (upd H' D (.lst (vs ++ [y]))) := by
  obtain ⟨vs, hv, rp⟩ := c.ls
  obtain ⟨hv', hn⟩ := t.keep _ _ hv c.nn
  have m := t.mn c.rel
  have m2 : Mn K H' (upd H' D (.lst (vs ++ [y]))) := mn_own hv'
  refine ⟨vs, hv', rp.length, fun a o e => ?_, (c.rs.mono m).mono m2, ?_, hn, _, upd_same, ((rp.mono m).mono m2).append (.cons (p.mono m2) .nil)⟩
  · have ne : a ≠ D := fun z => by rw [z, hn] at e; cases e
    exact (r a o e).mono m2 (upd_ne ne)
  · refine ⟨fun a o e z => ?_, fun a z => ?_⟩
    · obtain ⟨e2, z2⟩ := (c.tr.trans t).keep a o e z
      exact ⟨by rw [upd_ne (ne_of_none e hD)]; exact e2, z2⟩
    · unfold upd
      split
      · simp
      · exact (c.tr.trans t).grow a z
theorem CSt.go {σ : L2.St} {env : Env} {h1 h h' : AH} {H1 H H' : Hp} {D : Addr} {acc : List Py.D} (c : CSt K M σ env h1 H1 D acc h H) (t : Tr h H h' H') (r : RelH K M h' H') : CSt K M σ env h1 H1 D acc h' H' := by
  obtain ⟨vs, hv, rp⟩ := c.ls
  obtain ⟨hv', hn⟩ := t.keep _ _ hv c.nn
  exact ⟨r, c.rs.mono (t.mn c.rel), c.tr.trans t, hn, vs, hv', rp.mono (t.mn c.rel)⟩
theorem CSt.new {σ : L2.St} {env : Env} {h1 : AH} {H1 : Hp} {D : Addr} (rel : RelH K M h1 H1) (rs : RelS K M H1 σ env) (hD : H1 D = none) : CSt K M σ env h1 H1 D [] h1 (upd H1 D (.lst [])) :=
  ⟨rel.new hD, rs.mono ((Tr.new rel hD).mn rel), Tr.new rel hD, rel.free hD, _, upd_same, .nil⟩
/-- .. together with what the walked thing leans on -/
structure CS2 (K : PySem.W.Frag) (M : Str → Option Value) (σ : L2.St) (env : Env) (h1 : AH) (H1 : Hp) (D : Addr) (Hpre : Hp) (h0 : AH) (H0 : Hp) (acc : List Py.D) (h : AH) (H : Hp) : Prop where
  c : CSt K M σ env h1 H1 D acc h H
  kp : Kp Hpre h0 H0 h H
  mn : Mn K H0 H
theorem Mn.trans {H H' H'' : Hp} (a : Mn K H H') (b : Mn K H' H'') : Mn K H H'' := ⟨fun x xs s => b.t _ _ (a.t x xs s), fun x xs s => b.f _ _ (a.f x xs s)⟩
section
variable {σ : L2.St} {env : Env} {h1 h0 h h' : AH} {H1 Hpre H0 H H' : Hp} {D : Addr} {acc : List Py.D}
theorem CS2.go (c : CS2 K M σ env h1 H1 D Hpre h0 H0 acc h H) (t : Tr h H h' H') (r : RelH K M h' H') : CS2 K M σ env h1 H1 D Hpre h0 H0 acc h' H' :=
  ⟨c.c.go t r, fun p o n e z => let ⟨e1, z1⟩ := c.kp p o n e z; t.keep _ _ e1 z1, c.mn.trans (t.mn c.c.rel)⟩
theorem CS2.push {d : Py.D} {y : V} (c : CS2 K M σ env h1 H1 D Hpre h0 H0 acc h H) (hD : H1 D = none) (hd : ∀ o, Hpre D = none → H0 D = some o → h0 D = none → False) (t : Tr h H h' H') (r : RelH K M h' H') (p : Rep K M H' y d) :
    ∃ vs, H' D = some (.lst vs) ∧ vs.length = acc.length ∧ CS2 K M σ env h1 H1 D Hpre h0 H0 (acc ++ [d]) h' (upd H' D (.lst (vs ++ [y]))) := by
  obtain ⟨vs, hv, hl, c2⟩ := c.c.push hD t r p
  have g := c.go t r
  refine ⟨vs, hv, hl, c2, fun p o n e z => ?_, g.mn.trans (mn_own hv)⟩
  obtain ⟨e1, z1⟩ := g.kp p o n e z
  have ne : p ≠ D := fun w => by subst w; exact hd o n e z
  exact ⟨by rw [upd_ne ne]; exact e1, z1⟩
end
/-- what a turn does with the list -/
def addL (D : Addr) (Nx : Hp → Prop) : Option V → Hp → Prop
  | some y, H => ∃ acc, H D = some (.lst acc) ∧ acc.length < sizeLine ∧ Nx (upd H D (.lst (acc ++ [y])))
  | none, H => Nx H
/-- the turns over one source -/
theorem wcomp_lc {σ : L2.St} {env : Env} {h1 h0 hs : AH} {H1 Hpre H0 Hs : Hp} {D : Addr} {s : Src} {J : L2.It} {step : Py.D → AH → (Option Py.D → AH → Prop) → Prop} {tl : V → L2.St → Hp → (Option V → Hp → Prop) → Prop} {Qf : List Py.D → AH → Prop} {acc0 : List Py.D}
    (hD : H1 D = none) (hd : ∀ o, Hpre D = none → H0 D = some o → h0 D = none → False) (wk : Walks K M s J Hpre h0 H0) (so : StepOk K M σ env step tl) (hw : wComp s.chk step s.items acc0 hs Qf) (c0 : CS2 K M σ env h1 H1 D Hpre h0 H0 acc0 hs Hs) :
    ∃ W1 : Nat → Nat → Hp → Prop, (∃ m, W1 0 m Hs) ∧ ∀ j k H, W1 j k H → (J.stop j H ∧ ∃ acc h, Qf acc h ∧ CS2 K M σ env h1 H1 D Hpre h0 H0 acc h H) ∨
      (J.go j H ∧ ∃ Nx : Hp → Prop, (∀ H', Nx H' → ∃ k', k' < k ∧ W1 (j + 1) k' H') ∧ ∀ x H', J.yld j H x H' → tl x σ H' (addL D Nx)) := by
  refine ⟨fun j k H => ∃ acc h, k = s.items.length - j ∧ j ≤ s.items.length ∧ CS2 K M σ env h1 H1 D Hpre h0 H0 acc h H ∧ wComp s.chk step (s.items.drop j) acc h Qf, ⟨_, acc0, hs, rfl, Nat.zero_le _, c0, hw⟩, ?_⟩
  rintro j k H ⟨acc, h, rfl, hj, c, w⟩
  by_cases e : j < s.items.length
  · refine .inr ?_
    have hi : s.items[j]? = some s.items[j] := List.getElem?_eq_getElem e
    rw [List.drop_eq_getElem_cons e] at w
    obtain ⟨ck, w⟩ := w
    obtain ⟨go, yl⟩ := (wk h H c.kp c.mn c.c.rel ck j).1 _ hi
    refine ⟨go, fun H' => ∃ acc h, CS2 K M σ env h1 H1 D Hpre h0 H0 acc h H' ∧ wComp s.chk step (s.items.drop (j + 1)) acc h Qf, fun H' ⟨acc, h, c, w⟩ => ⟨s.items.length - (j + 1), by omega, acc, h, rfl, e, c, w⟩, fun x H' y => ?_⟩
    obtain ⟨rfl, rx⟩ := yl x H' y
    refine so _ x h H' _ _ c.c.rel c.c.rs rx w fun o h2 ov H2 q2 t2 r2 p2 => ?_
    cases o with
    | none =>
      cases ov with
      | none => exact ⟨acc, h2, c.go t2 r2, q2⟩
      | some y => exact p2.elim
    | some d =>
      cases ov with
      | none => exact p2.elim
      | some y =>
        obtain ⟨vs, hv, hl, c2⟩ := c.push hD hd t2 r2 p2
        exact ⟨vs, hv, by rw [hl, sizeLine_eq]; exact q2.1, _, h2, c2, q2.2⟩
  · have ej : j = s.items.length := by omega
    subst ej
    rw [List.drop_length] at w
    exact .inl ⟨(wk h H c.kp c.mn c.c.rel w.1 _).2 (Nat.le_refl _), acc, h, w.2, c⟩
theorem kp_of {Hpre : Hp} {h0 h : AH} {H0 H : Hp} (t : Tr h0 H0 h H) : Kp Hpre h0 H0 h H := fun p o _ e z => t.keep p o e z
/-- a list comprehension of one clause -/
theorem s_lc1 {mi : TI} {step : Env → Py.D → AH → (Option Py.D → AH → Prop) → Prop} {g : L2.TG} {tt : L2.TT} {te : L2.TE} {own : List Nat} (so : ∀ σ env, StepOk K M σ env (step env) (turnL g tt te own)) {σ : L2.St} {H : Hp} {Q : VK}
    (q : tOf K M W (fun env h Q X => mi env h (fun s h1 => wComp s.chk (step env) s.items [] h1 fun acc h2 => Q (.o (.lst acc)) h2) X) σ H Q) : tLc (tiOf K M W mi) g tt te own σ H Q := by
  obtain ⟨env, h, Q0, X0, nw, q, hq⟩ := q
  refine ⟨env, h, _, X0, nw, q, fun s h1 J H1 q1 t1 r1 wk => ?_⟩
  intro D hD
  have hn := Tr.new (u := .lst []) r1 hD
  obtain ⟨W1, w0, w1⟩ := wcomp_lc (D := D) (Hs := upd H1 D (.lst [])) hD (fun o _ e _ => by rw [hD] at e; cases e) wk (so σ env) q1 ⟨CSt.new r1 (nw.rs.mono (t1.mn nw.rel)) hD, kp_of hn, hn.mn r1⟩
  refine ⟨W1, w0, fun i m H3 w => ?_⟩
  rcases w1 i m H3 w with ⟨st, acc, h3, q3, c3⟩ | ⟨go, Nx, hN, y⟩
  · refine .inl ⟨st, hq _ _ _ _ q3 (t1.trans c3.c.tr) c3.c.rel ⟨D, rfl, ?_, c3.c.nn, c3.c.ls⟩⟩
    cases e : H D with
    | none => rfl
    | some u => exact absurd hD (t1.grow D (by rw [e]; simp))
  · exact .inr ⟨go, Nx, hN, y⟩
theorem yes_i {σ : L2.St} {H : Hp} {p q : Hp → Prop} (w : p H) : tYes σ H (fun b H3 => if b = true then p H3 else q H3) := by
  unfold tYes
  show (if true = true then p H else q H)
  rw [if_pos rfl]
  exact w
/-- .. of two -/
theorem s_lc2 {mi mi1 : TI} {mt mt1 : TG} {me : TX} {own own1 : List Nat} {σ : L2.St} {H : Hp} {Q : VK} (q : tOf K M W (xComp2 mt mi own mt1 mi1 own1 me) σ H Q) :
    tLc2 (tiOf K M W mi) (tgOf K M own.contains mt) tYes (tiOf K M W0 mi1) (tgOf K M own1.contains mt1) tYes (tOf K M W0 me) own own1 σ H Q := by
  obtain ⟨env, h, Q0, X0, nw, q, hq⟩ := q
  refine ⟨env, h, _, X0, nw, q, fun s h1 J H1 q1 t1 r1 wk => ?_⟩
  intro D hD
  refine ⟨fun i m H => ∃ acc h, m = s.items.length - i ∧ i ≤ s.items.length ∧ CSt K M σ env h1 H1 D acc h H ∧ wComp2 s.chk (stepC2 mt env own mt1 mi1 own1 me) (s.items.drop i) acc h (fun acc h2 => Q0 (.o (.lst acc)) h2),
    ⟨_, [], h1, rfl, Nat.zero_le _, CSt.new r1 (nw.rs.mono (t1.mn nw.rel)) hD, q1⟩, ?_⟩
  rintro i m H3 ⟨acc, h3, rfl, hi, c, w⟩
  have wk' := wk h3 H3 (kp_of c.tr) (c.tr.mn r1) c.rel
  by_cases e : i < s.items.length
  · refine .inr ?_
    have hx : s.items[i]? = some s.items[i] := List.getElem?_eq_getElem e
    rw [List.drop_eq_getElem_cons e] at w
    obtain ⟨ck, w⟩ := w
    obtain ⟨go, yl⟩ := (wk' ck i).1 _ hx
    refine ⟨go, fun H' => ∃ acc h, CSt K M σ env h1 H1 D acc h H' ∧ wComp2 s.chk (stepC2 mt env own mt1 mi1 own1 me) (s.items.drop (i + 1)) acc h (fun acc h2 => Q0 (.o (.lst acc)) h2), fun H' ⟨acc, h, c, w⟩ => ⟨s.items.length - (i + 1), by omega, acc, h, rfl, e, c, w⟩, fun x H' y => ?_⟩
    obtain ⟨rfl, rx⟩ := yl x H' y
    refine ⟨_, Py.wipe env own, h3, _, c.rel, c.rs.wipe own, rx, w, fun env2 h4 σ2 H4 q4 t4 r4 s4 a4 => ⟨wipe_ag a4, ?_⟩⟩
    refine yes_i ?_
    refine ⟨env2, h4, _, noX, ⟨r4, s4, no_x⟩, q4, fun s1 h5 J1 H5 q5 t5 r5 wk1 => ?_⟩
    have c5 := (c.go t4 r4).go t5 r5
    have c5' : CSt K M σ2 env2 h1 H1 D acc h5 H5 := ⟨c5.rel, s4.mono (t5.mn r4), c5.tr, c5.nn, c5.ls⟩
    have hd : ∀ o, H4 D = none → H5 D = some o → h5 D = none → False := fun o z _ _ => by
      obtain ⟨vs, hv, _⟩ := (c.go t4 r4).ls
      rw [z] at hv
      cases hv
    obtain ⟨W1, w0, w1⟩ := wcomp_lc (D := D) hD hd wk1 (step_c (mt := mt1) (me := me) (own := own1) (σ := σ2) (env := env2)) q5 ⟨c5', fun p o _ a b => ⟨a, b⟩, ⟨fun _ _ z => z, fun _ _ z => z⟩⟩
    refine ⟨W1, w0, fun j k H6 w6 => ?_⟩
    rcases w1 j k H6 w6 with ⟨st, acc6, h6, q6, c6⟩ | ⟨go1, Nx1, hN1, y1⟩
    · exact .inl ⟨st, acc6, h6, ⟨c6.c.rel, c5.rs.mono c6.mn, c6.c.tr, c6.c.nn, c6.c.ls⟩, q6⟩
    · exact .inr ⟨go1, Nx1, hN1, y1⟩
  · have ej : i = s.items.length := by omega
    subst ej
    rw [List.drop_length] at w
    refine .inl ⟨(wk' w.1 _).2 (Nat.le_refl _), hq _ _ _ _ w.2 (t1.trans c.tr) c.rel ⟨D, rfl, ?_, c.nn, c.ls⟩⟩
    cases e : H D with
    | none => rfl
    | some u => exact absurd hD (t1.grow D (by rw [e]; simp))
end
end Py
namespace Py
open L2 PySem.Spec PySem PyProof.Rows
theorem trE_plain {F : Str → Bool} {N : List Str} {n : Nat} {sc : Scope} {e : Expr} {ex : Ex} (h : trE F N n sc e = some ex) : plainE e = true := by
  cases n with
  | zero => unfold trE at h; cases h
  | succ n =>
    cases e with
    | Starred _ _ => unfold trE at h; cases h
    | Slice _ _ _ _ => unfold trE at h; cases h
    | Set _ _ _ => unfold trE at h; cases h
    | Call f es ks pos =>
      cases f with
      | Name x p =>
        unfold trE at h
        cases ks with
        | nil =>
          simp only at h
          show okN x = true
          by_cases o : okN x = true
          · exact o
          · rw [if_neg o] at h; cases h
        | cons _ _ => cases h
      | _ => rfl
    | _ => rfl
theorem vis_of {X : Cx} {sc : Scope} {x : Str} (e : X.env.scope = sc) (h : visB sc x = true) : Vis X.env.scope x := by
  unfold visB at h
  unfold Vis
  rw [e]
  split at h
  · exact .inl (by assumption)
  · exact .inr (.inl (by assumption))
  · exact .inr (.inr (by assumption))
  · cases h
theorem glo_of {X : Cx} {sc : Scope} {x : Str} (e : X.env.scope = sc) (h : gloB sc x = true) : Gl X x := by
  unfold gloB at h
  show X.env.scope.names.lookup x = _
  rw [e]
  split at h
  · assumption
  · cases h
theorem okN_d {x : Str} (h : okN x = true) : (x == ("__debug__" : Str)) = false ∧ (x == ("__classdict__" : Str)) = false ∧ x ≠ "__name__" := by
  unfold okN at h
  simp only [Bool.and_eq_true, Bool.not_eq_true', beq_eq_false_iff_ne] at h
  obtain ⟨⟨⟨_, h1⟩, h2⟩, h3⟩ := h
  exact ⟨beq_eq_false_iff_ne.mpr h1, beq_eq_false_iff_ne.mpr h2, h3⟩
section
variable {X : Cx} {W : WX} {P : Prog} {n : Nat}
theorem s_glo (S : Sit P n X W) {x : Str} {pos : Pos} (hg : Gl X x) (hd : (x == ("__debug__" : Str)) = false) : PE X (.Name x pos) (eOf X W (xGlo P.gl x)) := ⟨fun pins s σ H Q I ⟨env, h, Q0, X0, nw, ⟨d, e, q⟩, hq⟩ => by
  obtain ⟨v, u, hm, rv, rp⟩ := S.glo x d e
  exact (pe_glob hg hm rv hd).run pins s σ H Q I (hq _ _ _ _ q .refl nw.rel (rp H))⟩
theorem s_const {c : Const} {d : D} {k : Nat} {pos : Pos} (h : trC c = some d) : ∃ v : V, PE X (.Constant c k pos) (tC v) ∧ ∀ H, Rep X.K X.mg H v d := by
  unfold trC at h
  split at h
  · cases h; exact ⟨_, pe_non, fun H => .non⟩
  · cases h; exact ⟨_, pe_bl, fun H => .bl _⟩
  · cases h; exact ⟨_, pe_int, fun H => .int _⟩
  · cases h; exact ⟨_, pe_str, fun H => .str _⟩
  · cases h
theorem s_isC {e : Expr} {d : D} (h : trIsC e = some d) : ∃ v : V, PE X e (tC v) ∧ ∀ H, Rep X.K X.mg H v d := by
  unfold trIsC at h
  split at h
  · cases h; exact ⟨_, pe_non, fun H => .non⟩
  · cases h; exact ⟨_, pe_bl, fun H => .bl _⟩
  · cases h
theorem trOp_eq {op : Operator} {o : Bop} (h : trOp op = some o) : op = opOf o := by
  unfold trOp at h
  split at h <;> first | (cases h; rfl) | cases h
theorem trCop_eq {op : CmpOp} {o : Cop} (h : trCop op = some o) : op = copOf o := by
  unfold trCop at h
  split at h <;> first | (cases h; rfl) | cases h
theorem trIs_eq {op : CmpOp} {b : Bool} (h : trIs op = some b) : op = if b then .IsNot else .Is := by
  unfold trIs at h
  split at h <;> first | (cases h; rfl) | cases h
theorem Sit.hu (S : Sit P n X W) : X.A.units + 65 < cLine := by
  have := S.room.un
  have e : cLine = 9900 := rfl
  omega
end
/-- what is shown of an expression -/
def EOk (P : Prog) (n : Nat) (F : Str → Bool) (N : List Str) (m : Nat) : Prop := ∀ (sc : Scope) (e : Expr) (ex : Ex), trE F N m sc e = some ex → ∀ (X : Cx) (W : WX), Sit P n X W → X.env.scope = sc → X.N = N →
  PE X e (eOf X W (wX (wC P n) P.gl ex)) ∧ PT X e (cOf X W (wX (wC P n) P.gl ex))
section
variable {P : Prog} {n : Nat} {F : Str → Bool} {N : List Str} {m : Nat} (hF : ∀ f, F f = true → P.fn f ≠ none) (ih : EOk P n F N m)
include ih
theorem s_es {sc : Scope} {X : Cx} {W : WX} (S : Sit P n X W) (hs : X.env.scope = sc) (hN : X.N = N) : ∀ {es : List Expr} {r : Es}, trEs (trE F N m sc) es = some r →
    PA X es (aOf X W (wEs (wC P n) P.gl r)) ∧ (∀ e ∈ es, plainE e = true) ∧ (es = [] → wEs (wC P n) P.gl r = esNil)
  | [], r, h => by
    unfold trEs at h
    cases h
    exact ⟨s_nil, (fun e he => nomatch he), fun _ => rfl⟩
  | e :: es, r, h => by
    unfold trEs at h
    simp only [bind, Option.bind_eq_some_iff, pure, Option.some.injEq] at h
    obtain ⟨a, h1, r', h2, rfl⟩ := h
    obtain ⟨g1, g2, _⟩ := s_es S hs hN h2
    have hp := trE_plain h1
    exact ⟨s_cons (ih sc e a h1 X W S hs hN).1 g1 (plain_star hp es X.env), fun x hx => (List.mem_cons.mp hx).elim (fun q => q ▸ hp) (g2 x), fun q => nomatch q⟩
theorem s_bool {sc : Scope} {X : Cx} {W : WX} (S : Sit P n X W) (hs : X.env.scope = sc) (hN : X.N = N) {op : BoolOp} {pos : Pos} : ∀ {es : List Expr} {ex : Ex}, trBool (trE F N m sc) op es = some ex →
    PE X (.BoolOp op es pos) (eOf X W (wX (wC P n) P.gl ex)) ∧ PW X (.BoolOp op es pos) (cOf X W (wX (wC P n) P.gl ex))
  | [], ex, h => by
    unfold trBool at h
    cases h
  | [a], ex, h => by
    unfold trBool at h
    exact s_one (ih sc a ex h X W S hs hN)
  | a :: b :: r, ex, h => by
    unfold trBool at h
    simp only [bind, Option.bind_eq_some_iff, pure, Option.some.injEq] at h
    obtain ⟨x, h1, y, h2, rfl⟩ := h
    have g1 := ih sc a x h1 X W S hs hN
    have g2 := s_bool (pos := pos) S hs hN h2
    cases op with
    | And => exact s_and (mX (wC_mono P n) x) g1 g2
    | Or => exact s_or (mX (wC_mono P n) x) g1 g2
theorem s_o {sc : Scope} {X : Cx} {W : WX} (S : Sit P n X W) (hs : X.env.scope = sc) (hN : X.N = N) {o : Option Expr} {r : Oe} (h : trO (trE F N m sc) o = some r) : PO X o (oOf X W (wO (wC P n) P.gl r)) := by
  cases o with
  | none =>
    unfold trO at h
    cases h
    exact s_oNo
  | some e =>
    unfold trO at h
    simp only [bind, Option.bind_eq_some_iff, pure, Option.some.injEq] at h
    obtain ⟨x, h1, rfl⟩ := h
    exact s_oSo (ih sc e x h1 X W S hs hN).1
theorem s_it {sc : Scope} {X : Cx} {W : WX} (S : Sit P n X W) (hs : X.env.scope = sc) (hN : X.N = N) {tg e : Expr} {it : It} (h : trI sc (trE F N m sc) e = some it) : PI X tg e (iOf X W (wI (wC P n) P.gl it)) := by
  have seq : ∀ {e : Expr} {x : Ex}, trE F N m sc e = some x → PI X tg e (iOf X W (wI (wC P n) P.gl (.seq x))) := fun {e x} h => s_iseq (ih sc e x h X W S hs hN).1
  unfold trI at h
  split at h
  · rename_i g es pos
    split at h
    · rename_i hg
      have rg : ∃ p, g = .Name "range" p ∧ Gl X "range" := by
        unfold isRng at hg
        split at hg
        · rename_i x p
          rw [Bool.and_eq_true, decide_eq_true_eq] at hg
          obtain ⟨rfl, hg⟩ := hg
          exact ⟨p, rfl, glo_of hs hg⟩
        · cases hg
      obtain ⟨p, rfl, hG⟩ := rg
      split at h
      · simp only [bind, Option.bind_eq_some_iff, pure, Option.some.injEq] at h
        obtain ⟨x, h1, rfl⟩ := h
        exact s_ir1 S hG (trE_plain h1) (ih sc _ x h1 X W S hs hN).1
      · simp only [bind, Option.bind_eq_some_iff, pure, Option.some.injEq] at h
        obtain ⟨x, h1, y, h2, rfl⟩ := h
        exact s_ir2 S hG (trE_plain h1) (trE_plain h2) (ih sc _ x h1 X W S hs hN).1 (ih sc _ y h2 X W S hs hN).1
      · simp only [bind, Option.bind_eq_some_iff, pure, Option.some.injEq] at h
        obtain ⟨x, h1, y, h2, z, h3, rfl⟩ := h
        exact s_ir3 S hG (trE_plain h1) (trE_plain h2) (trE_plain h3) (ih sc _ x h1 X W S hs hN).1 (ih sc _ y h2 X W S hs hN).1 (ih sc _ z h3 X W S hs hN).1
      · cases h
    · simp only [bind, Option.bind_eq_some_iff, pure, Option.some.injEq] at h
      obtain ⟨x, h1, rfl⟩ := h
      exact seq h1
  · simp only [bind, Option.bind_eq_some_iff, pure, Option.some.injEq] at h
    obtain ⟨x, h1, rfl⟩ := h
    exact seq h1
omit ih in
theorem trI_plain {sc : Scope} {e : Expr} {it : It} (h : trI sc (trE F N m sc) e = some it) : plainE e = true := by
  unfold trI at h
  split at h
  · rename_i g es pos
    split at h
    · rename_i hg
      unfold isRng at hg
      split at hg
      · rw [Bool.and_eq_true, decide_eq_true_eq] at hg
        obtain ⟨rfl, hg⟩ := hg
        exact (show okN "range" = true by decide +kernel)
      · cases hg
    · simp only [bind, Option.bind_eq_some_iff, pure, Option.some.injEq] at h
      obtain ⟨x, h1, rfl⟩ := h
      exact trE_plain h1
  · simp only [bind, Option.bind_eq_some_iff, pure, Option.some.injEq] at h
    obtain ⟨x, h1, rfl⟩ := h
    exact trE_plain h1
end
/-- plainly its value's truth -/
theorem pl_t {X : Cx} {e : Expr} (h : ∀ whole, isTrue e X.env whole = (do let v ← whole; standAt e.pos; holding [v] (truthy v))) : PlainT X e := h
theorem loc_of {X : Cx} {scope : Scope} {x : Str} (e : X.env.scope.names.lookup x = scope.names.lookup x ∨ True) : True := trivial
theorem blk_ok {X : Cx} {scope : Scope} {s : Shared} {H : Hp} {C : Addr} {cl : List (Str × Addr)} {fp : List Addr} {x : Str} (h : locB scope x = true) :
    Loc (X.blk s H scope (compEnvC scope cl C X.env) fp).env.scope x ∧ ((X.blk s H scope (compEnvC scope cl C X.env) fp).fn x = true ∨ (X.blk s H scope (compEnvC scope cl C X.env) fp).env.scope.names.lookup x = some .local) := by
  have e : (compEnvC scope cl C X.env).scope = relS scope X.env.scope := rfl
  show Loc (compEnvC scope cl C X.env).scope x ∧ ((scope.names.lookup x == some .cell) = true ∨ (compEnvC scope cl C X.env).scope.names.lookup x = some .local)
  rw [e]
  unfold locB at h
  split at h
  · rename_i q
    have := lookup_relS_keep (sc := X.env.scope) (by decide) q
    exact ⟨.inl this, .inr this⟩
  · rename_i q
    have := lookup_relS_keep (sc := X.env.scope) (by decide) q
    exact ⟨.inr this, .inl (by rw [q]; rfl)⟩
  · cases h
end Py
namespace Py
open L2 PySem.Spec PySem PyProof.Rows
theorem isRng_eq {sc : Scope} {g : Expr} (h : isRng sc g = true) : ∃ p, g = .Name "range" p ∧ gloB sc "range" = true := by
  unfold isRng at h
  split at h
  · rename_i x p
    rw [Bool.and_eq_true, decide_eq_true_eq]
        at h
    obtain ⟨rfl, h⟩ := h
    exact ⟨p, rfl, h⟩
  · cases h
theorem trI_1 {sc : Scope} {f : Expr → Option Ex} {e : Expr} {i : Ex} (h : trI sc f e = some (.rng1 i)) : ∃ p a pos, e = .Call (.Name "range" p) [a] [] pos ∧ gloB sc "range" = true ∧ f a = some i := by
  unfold trI at h
  split at h
  · split at h
    · rename_i hg
      obtain ⟨p, rfl, hG⟩ := isRng_eq hg
      split at h
      · simp only [bind, Option.bind_eq_some_iff, pure, Option.some.injEq] at h
        obtain ⟨x, h1, h2⟩ := h
        cases h2
        exact ⟨_, _, _, rfl, hG, h1⟩
      · simp only [bind, Option.bind_eq_some_iff, pure, Option.some.injEq] at h
        obtain ⟨x, h1, y, h2, h3⟩ := h
        cases h3
      · simp only [bind, Option.bind_eq_some_iff, pure, Option.some.injEq] at h
        obtain ⟨x, h1, y, h2, z, h3, h4⟩ := h
        cases h4
      · cases h
    · simp only [bind, Option.bind_eq_some_iff, pure, Option.some.injEq] at h
      obtain ⟨x, h1, h2⟩ := h
      cases h2
  · simp only [bind, Option.bind_eq_some_iff, pure, Option.some.injEq] at h
    obtain ⟨x, h1, h2⟩ := h
    cases h2
theorem trI_2 {sc : Scope} {f : Expr → Option Ex} {e : Expr} {i j : Ex} (h : trI sc f e = some (.rng2 i j)) : ∃ p a b pos, e = .Call (.Name "range" p) [a, b] [] pos ∧ gloB sc "range" = true ∧ f a = some i ∧ f b = some j := by
  unfold trI at h
  split at h
  · split at h
    · rename_i hg
      obtain ⟨p, rfl, hG⟩ := isRng_eq hg
      split at h
      · simp only [bind, Option.bind_eq_some_iff, pure, Option.some.injEq] at h
        obtain ⟨x, h1, h2⟩ := h
        cases h2
      · simp only [bind, Option.bind_eq_some_iff, pure, Option.some.injEq] at h
        obtain ⟨x, h1, y, h2, h3⟩ := h
        cases h3
        exact ⟨_, _, _, _, rfl, hG, h1, h2⟩
      · simp only [bind, Option.bind_eq_some_iff, pure, Option.some.injEq] at h
        obtain ⟨x, h1, y, h2, z, h3, h4⟩ := h
        cases h4
      · cases h
    · simp only [bind, Option.bind_eq_some_iff, pure, Option.some.injEq] at h
      obtain ⟨x, h1, h2⟩ := h
      cases h2
  · simp only [bind, Option.bind_eq_some_iff, pure, Option.some.injEq] at h
    obtain ⟨x, h1, h2⟩ := h
    cases h2
/-- a comprehension, whatever is done with it -/
structure LcOk (X : Cx) (W : WX) (P : Prog) (n : Nat) (elt : Expr) (gens : List Comprehension) (scope : Scope) (ex : Ex) : Prop where
  one : (∃ (tg iter : Expr) (ifs : List Expr) (own : List (Str × Nat)) (g : L2.TG) (tt : L2.TT) (te : L2.TE) (wi : L2.TI), gens = [⟨tg, iter, ifs, 0⟩] ∧ PI X tg iter wi ∧ BlkOk X.N X.env.scope scope own ∧
      (∀ (s : Shared) (H : Hp) (C : Addr) (cl : List (Str × Addr)) (fp : List Addr), PG (X.blk s H scope (compEnvC scope cl C X.env) fp) tg g) ∧ (∀ (s : Shared) (H : Hp) (C : Addr) (cl : List (Str × Addr)) (fp : List Addr), PTs (X.blk s H scope (compEnvC scope cl C X.env) fp) ifs tt) ∧
      (∀ (s : Shared) (H : Hp) (C : Addr) (cl : List (Str × Addr)) (fp : List Addr), PE (X.blk s H scope (compEnvC scope cl C X.env) fp) elt te) ∧ (∀ x, foldedSetIterable iter X.env x = pure x) ∧
      ∀ σ H Q, eOf X W (wX (wC P n) P.gl ex) σ H Q → tLc wi g tt te (own.map (·.2)) σ H Q) ∨
    (∃ (tg iter tg1 iter1 : Expr) (own : List (Str × Nat)) (g g1 : L2.TG) (te : L2.TE) (wi wi1 : L2.TI) (vs1 : List Nat), gens = [⟨tg, iter, [], 0⟩, ⟨tg1, iter1, [], 0⟩] ∧ (∀ i ∈ vs1, i ∈ own.map (·.2)) ∧ PI X tg iter wi ∧ BlkOk X.N X.env.scope scope own ∧
      (∀ (s : Shared) (H : Hp) (C : Addr) (cl : List (Str × Addr)) (fp : List Addr), PG (X.blk s H scope (compEnvC scope cl C X.env) fp) tg g) ∧ (∀ (s : Shared) (H : Hp) (C : Addr) (cl : List (Str × Addr)) (fp : List Addr), PI (X.blk s H scope (compEnvC scope cl C X.env) fp) tg1 iter1 wi1) ∧
      (∀ (s : Shared) (H : Hp) (C : Addr) (cl : List (Str × Addr)) (fp : List Addr), PG (X.blk s H scope (compEnvC scope cl C X.env) fp) tg1 g1) ∧
      (∀ (s : Shared) (H : Hp) (C : Addr) (cl : List (Str × Addr)) (fp : List Addr), PE (X.blk s H scope (compEnvC scope cl C X.env) fp) elt te) ∧ (∀ x, foldedSetIterable iter X.env x = pure x) ∧ (∀ env x, foldedSetIterable iter1 env x = pure x) ∧
      ∀ σ H Q, eOf X W (wX (wC P n) P.gl ex) σ H Q → tLc2 wi g tYes wi1 g1 tYes te (own.map (·.2)) vs1 σ H Q)
theorem lc_ok {P : Prog} {n : Nat} {F : Str → Bool} {N : List Str} {m : Nat} (ih : EOk P n F N m) {sc : Scope} {X : Cx} {W : WX} (S : Sit P n X W) (hs : X.env.scope = sc) (hN : X.N = N) {elt : Expr} {gens : List Comprehension} {scope : Scope} {pos : Pos} {ex : Ex}
    (h : trE F N (m + 1) sc (.ListComp elt gens scope pos) = some ex) : LcOk X W P n elt gens scope ex := by
  have S' := fun (s : Shared) (H : Hp) (C : Addr) (cl : List (Str × Addr)) (fp : List Addr) => S.blk s H scope (compEnvC scope cl C X.env) fp
  have es : ∀ (s : Shared) (H : Hp) (C : Addr) (cl : List (Str × Addr)) (fp : List Addr), (X.blk s H scope (compEnvC scope cl C X.env) fp).env.scope = relS scope sc := fun s H C cl fp => by rw [← hs]; rfl
  unfold trE at h
  simp only at h
  split at h
  · -- one clause
    rename_i t it ifs
    split at h
    · rename_i hb
      simp only [bind, Option.bind_eq_some_iff, pure, Option.some.injEq] at h
      obtain ⟨t', h1, h⟩ := h
      split at h
      · rename_i ht
        simp only [bind, Option.bind_eq_some_iff, pure, Option.some.injEq] at h
        obtain ⟨it', h2, e', h3, h⟩ := h
        have hb' : BlkOk X.N X.env.scope scope (ownOf N scope.names) := by rw [hs, hN]; exact blkOk_by hb
        have hg := fun (s : Shared) (H : Hp) (C : Addr) (cl : List (Str × Addr)) (fp : List Addr) => s_tgt (X := X.blk s H scope (compEnvC scope cl C X.env) fp) (p := ((ownOf N scope.names).map (·.2)).contains) (ok := locB scope) S.calm S.nd hN (fun x hx => blk_ok hx) 4 t t' h1 ht
        have he := fun (s : Shared) (H : Hp) (C : Addr) (cl : List (Str × Addr)) (fp : List Addr) => (ih _ elt e' h3 _ _ (S' s H C cl fp) (es s H C cl fp) hN).1
        have hi := s_it (tg := t) ih S hs hN h2
        split at h
        · cases h
          exact ⟨.inl ⟨t, it, [], _, _, _, _, _, rfl, hi, hb', hg, fun _ _ _ _ _ => pts_nil, he, plain_fold (trI_plain h2) X.env, fun σ H Q q => s_lc1 (fun σ env => step_c) q⟩⟩
        · rename_i c
          simp only [bind, Option.bind_eq_some_iff, pure, Option.some.injEq] at h
          obtain ⟨c', h4, rfl⟩ := h
          have hc := fun (s : Shared) (H : Hp) (C : Addr) (cl : List (Str × Addr)) (fp : List Addr) => pts_one (ih _ c c' h4 _ _ (S' s H C cl fp) (es s H C cl fp) hN).2
          exact ⟨.inl ⟨t, it, [c], _, _, _, _, _, rfl, hi, hb', hg, hc, he, plain_fold (trI_plain h2) X.env, fun σ H Q q => s_lc1 (fun σ env => step_ci) q⟩⟩
        · cases h
      · cases h
    · cases h
  · -- two
    rename_i t it t1 it1
    split at h
    · rename_i hb
      simp only [bind, Option.bind_eq_some_iff, pure, Option.some.injEq] at h
      obtain ⟨t', h1, t1', h1', h⟩ := h
      split at h
      · rename_i ht
        rw [Bool.and_eq_true] at ht
        have ht2 := ht.2
        rw [Bool.and_eq_true] at ht2
        have hv : ∀ i ∈ tgIdx t1', i ∈ (ownOf N scope.names).map (·.2) := fun i hi => by simpa using List.all_eq_true.mp ht2.2 i hi
        simp only [bind, Option.bind_eq_some_iff, pure, Option.some.injEq] at h
        obtain ⟨it', h2, it1', h2', e', h3, rfl⟩ := h
        have hb' : BlkOk X.N X.env.scope scope (ownOf N scope.names) := by rw [hs, hN]; exact blkOk_by hb
        have hg := fun (s : Shared) (H : Hp) (C : Addr) (cl : List (Str × Addr)) (fp : List Addr) => s_tgt (X := X.blk s H scope (compEnvC scope cl C X.env) fp) (p := ((ownOf N scope.names).map (·.2)).contains) (ok := locB scope) S.calm S.nd hN (fun x hx => blk_ok hx) 4 t t' h1 ht.1
        have hg1 := fun (s : Shared) (H : Hp) (C : Addr) (cl : List (Str × Addr)) (fp : List Addr) => s_tgt (X := X.blk s H scope (compEnvC scope cl C X.env) fp) (p := (tgIdx t1').contains) (ok := locB scope) S.calm S.nd hN (fun x hx => blk_ok hx) 4 t1 t1' h1' ht2.1
        have he := fun (s : Shared) (H : Hp) (C : Addr) (cl : List (Str × Addr)) (fp : List Addr) => (ih _ elt e' h3 _ _ (S' s H C cl fp) (es s H C cl fp) hN).1
        have hi := s_it (tg := t) ih S hs hN h2
        have hi1 := fun (s : Shared) (H : Hp) (C : Addr) (cl : List (Str × Addr)) (fp : List Addr) => s_it (tg := t1) ih (S' s H C cl fp) (es s H C cl fp) hN h2'
        exact ⟨.inr ⟨t, it, t1, it1, _, _, _, _, _, _, _, rfl, hv, hi, hb', hg, hi1, hg1, he, plain_fold (trI_plain h2) X.env, fun env x => plain_fold (trI_plain h2') env x, fun σ H Q q => s_lc2 q⟩⟩
      · cases h
    · cases h
  · cases h
theorem sE {P : Prog} {n : Nat} {F : Str → Bool} {N : List Str} (hF : ∀ f, F f = true → P.fn f ≠ none) : ∀ m, EOk P n F N m
  | 0 => fun sc e ex h => by unfold trE at h; cases h
  | m + 1 => by
    have ih := sE hF m (n := n) (N := N)
    intro sc e ex h X W S hs hN
    have hu := S.hu
    cases e with
    | Constant c k pos =>
      unfold trE at h
      obtain ⟨d, hd, rfl⟩ := Option.map_eq_some_iff.mp h
      obtain ⟨v, g1, g2⟩ := s_const (X := X) (k := k) (pos := pos) hd
      have g := s_lit (W := W) g1 g2
      exact ⟨g, s_truth g fun _ => rfl⟩
    | Name x pos =>
      unfold trE at h
      simp only at h
      split at h
      · rename_i ho
        obtain ⟨d1, d2, d3⟩ := okN_d ho
        split at h
        · rename_i hv
          obtain ⟨i, hi, rfl⟩ := Option.map_eq_some_iff.mp h
          have g := s_var (W := W) (pe_var (pos := pos) (hN ▸ slot_at hi) (vis_of hs hv) d1 d2)
          exact ⟨g, s_truth g fun _ => rfl⟩
        · split at h
          · rename_i hg
            rw [Bool.and_eq_true] at hg
            cases h
            have g := s_glo S (pos := pos) (glo_of hs hg.1) d1
            exact ⟨g, s_truth g fun _ => rfl⟩
          · cases h
      · cases h
    | BinOp a op b pos =>
      unfold trE at h
      simp only [bind, Option.bind_eq_some_iff, pure, Option.some.injEq] at h
      obtain ⟨o, h0, x, h1, y, h2, rfl⟩ := h
      cases trOp_eq h0
      have g := s_bin o (pos := pos) (ih sc a x h1 X W S hs hN).1 (ih sc b y h2 X W S hs hN).1
      exact ⟨g, s_truth g fun _ => rfl⟩
    | UnaryOp op a pos =>
      unfold trE at h
      cases op with
      | Not =>
        simp only [bind, Option.bind_eq_some_iff, pure, Option.some.injEq] at h
        obtain ⟨x, h1, rfl⟩ := h
        exact s_not (ih sc a x h1 X W S hs hN)
      | USub =>
        simp only [bind, Option.bind_eq_some_iff, pure, Option.some.injEq] at h
        obtain ⟨x, h1, rfl⟩ := h
        have g := s_neg (pos := pos) (ih sc a x h1 X W S hs hN).1
        exact ⟨g, s_truth g fun _ => rfl⟩
      | _ => cases h
    | BoolOp op es pos =>
      unfold trE at h
      obtain ⟨g1, g2⟩ := s_bool (pos := pos) ih S hs hN h
      exact ⟨g1, g2.pt⟩
    | IfExp c a b pos =>
      unfold trE at h
      simp only [bind, Option.bind_eq_some_iff, pure, Option.some.injEq] at h
      obtain ⟨z, h0, x, h1, y, h2, rfl⟩ := h
      exact s_ite (mX (wC_mono P n) x) (mX (wC_mono P n) y) (ih sc c z h0 X W S hs hN).2 (ih sc a x h1 X W S hs hN) (ih sc b y h2 X W S hs hN)
    | Compare a ops bs pos =>
      unfold trE at h
      simp only at h
      split at h
      · split at h
        · rename_i neg hneg
          simp only [bind, Option.bind_eq_some_iff, pure, Option.some.injEq] at h
          obtain ⟨c, h0, x, h1, rfl⟩ := h
          cases trIs_eq hneg
          obtain ⟨v, g1, g2⟩ := s_isC (X := X) h0
          exact s_isc neg c (ih sc a x h1 X W S hs hN).1 g1 g2
        · simp only [bind, Option.bind_eq_some_iff, pure, Option.some.injEq] at h
          obtain ⟨o1, h0, x, h1, y, h2, rfl⟩ := h
          cases trCop_eq h0
          exact s_cmp hu o1 (ih sc a x h1 X W S hs hN).1 (ih sc _ y h2 X W S hs hN).1 (plain_mark (trE_plain h2) _)
      · simp only [bind, Option.bind_eq_some_iff, pure, Option.some.injEq] at h
        obtain ⟨o1, h0, o2, h0', x, h1, y, h2, z, h3, rfl⟩ := h
        cases trCop_eq h0
        cases trCop_eq h0'
        exact s_chain hu o1 o2 (ih sc a x h1 X W S hs hN).1 (ih sc _ y h2 X W S hs hN).1 (ih sc _ z h3 X W S hs hN).1 (by
          show behindInMarks _ _ = false
          exact plain_mark (trE_plain h3) _)
      · cases h
    | Tuple es k pos =>
      unfold trE at h
      obtain ⟨r, hr, rfl⟩ := Option.map_eq_some_iff.mp h
      have g := s_tup (pos := pos) (k := k) (s_es ih S hs hN hr).1
      exact ⟨g, s_truth g fun _ => rfl⟩
    | List es pos =>
      unfold trE at h
      obtain ⟨r, hr, rfl⟩ := Option.map_eq_some_iff.mp h
      have g := s_lst (pos := pos) (s_es ih S hs hN hr).1
      exact ⟨g, s_truth g fun _ => rfl⟩
    | Call f es ks pos =>
      suffices g : PE X (.Call f es ks pos) (eOf X W (wX (wC P n) P.gl ex)) from ⟨g, s_truth g fun _ => rfl⟩
      cases ks with
      | cons _ _ =>
        unfold trE at h
        cases h
      | nil =>
      unfold trE at h
      simp only at h
      split at h
      · -- a name
        rename_i x p
        split at h
        · rename_i ho
          obtain ⟨d1, d2, d3⟩ := okN_d ho
          split at h
          · rename_i hv
            split at h
            · cases h
            · simp only [bind, Option.bind_eq_some_iff, pure, Option.some.injEq] at h
              obtain ⟨i, hi, r, hr, rfl⟩ := h
              obtain ⟨g1, g2, _⟩ := s_es ih S hs hN hr
              cases es with
              | nil => exact absurd rfl (by assumption)
              | cons e es => exact s_callv S (hN ▸ slot_at hi) (vis_of hs hv) d1 d2 g2 g1
          · split at h
            · rename_i hg
              have hG := glo_of hs hg
              split at h
              · split at h
                · rename_i a
                  split at h
                  · simp only [bind, Option.bind_eq_some_iff, pure, Option.some.injEq] at h
                    obtain ⟨b, hb, y, h1, rfl⟩ := h
                    exact s_b1 S hb hG (trE_plain h1) (ih sc _ y h1 X W S hs hN).1
                  · rename_i hi
                    obtain ⟨p2, a', pos2, rfl, hr, h1⟩ := trI_1 hi
                    split at h
                    · rename_i hx; cases h
                      exact s_rng1 S true hx hG (glo_of hs hr) (trE_plain h1) (ih sc _ _ h1 X W S hs hN).1
                    · split at h
                      · rename_i hx; cases h
                        exact s_rng1 S false hx hG (glo_of hs hr) (trE_plain h1) (ih sc _ _ h1 X W S hs hN).1
                      · cases h
                  · rename_i hi
                    obtain ⟨p2, a', b', pos2, rfl, hr, h1, h2⟩ := trI_2 hi
                    split at h
                    · rename_i hx; cases h
                      exact s_rng2 S true hx hG (glo_of hs hr) (trE_plain h1) (trE_plain h2) (ih sc _ _ h1 X W S hs hN).1 (ih sc _ _ h2 X W S hs hN).1
                    · split at h
                      · rename_i hx; cases h
                        exact s_rng2 S false hx hG (glo_of hs hr) (trE_plain h1) (trE_plain h2) (ih sc _ _ h1 X W S hs hN).1 (ih sc _ _ h2 X W S hs hN).1
                      · cases h
                  · cases h
                  · split at h
                    · rename_i b hb
                      simp only [bind, Option.bind_eq_some_iff, pure, Option.some.injEq] at h
                      obtain ⟨y, h1, rfl⟩ := h
                      obtain ⟨rfl, p2, q2, rfl, hs2⟩ := setA_eq hb
                      exact s_lens S.calm hG (S.blt _ (by decide +kernel)) (glo_of hs hs2) (S.blt _ (by decide +kernel)) (ih sc _ y h1 X W S hs hN).1 (plain_star (trE_plain h1) [] _)
                    · split at h
                      · rename_i b hb
                        simp only [bind, Option.bind_eq_some_iff, pure, Option.some.injEq] at h
                        obtain ⟨y, h1, rfl⟩ := h
                        obtain ⟨rfl, p2, q2, rfl, hs2⟩ := setB_eq hb
                        exact s_sset S.calm hG (S.blt _ (by decide +kernel)) (glo_of hs hs2) (S.blt _ (by decide +kernel)) (ih sc _ y h1 X W S hs hN).1 (plain_star (trE_plain h1) [] _)
                      · cases h
                · rename_i a b
                  split at h
                  · rename_i hx
                    cases hx
                    split at h
                    · split at h
                      · rename_i hgt
                        simp only [bind, Option.bind_eq_some_iff, pure, Option.some.injEq] at h
                        obtain ⟨ty, hty, y, h1, rfl⟩ := h
                        exact s_isa S hty hG (glo_of hs hgt) (trE_plain h1) (ih sc _ y h1 X W S hs hN).1
                      · cases h
                    · cases h
                  · simp only [bind, Option.bind_eq_some_iff, pure, Option.some.injEq] at h
                    obtain ⟨o, ho, y, h1, z, h2, rfl⟩ := h
                    exact s_b2 S ho hG (trE_plain h1) (trE_plain h2) (ih sc _ y h1 X W S hs hN).1 (ih sc _ z h2 X W S hs hN).1
                · cases h
              · split at h
                · rename_i hf
                  simp only [bind, Option.bind_eq_some_iff, pure, Option.some.injEq] at h
                  obtain ⟨r, hr, rfl⟩ := h
                  obtain ⟨g1, g2, g3⟩ := s_es ih S hs hN hr
                  exact s_call S (hF _ hf) hG d1 g2 g1 g3
                · cases h
            · cases h
        · cases h
      · -- a method
        rename_i o nm apos
        split at h
        · rename_i hl
          simp only [bind, Option.bind_eq_some_iff, pure, Option.some.injEq] at h
          obtain ⟨k, hk, x, h1, r, hr, rfl⟩ := h
          obtain ⟨g1, g2, g3⟩ := s_es ih S hs hN hr
          exact s_mt hu hk hl (trE_plain h1) g2 (ih sc _ x h1 X W S hs hN).1 g1 g3
        · cases h
      · cases h
    | Subscript a i pos =>
      suffices g : PE X (.Subscript a i pos) (eOf X W (wX (wC P n) P.gl ex)) from ⟨g, s_truth g fun _ => rfl⟩
      unfold trE at h
      simp only at h
      split at h
      · split at h
        · simp only [bind, Option.bind_eq_some_iff, pure, Option.some.injEq] at h
          obtain ⟨x, h1, l, h2, u, h3, rfl⟩ := h
          exact s_sl (ih sc a x h1 X W S hs hN).1 (s_o ih S hs hN h2) (s_o ih S hs hN h3)
        · simp only [bind, Option.bind_eq_some_iff, pure, Option.some.injEq] at h
          obtain ⟨k, hk, x, h1, l, h2, u, h3, rfl⟩ := h
          exact s_sls hk (ih sc a x h1 X W S hs hN).1 (s_o ih S hs hN h2) (s_o ih S hs hN h3)
      · simp only [bind, Option.bind_eq_some_iff, pure, Option.some.injEq] at h
        obtain ⟨x, h1, y, h2, rfl⟩ := h
        exact s_ix (ih sc a x h1 X W S hs hN).1 (ih sc _ y h2 X W S hs hN).1 (plain_ix (trE_plain h2))
    | ListComp elt gens scope pos =>
      suffices g : PE X (.ListComp elt gens scope pos) (eOf X W (wX (wC P n) P.gl ex)) from ⟨g, s_truth g fun _ => rfl⟩
      rcases (lc_ok ih S hs hN h).one with ⟨tg, iter, ifs, own, g, tt, te, wi, rfl, h1, h2, h3, h4, h5, h6, h7⟩ | ⟨tg, iter, tg1, iter1, own, g, g1, te, wi, wi1, vs1, rfl, hv, h1, h2, h3, h4, h5, h6, h7, h8, h9⟩
      · exact PE_le (pe_lc S.calm S.nd h1 h2 h3 h4 h5 h6) h7
      · exact PE_le (pe_lc2 S.calm S.nd h1 h2 hv h3 (fun _ _ _ _ _ => pts_nil) h4 h5 (fun _ _ _ _ _ => pts_nil) h6 h7 h8) h9
    | _ => unfold trE at h; cases h
end Py
namespace Py
open L2 PySem.Spec PySem PyProof.Rows
structure KsOk (K : PySem.W.Frag) (M : Str → Option Value) (W : WX) (h : AH) (H : Hp) (k : Ks) (D : Ends) : Prop where
  nx : ∀ env' h' σ' H', k.nx env' h' → Tr h H h' H' → RelH K M h' H' → RelS K M H' σ' env' → D.nx σ' H'
  rt : ∀ d h' v H', k.rt d h' → Tr h H h' H' → RelH K M h' H' → Rep K M H' v d → D.rt v H'
  bk : ∀ env' h' σ' H', k.bk env' h' → Tr h H h' H' → RelH K M h' H' → RelS K M H' σ' env' → D.bk σ' H'
  ct : ∀ env' h' σ' H', k.ct env' h' → Tr h H h' H' → RelH K M h' H' → RelS K M H' σ' env' → D.ct σ' H'
  ex : ∀ env' c h' σ' H' d a, k.ex env' c h' → Tr h H h' H' → RelH K M h' H' → RelS K M H' σ' env' → M c = some (.ref a) → W (.ref a) d σ' H'
def tsOf (K : PySem.W.Frag) (M : Str → Option Value) (W : WX) (m : TS) : L2.TS := fun D σ H => ∃ env h k, RelH K M h H ∧ RelS K M H σ env ∧ m env h k ∧ KsOk K M W h H k D
abbrev sOf (X : Cx) (W : WX) (m : TS) : L2.TS := tsOf X.K X.mg W m
section
variable {K : PySem.W.Frag} {M : Str → Option Value} {W : WX} {h h' : AH} {H H' : Hp} {k : Ks} {Dn : Ends} {σ : L2.St} {env : Env}
theorem KsOk.go (o : KsOk K M W h H k Dn) (t : Tr h H h' H') : KsOk K M W h' H' k Dn :=
  ⟨fun e2 h2 s2 H2 q t2 => o.nx e2 h2 s2 H2 q (t.trans t2), fun d h2 v H2 q t2 => o.rt d h2 v H2 q (t.trans t2), fun e2 h2 s2 H2 q t2 => o.bk e2 h2 s2 H2 q (t.trans t2), fun e2 h2 s2 H2 q t2 => o.ct e2 h2 s2 H2 q (t.trans t2),
    fun e2 c h2 s2 H2 d a q t2 => o.ex e2 c h2 s2 H2 d a q (t.trans t2)⟩
theorem KsOk.now (o : KsOk K M W h H k Dn) (rel : RelH K M h H) (rs : RelS K M H σ env) : Now K M W σ env h H (k.ex env) := ⟨rel, rs, fun c h2 H2 d a x t r e => o.ex env c h2 σ H2 d a x t r (rs.mono (t.mn rel)) e⟩
/-- a value that is kept -/
theorem tE_of {a : TX} {Q0 : D → AH → Prop} {X0 : Xc} {Q : VK} (nw : Now K M W σ env h H X0) (q : tE a env h Q0 X0) (hq : ∀ d h' v H', Q0 d h' → Tr h H h' H' → RelH K M h' H' → Rep K M H' v d → Q v H') : tOf K M W a σ H Q :=
  ⟨env, h, _, X0, nw, q, fun r h1 v1 H1 q1 t1 r1 p1 => by
    obtain ⟨d, h2, q2, t2, r2, p2⟩ := rv_take q1 t1 r1 p1
    exact hq d h2 v1 H1 q2 t2 r2 p2⟩
end
/-- the sight of a body's statements -/
structure SitS (P : Prog) (n : Nat) (Xs : Str → Bool) (X : Cx) (W : WX) : Prop where
  s : Sit P n X W
  kind :
      X.env.scope.kind = .function
  fn : ∀ x, X.fn x = true
  po : PassesOwn (model X.prog X.w) X.A X.env X.xe
  stk : X.stack = X.env :: X.outer
  frm : X.env.frame = some X.env.locals
  cls : ∀ c, Xs c = true → ∃ C, X.mg c = some (.ref C) ∧ PySem.W.keepIn X.K (.ref C) = true ∧ Raises X (.ref C) ∧ ∃ B newId initId bmB, ExcBaseFacts B newId initId bmB ∧ PySem.W.excIn X.K C bmB newId = true
  sub : ∀ x c k a b, P.sub x c = some k → X.mg x = some (.ref a) → X.mg c = some (.ref b) → PySem.W.exmOne X.K (.ref a) (.ref b) = some k
section
variable {X : Cx} {W : WX} {P : Prog} {n : Nat} {Xs : Str → Bool} {a b c e : Expr} {pos : Pos} {ma mb mc : TX} {m1 m2 : TS} {st : Stmt} {s1 s2 : List Stmt} {i : Nat} {x : Str}
theorem z_pass : PS X (.Pass pos) (sOf X W sPass) := PS_le ps_pass fun D σ H ⟨env, h, k, rel, rs, q, o⟩ => o.nx _ _ _ _ q .refl rel rs
theorem z_doc {y : Str} {j : Nat} {p2 : Pos} : PS X (.Expr (.Constant (.str y) j p2) pos) (sOf X W sPass) := PS_le ps_doc fun D σ H ⟨env, h, k, rel, rs, q, o⟩ => o.nx _ _ _ _ q .refl rel rs
theorem z_brk : PS X (.Break pos) (sOf X W sBrk) := PS_le ps_break fun D σ H ⟨env, h, k, rel, rs, q, o⟩ => o.bk _ _ _ _ q .refl rel rs
theorem z_cnt : PS X (.Continue pos) (sOf X W sCnt) := PS_le ps_continue fun D σ H ⟨env, h, k, rel, rs, q, o⟩ => o.ct _ _ _ _ q .refl rel rs
theorem z_nil : PSs X [] (sOf X W sPass) := PSs_le pss_nil fun D σ H ⟨env, h, k, rel, rs, q, o⟩ => o.nx _ _ _ _ q .refl rel rs
theorem z_cons (g1 : PS X st (sOf X W m1)) (g2 : PSs X s2 (sOf X W m2)) : PSs X (st :: s2) (sOf X W (bCons m1 m2)) :=
  PSs_le (pss_cons g1 g2) fun D σ H ⟨env, h, k, rel, rs, q, o⟩ => ⟨env, h, _, rel, rs, q, ⟨fun e1 h1 σ1 H1 q1 t1 r1 s1 => ⟨e1, h1, k, r1, s1, q1, o.go t1⟩, o.rt, o.bk, o.ct, o.ex⟩⟩
theorem z_ret (ha : PE X a (eOf X W ma)) : PS X (.Return (some a) pos) (sOf X W (sRet ma)) := PS_le (ps_ret ha) fun D σ H ⟨env, h, k, rel, rs, q, o⟩ => tE_of (o.now rel rs) q o.rt
theorem z_retn : PS X (.Return none pos) (sOf X W sRetn) := PS_le ps_retN fun D σ H ⟨env, h, k, rel, rs, q, o⟩ => o.rt _ _ _ _ q .refl rel .non
theorem z_expr (ha : PE X a (eOf X W ma)) (hs : swapsWith a none pos.line X.env = pure false) : PS X (.Expr a pos) (sOf X W (sExpr ma)) := PS_le (ps_expr ha hs) fun D σ H ⟨env, h, k, rel, rs, q, o⟩ =>
  ⟨env, h, _, _, o.now rel rs, q, fun r h1 v1 H1 q1 t1 r1 p1 => o.nx _ _ _ _ q1 t1 r1 (rs.mono (t1.mn rel))⟩
theorem z_if (hc : PT X c (cOf X W mc)) (g1 : PSs X s1 (sOf X W m1)) (g2 : PSs X s2 (sOf X W m2)) : PS X (.If c s1 s2 pos) (sOf X W (sIf mc m1 m2)) :=
  PS_le (ps_if hc g1 g2) fun D σ H ⟨env, h, k, rel, rs, q, o⟩ => ⟨env, h, _, _, o.now rel rs, q, fun b h1 H1 q1 t1 r1 => by
    cases b with
    | true => exact ⟨env, h1, k, r1, rs.mono (t1.mn rel), q1, o.go t1⟩
    | false => exact ⟨env, h1, k, r1, rs.mono (t1.mn rel), q1, o.go t1⟩⟩
theorem KsOk.turn {K : PySem.W.Frag} {M : Str → Option Value} {W : WX} {h : AH} {H : Hp} {k : Ks} {D : Ends} (o : KsOk K M W h H k D) {nx : Env → AH → Prop} {N : L2.St → Hp → Prop}
    (hN : ∀ env' h' σ' H', nx env' h' → Tr h H h' H' → RelH K M h' H' → RelS K M H' σ' env' → N σ' H') : KsOk K M W h H (k.turn nx) { D with nx := N, ct := N, bk := D.nx } := ⟨hN, o.rt, o.nx, hN, o.ex⟩
theorem z_whl (S : SitS P n Xs X W) (hc : PT X c (cOf X W mc)) (g1 : PSs X s1 (sOf X W m1)) : PS X (.While c s1 [] pos) (sOf X W (sWhl mc m1)) :=
  PS_le (ps_while S.po hc g1) fun D σ H ⟨env, h, k, rel, rs, ⟨W1, ⟨m0, w0⟩, q⟩, o⟩ =>
    ⟨fun m σ' H' => ∃ env' h', W1 m env' h' ∧ Tr h H h' H' ∧ RelH X.K X.mg h' H' ∧ RelS X.K X.mg H' σ' env', ⟨m0, env, h, w0, .refl, rel, rs⟩, fun m σ' H' ⟨env', h', w, t, r, s⟩ =>
      ⟨env', h', _, _, (o.go t).now r s, q m env' h' w, fun b h1 H1 q1 t1 r1 => by
        cases b with
        | true =>
          refine ⟨fun σ2 H2 => ∃ m', m' < m ∧ ∃ env2 h2, W1 m' env2 h2 ∧ Tr h H h2 H2 ∧ RelH X.K X.mg h2 H2 ∧ RelS X.K X.mg H2 σ2 env2, fun σ2 H2 z => z, env', h1, _, r1, s.mono (t1.mn r), q1, ?_⟩
          exact (o.go (t.trans t1)).turn fun e2 h2 σ2 H2 ⟨m', hm, w2⟩ t2 r2 s2 => ⟨m', hm, e2, h2, w2, (t.trans t1).trans t2, r2, s2⟩
        | false => exact o.nx _ _ _ _ q1 (t.trans t1) r1 (s.mono (t1.mn r))⟩⟩
theorem z_for {tg it : Expr} {mi : TI} {mt : TG} (S : SitS P n Xs X W) (hi : PI X tg it (iOf X W mi)) (ht : PG X tg (gOf X (fun _ => true) mt)) (g1 : PSs X s1 (sOf X W m1)) (hf : ∀ x, foldedSetIterable it X.env x = pure x) : PS X (.For tg it s1 [] pos) (sOf X W (sFor mt mi m1)) :=
  PS_le (ps_for S.po S.s.calm hi ht g1 hf) fun D σ H ⟨env, h, k, rel, rs, q, o⟩ => ⟨env, h, _, _, o.now rel rs, q, fun s h1 J H1 q1 t1 r1 wk => by
    refine ⟨fun i m σ' H' => ∃ env' h', m = s.items.length - i ∧ i ≤ s.items.length ∧ wFor s.chk (bdF mt m1 k) k.nx (s.items.drop i) env' h' ∧ Tr h1 H1 h' H' ∧ RelH X.K X.mg h' H' ∧ RelS X.K X.mg H' σ' env',
      ⟨_, env, h1, rfl, Nat.zero_le _, q1, .refl, r1, rs.mono (t1.mn rel)⟩, ?_⟩
    rintro i m σ' H' ⟨env', h', rfl, hi, w, t, r, s'⟩
    by_cases e : i < s.items.length
    · refine .inr ?_
      have hx : s.items[i]? = some s.items[i] := List.getElem?_eq_getElem e
      rw [List.drop_eq_getElem_cons e] at w
      obtain ⟨ck, w⟩ := w
      obtain ⟨go, yl⟩ := (wk h' H' (fun p o n e z => t.keep p o e z) (t.mn r1) r ck i).1 _ hx
      refine ⟨go, fun σ2 H2 => ∃ env2 h2, wFor s.chk (bdF mt m1 k) k.nx (s.items.drop (i + 1)) env2 h2 ∧ Tr h1 H1 h2 H2 ∧ RelH X.K X.mg h2 H2 ∧ RelS X.K X.mg H2 σ2 env2,
        fun σ2 H2 ⟨env2, h2, w2, t2, r2, s2⟩ => ⟨s.items.length - (i + 1), by omega, env2, h2, rfl, e, w2, t2, r2, s2⟩, fun x H2 y => ?_⟩
      obtain ⟨rfl, rx⟩ := yl x H2 y
      refine ⟨_, env', h', _, r, s', rx, w, fun env3 h3 σ3 H3 q3 t3 r3 s3 _ => ⟨env3, h3, _, r3, s3, q3, ?_⟩⟩
      exact (o.go ((t1.trans t).trans t3)).turn fun e2 h2 σ2 H2 w2 t2 r2 s2 => ⟨e2, h2, w2, (t.trans t3).trans t2, r2, s2⟩
    · have ei : i = s.items.length := by omega
      subst ei
      rw [List.drop_length] at w
      exact .inl ⟨(wk h' H' (fun p o n e z => t.keep p o e z) (t.mn r1) r w.1 _).2 (Nat.le_refl _), o.nx _ _ _ _ w.2 (t1.trans t) r s'⟩⟩
theorem z_asg {tg : Expr} {mt : TG} (ha : PE X a (eOf X W ma)) (ht : PG X tg (gOf X (fun _ => true) mt)) (hs : swapsWithSole [tg] a pos.line X.env = pure false) (hw : swappedStores [tg] a X.env = pure none) (h1 : (assignEach [tg] X.env).map (·.2) = [assign tg X.env]) :
    PS X (.Assign [tg] a pos) (sOf X W (sAsg mt ma)) :=
  PS_le (ps_asg ha ht hs hw h1) fun D σ H ⟨env, h, k, rel, rs, q, o⟩ => tE_of (o.now rel rs) q fun d h1 v H1 q1 t1 r1 p1 =>
    ⟨d, env, h1, _, r1, rs.mono (t1.mn rel), p1, q1, fun e2 h2 σ2 H2 q2 t2 r2 s2 _ => o.nx _ _ _ _ q2 (t1.trans t2) r2 s2⟩
/-- name = value: what is shown of the value's reading -/
theorem z_nm {te : L2.TE} (g : PS X st (tAsg te (gName i))) (hle : ∀ σ H Q, eOf X W ma σ H Q → te σ H Q) : PS X st (sOf X W (sAsg (gNm i) ma)) :=
  PS_le g fun D σ H ⟨env, h, k, rel, rs, q, o⟩ => hle _ _ _ (tE_of (o.now rel rs) q fun d h1 v H1 q1 t1 r1 p1 => o.nx _ _ _ _ q1 t1 r1 ((rs.mono (t1.mn rel)).set p1 i))
theorem z_set {o i : Expr} {mo mi : TX} {p2 : Pos} (ha : PE X a (eOf X W ma)) (ho : PE X o (eOf X W mo)) (hi : PE X i (eOf X W mi)) (hs : swapsWithSole [.Subscript o i p2] a pos.line X.env = pure false) (hw : swappedStores [.Subscript o i p2] a X.env = pure none) (hns : plainE i = true) :
    PS X (.Assign [.Subscript o i p2] a pos) (sOf X W (sSet mo mi ma)) :=
  PS_le (ps_asg ha (pg_sub ho hi set_ok (by intro v; cases i <;> first | rfl | cases hns)) hs hw rfl) fun D σ H ⟨env, h, k, rel, rs, q, oo⟩ => tE_of (oo.now rel rs) q fun d h1 v H1 q1 t1 r1 p1 =>
    tE_of ((oo.now rel rs).go t1 r1) q1 fun d2 h2 v2 H2 q2 t2 r2 p2 => tE_of (((oo.now rel rs).go t1 r1).go t2 r2) q2 fun d3 h3 v3 H3 ⟨h4, e4, q4⟩ t3 r3 p3 =>
      ⟨h3, d2, d3, d, h4, r3, p2.mono (t3.mn r2), p3, (p1.mono (t2.mn r1)).mono (t3.mn r2), e4, fun H4 t4 r4 => oo.nx _ _ _ _ q4 (((t1.trans t2).trans t3).trans t4) r4 (rs.mono ((((t1.trans t2).trans t3).trans t4).mn rel))⟩
theorem z_aug (op : Bop) {p2 : Pos} (nd : X.N.Nodup) (hi : X.N[i]? = some x) (hx : Loc X.env.scope x) (hf : X.fn x = true) (ha : PE X a (eOf X W ma)) : PS X (.AugAssign (.Name x p2) (opOf op) a pos) (sOf X W (sAug i op ma)) :=
  PS_le (ps_aug nd hi hx ha (fun pins s σ H x y v u Q I r r' q => augR (aug_ok op) I r r' q) (.inl hf)) fun D σ H ⟨env, h, k, rel, rs, ⟨d, ed, q⟩, o⟩ => by
    obtain ⟨v, ev, rv⟩ := rs.lk ed
    refine ⟨v, ev, env, h, _, _, o.now rel rs, q, fun r h1 v1 H1 ⟨p, ep, q1⟩ t1 r1 p1 => ?_⟩
    refine ⟨h1, d, r, p.1, p.2, r1, rv.mono (t1.mn rel), p1.opd, ep, fun v2 H2 t2 r2 p2 => ?_⟩
    obtain ⟨d2, h3, q3, t3, r3, p3⟩ := rv_take q1 t2 r2 p2
    exact o.nx _ _ _ _ q3 (t1.trans t3) r3 ((rs.mono ((t1.trans t3).mn rel)).set p3 i)
theorem z_rais {m : Str} {j : Nat} {p p2 p3 : Pos} (S : SitS P n Xs X W) (hc : Xs c1 = true) (hg : Gl X c1) (hd : (c1 == ("__debug__" : Str)) = false) : PS X (.Raise (some (.Call (.Name c1 p) [.Constant (.str m) j p2] [] p3)) none pos) (sOf X W (sRais c1)) := by
  obtain ⟨C, h1, h2, h3, B, nw, it, bm, F, h4⟩ := S.cls _ hc
  exact PS_le (ps_raise S.s.calm S.s.tk (pmk_own F h4 h1 h2 h3 hg hd)) fun D σ H ⟨env, h, k, rel, rs, q, o⟩ => o.ex _ _ _ _ _ _ _ q .refl rel rs h1
theorem z_par {i j : Nat} {y : Str} {b : Expr} {ms : TEs} {px py pt : Pos} {kt k2 : Nat} {pt2 : Pos} (S : SitS P n Xs X W) (hi : X.N[i]? = some x) (hj : X.N[j]? = some y) (hij : i ≠ j) (hx : X.env.scope.names.lookup x = some .local) (hy : X.env.scope.names.lookup y = some .local)
    (ha : PA X [a, b] (aOf X W ms)) (hw : swappedStores [.Tuple [.Name x px, .Name y py] kt pt] (.Tuple [a, b] k2 pt2) X.env = pure (some [x, y])) :
    PS X (.Assign [.Tuple [.Name x px, .Name y py] kt pt] (.Tuple [a, b] k2 pt2) pos) (sOf X W (sAsg (gTp (gCons (gNm i) (gCons (gNm j) gNil))) (xTup ms))) :=
  PS_le (ps_par S.s.calm S.s.nd hi hj hij hx hy ha hw rfl) fun D σ H ⟨env, h, k, rel, rs, q, o⟩ => ⟨env, h, _, _, o.now rel rs, q, fun ds h1 vs H1 ⟨_, q1⟩ t1 r1 p1 => by
    obtain ⟨xs, e, q1⟩ := q1
    cases (show some ds = some xs from e)
    match ds, vs, p1, q1 with
    | [d1, d2], [v1, v2], .cons a1 (.cons a2 .nil), q1 =>
      exact ⟨v1, v2, rfl, o.nx _ _ _ _ q1.2 t1 r1 (((rs.mono (t1.mn rel)).set a1 i).set a2 j)⟩
    | d1 :: d2 :: d3 :: r, _, _, q1 => cases q1.1
    | [d1], _, _, q1 => exact q1.elim
    | [], _, _, q1 => exact q1.elim⟩
theorem z_par3 {i j l : Nat} {y z : Str} {b c : Expr} {ms : TEs} {px py pz pt : Pos} {kt k2 : Nat} {pt2 : Pos} (S : SitS P n Xs X W) (hi : X.N[i]? = some x) (hj : X.N[j]? = some y) (hl : X.N[l]? = some z) (hij : i ≠ j) (hil : i ≠ l) (hjl : j ≠ l)
    (hx : X.env.scope.names.lookup x = some .local) (hy : X.env.scope.names.lookup y = some .local) (hz : X.env.scope.names.lookup z = some .local)
    (ha : PA X [a, b, c] (aOf X W ms)) (hw : swappedStores [.Tuple [.Name x px, .Name y py, .Name z pz] kt pt] (.Tuple [a, b, c] k2 pt2) X.env = pure (some [x, y, z])) :
    PS X (.Assign [.Tuple [.Name x px, .Name y py, .Name z pz] kt pt] (.Tuple [a, b, c] k2 pt2) pos) (sOf X W (sAsg (gTp (gCons (gNm i) (gCons (gNm j) (gCons (gNm l) gNil)))) (xTup ms))) :=
  PS_le (ps_par3 S.s.calm S.s.nd hi hj hl hij hil hjl hx hy hz ha hw rfl) fun D σ H ⟨env, h, k, rel, rs, q, o⟩ => ⟨env, h, _, _, o.now rel rs, q, fun ds h1 vs H1 ⟨_, q1⟩ t1 r1 p1 => by
    obtain ⟨xs, e, q1⟩ := q1
    cases (show some ds = some xs from e)
    match ds, vs, p1, q1 with
    | [d1, d2, d3], [v1, v2, v3], .cons a1 (.cons a2 (.cons a3 .nil)), q1 =>
      exact ⟨v1, v2, v3, rfl, o.nx _ _ _ _ q1.2 t1 r1 ((((rs.mono (t1.mn rel)).set a1 i).set a2 j).set a3 l)⟩
    | d1 :: d2 :: d3 :: d4 :: r, _, _, q1 => cases q1.1
    | [d1, d2], _, _, q1 => exact q1.elim
    | [d1], _, _, q1 => exact q1.elim
    | [], _, _, q1 => exact q1.elim⟩
theorem SitS.tr (S : SitS P n Xs X W) (W' : WX) (pn : List (Addr × Obj)) (xe : Value → Shared → Prop) (tk : Takes (X.tr pn xe) W') (po : PassesOwn (model X.prog X.w) X.A X.env xe) : SitS P n Xs (X.tr pn xe) W' :=
  ⟨⟨S.s.calm, S.s.nd, S.s.room, S.s.blt, S.s.glo, fun f h => let ⟨fa, fd, ps, F⟩ := S.s.fns f h; ⟨fa, fd, ps, ⟨F.ok, F.np, F.mg, F.keep, F.binds⟩⟩, S.s.gfn, tk⟩, S.kind, S.fn, po, S.stk, S.frm, S.cls, S.sub⟩
theorem z_try {cx : Str} {np p2 p3 pos' : Pos} {kc : Const} {j : Nat} {d : D} (S : SitS P n Xs X W) (hc : Xs cx = true) (hg : Gl X cx) (hd : (cx == ("__debug__" : Str)) = false) (hk : trC kc = some d)
    (hb : ∀ (W' : WX) (pn : List (Addr × Obj)) (xe : Value → Shared → Prop), SitS P n Xs (X.tr pn xe) W' → PSs (X.tr pn xe) s1 (sOf X W' m1)) :
    PS X (.Try s1 [.ExceptHandler (some (.Name cx np)) none [.Return (some (.Constant kc j p2)) p3] pos'] [] [] pos) (sOf X W (sTry P.sub m1 cx d)) := by
  obtain ⟨C, h1, h2, _⟩ := S.cls _ hc
  obtain ⟨v, _, hv⟩ := s_const (X := X) (k := j) (pos := p2) hk
  refine PS_le (ps_try_only (c := .ref C) (tb := fun W' => sOf X W' m1) (ts := fun _ _ _ => tRet (tC v)) S.stk S.frm ⟨hg, hd, .inl h1⟩ S.s.tk (fun W' pn xe tk po => hb W' pn xe (S.tr W' pn xe tk po)) fun a oe cls dd pn _ _ => ?_) fun D σ H ⟨env, h, k, rel, rs, q, o⟩ =>
    ⟨env, h, _, rel, rs, q, ⟨o.nx, o.rt, o.bk, o.ct, fun e2 y h2 σ2 H2 d2 a ⟨kk, ek, q2⟩ t2 r2 s2 hm => ?_⟩⟩
  · have hc : PE (X.suite a ((a, oe) :: pn)) (.Constant kc j p2) (tC v) := by
      unfold trC at hk
      split at hk
      · cases hk; cases hv (fun _ => none); exact pe_non
      · cases hk; cases hv (fun _ => none); exact pe_bl
      · cases hk; cases hv (fun _ => none); exact pe_int
      · cases hk; cases hv (fun _ => none); exact pe_str
      · cases hk
    exact pss_one (ps_ret hc)
  · refine ⟨kk, S.sub _ _ _ _ _ ek hm h1, fun e a' _ => ?_, fun e => ?_⟩
    · subst e
      exact o.rt _ _ _ _ q2 t2 r2 (hv H2)
    · subst e
      exact o.ex _ _ _ _ _ _ _ q2 t2 r2 s2 hm
end
end Py
namespace Py
open L2 PySem.Spec PySem PyProof.Rows
theorem bk_fun {env : PySem.Env} (h : env.scope.kind = .function) : env.blockKind = .function := by unfold Env.blockKind; rw [h]; rfl
theorem lcl_eq {sc : Scope} {x : Str} : lclB sc x = (sc.names.lookup x == some .local) := by
  unfold lclB
  split
  · rename_i e; rw [e]; rfl
  · rename_i e
    cases h : sc.names.lookup x with
    | none => rfl
    | some k => cases k <;> first | rfl | exact absurd h e
theorem sw_nm {e : Expr} {t : Str} {p : Pos} {l : Nat} {env : PySem.Env} {sc : Scope} {F : Str → Bool} {N : List Str} {m : Nat} {ex : Ex} (hk : env.scope.kind = .function) (hs : env.scope = sc) (he : trE F N m sc e = some ex) :
    swapsWith e (some (.Name t p)) l env = pure (swB sc t p e) := by
  cases m with
  | zero => unfold trE at he; cases he
  | succ m =>
    cases e with
    | SetComp _ _ _ _ => unfold trE at he; cases he
    | DictComp _ _ _ _ _ => unfold trE at he; cases he
    | ListComp elt gs s q =>
      unfold swapsWith swB
      simp only [bk_fun hk, lcl_eq]
      rw [← hs]
      rfl
    | _ => rfl
theorem sw_o {e : Expr} {o i : Expr} {p : Pos} {l : Nat} {env : PySem.Env} : swapsWith e (some (.Subscript o i p)) l env = pure false := by
  cases e <;> rfl
theorem sw_t {e : Expr} {ts : List Expr} {k : Nat} {p : Pos} {l : Nat} {env : PySem.Env} : swapsWith e (some (.Tuple ts k p)) l env = pure false := by
  cases e <;> rfl
theorem sw_n {e : Expr} {l : Nat} {env : PySem.Env} {sc : Scope} {F : Str → Bool} {N : List Str} {m : Nat} {ex : Ex} (he : trE F N m sc e = some ex) (hn : ∀ a b c d, e ≠ .ListComp a b c d) : swapsWith e none l env = pure false := by
  cases m with
  | zero => unfold trE at he; cases he
  | succ m =>
    cases e with
    | SetComp _ _ _ _ => unfold trE at he; cases he
    | DictComp _ _ _ _ _ => unfold trE at he; cases he
    | ListComp a b c d => exact absurd rfl (hn a b c d)
    | _ => rfl
theorem ss_no {t e : Expr} {env : PySem.Env} (h : ∀ ts k p, e ≠ .Tuple ts k p) : swappedStores [t] e env = pure none := by
  cases e with
  | Tuple ts k p => exact absurd rfl (h ts k p)
  | _ => cases t <;> rfl
theorem ss_sub {o i e : Expr} {p : Pos} {env : PySem.Env} : swappedStores [.Subscript o i p] e env = pure none := by
  cases e <;> rfl
theorem star_eq (vs : List Expr) : (vs.any fun | .Starred .. => true | _ => false) = vs.any isStar := by
  congr 1
theorem ss_eq {ts vs : List Expr} {k k2 : Nat} {p p2 : Pos} {env : PySem.Env} {sc : Scope} {r : Option (List Str)} (hk : env.scope.kind = .function) (hs : env.scope = sc) (h : swC sc ts vs = some r) : swappedStores [.Tuple ts k p] (.Tuple vs k2 p2) env = pure r := by
  unfold swappedStores
  unfold swC at h
  simp only [bk_fun hk]
  subst hs
  rw [show (ScopeKind.function != ScopeKind.function) = false from rfl, Bool.or_false]
  split at h
  · rename_i c
    cases h
    exact if_pos c
  rename_i c1
  refine (if_neg c1).trans ?_
  split at h
  · rename_i c
    cases h
    exact if_pos c
  rename_i c2
  refine (if_neg c2).trans ?_
  simp only at h
  split at h
  · rename_i c
    cases h
    exact if_pos c
  rename_i c3
  refine (if_neg c3).trans ?_
  split at h
  · rename_i c
    cases h
    exact if_pos c
  rename_i c4
  refine (if_neg c4).trans ?_
  split at h
  · cases h
  rename_i c5
  refine (if_neg c5).trans ?_
  cases h
  rfl
/-- a pair stored from the right: whose names they are -/
theorem nmS_eq {N : List Str} {sc : Scope} {e : Expr} {i : Nat} (h : nmS N sc e = some i) : ∃ x p, e = .Name x p ∧ sc.names.lookup x = some .local ∧ N[i]? = some x := by
  unfold nmS at h
  split at h
  · rename_i x p
    split at h
    · rename_i hl
      rw [lcl_eq] at hl
      exact ⟨x, p, rfl, by simpa using hl, slot_at h⟩
    · cases h
  · cases h
theorem swC_2 {sc : Scope} {x y : Str} {px py : Pos} {vs : List Expr} {r : List Str} (h : swC sc [.Name x px, .Name y py] vs = some (some r)) : r = [x, y] := by
  unfold swC at h
  split at h
  · cases h
  split at h
  · cases h
  simp only at h
  split at h
  · cases h
  rename_i c
  split at h
  · cases h
  split at h
  · cases h
  cases h
  simp only [Bool.or_eq_true, not_or, bne_iff_ne, ne_eq, Decidable.not_not] at c
  have c1 := c.1
  simp only [List.filterMap_cons, List.filterMap_nil] at c1 ⊢
  split at c1
  · split at c1 <;> simp at c1
  · rename_i h1
    split at c1
    · simp at c1
    · rename_i h2
      split at h1 <;> first | (cases h1; done) | skip
      split at h2 <;> first | (cases h2; done) | skip
      simp_all
theorem swC_3 {sc : Scope} {x y z : Str} {px py pz : Pos} {vs : List Expr} {r : List Str} (h : swC sc [.Name x px, .Name y py, .Name z pz] vs = some (some r)) : r = [x, y, z] := by
  unfold swC at h
  split at h
  · cases h
  split at h
  · cases h
  simp only at h
  split at h
  · cases h
  rename_i c
  split at h
  · cases h
  split at h
  · cases h
  cases h
  simp only [Bool.or_eq_true, not_or, bne_iff_ne, ne_eq, Decidable.not_not] at c
  have c1 := c.1
  simp only [List.filterMap_cons, List.filterMap_nil] at c1 ⊢
  split at c1
  · split at c1
    · split at c1 <;> simp at c1
    · split at c1 <;> simp at c1
  · rename_i h1
    split at c1
    · split at c1 <;> simp at c1
    · rename_i h2
      split at c1
      · simp at c1
      · rename_i h3
        split at h1 <;> first | (cases h1; done) | skip
        split at h2 <;> first | (cases h2; done) | skip
        split at h3 <;> first | (cases h3; done) | skip
        simp_all
end Py
namespace Py
open L2 PySem.Spec PySem PyProof.Rows
def SOk (P : Prog) (n : Nat) (F Xs : Str → Bool) (N : List Str) (m : Nat) : Prop := ∀ (sc : Scope) (st : PySem.Stmt) (s : St), trS F Xs N m sc st = some s → ∀ (X : Cx) (W : WX), SitS P n Xs X W → X.env.scope = sc → X.N = N →
  PS X st (sOf X W (wS (wC P n) P.gl P.sub s))
def BOk (P : Prog) (n : Nat) (F Xs : Str → Bool) (N : List Str) (m : Nat) : Prop := ∀ (sc : Scope) (b : List PySem.Stmt) (s : Sts), trS.go F Xs N m sc b = some s → ∀ (X : Cx) (W : WX), SitS P n Xs X W → X.env.scope = sc → X.N = N →
  PSs X b (sOf X W (wB (wC P n) P.gl P.sub s))
theorem b_of {P : Prog} {n : Nat} {F Xs : Str → Bool} {N : List Str} {m : Nat} (ih : SOk P n F Xs N m) : BOk P n F Xs N m := by
  intro sc b
  induction b with
  | nil =>
    intro s h X W S hs hN
    unfold trS.go at h
    cases h
    exact z_nil
  | cons a b ihb =>
    intro s h X W S hs hN
    unfold trS.go at h
    simp only [bind, Option.bind_eq_some_iff, pure, Option.some.injEq] at h
    obtain ⟨x, h1, y, h2, rfl⟩ := h
    exact z_cons (ih sc a x h1 X W S hs hN) (ihb y h2 X W S hs hN)
theorem loc_b {sc : Scope} {x : Str} (h : locB sc x = true) : Loc sc x := by
  unfold locB at h
  split at h
  · exact .inl (by assumption)
  · exact .inr (by assumption)
  · cases h
theorem okc {Xs : Str → Bool} {sc : Scope} {c : Str} (h : (Xs c && gloB sc c && okN c) = true) : Xs c = true ∧ gloB sc c = true ∧ (c == ("__debug__" : Str)) = false := by
  simp only [Bool.and_eq_true]
      at h
  exact ⟨h.1.1, h.1.2, (okN_d h.2).1⟩
theorem each1 {tg : Expr} {N : List Str} {ok : Str → Bool} {n : Nat} {t : Tg} (h : trT N ok n tg = some t) (env : PySem.Env) : (assignEach [tg] env).map (·.2) = [assign tg env] := by
  rw [trT_star h]
  rfl
theorem sw_ts {e : Expr} {ts : List Expr} {k : Nat} {p : Pos} {l : Nat} {env : PySem.Env} : swapsWithSole [.Tuple ts k p] e l env = pure false := by cases e <;> rfl
theorem sw_os {e o i : Expr} {p : Pos} {l : Nat} {env : PySem.Env} : swapsWithSole [.Subscript o i p] e l env = pure false := by cases e <;> rfl
theorem sS {P : Prog} {n : Nat} {F Xs : Str → Bool} {N : List Str} (hF : ∀ f, F f = true → P.fn f ≠ none) : ∀ m, SOk P n F Xs N m
  | 0 => fun sc st s h => by unfold trS at h; cases h
  | m + 1 => by
    have ihS := sS hF m (n := n) (N := N) (Xs := Xs)
    have ihB := b_of ihS
    have ih := sE hF trN (n := n) (N := N)
    intro sc st s h X W S hs hN
    have hk := S.kind
    have tgt : ∀ {tg : Expr} {t : Tg}, trT N (locB sc) 6 tg = some t → PG X tg (gOf X (fun _ => true) (wTg t)) := fun {tg t} h => s_tgt S.s.calm S.s.nd hN (fun x hx => ⟨hs ▸ loc_b hx, .inl (S.fn x)⟩) 6 tg t h (tgIn_all t)
    unfold trS at h
    split at h
    · -- an assignment
      rename_i tg e pos
      split at h
      · -- to a name
        rename_i x p
        split at h
        · rename_i hl
          simp only [bind, Option.bind_eq_some_iff, pure, Option.some.injEq] at h
          obtain ⟨i, hi, v, hv, rfl⟩ := h
          have hx : Loc X.env.scope x := hs ▸ loc_b hl
          have hi' : X.N[i]? = some x := hN ▸ slot_at hi
          have sw := sw_nm (t := x) (p := p) (l := pos.line) hk hs hv
          cases hb : swB sc x p e with
          | false =>
            rw [hb] at sw
            exact z_nm (ps_set S.s.nd hi' hx (ih sc e v hv X W S.s hs hN).1 sw (.inl (S.fn x))) fun _ _ _ q => q
          | true =>
            rw [hb] at sw
            cases e with
            | ListComp elt gens scope q =>
              have hy : X.env.scope.names.lookup x = some .local := by
                unfold swB at hb
                simp only [Bool.and_eq_true] at hb
                have := hb.1.1
                rw [lcl_eq, ← hs] at this
                simpa using this
              have hv' : trE F N (59 + 1) sc (.ListComp elt gens scope q) = some v := hv
              rcases (lc_ok (sE hF 59) S.s hs hN hv').one with ⟨tg, iter, ifs, own, g, tt, te, wi, rfl, h1, h2, h3, h4, h5, h6, h7⟩ | ⟨tg, iter, tg1, iter1, own, g, g1, te, wi, wi1, vs1, rfl, hv2, h1, h2, h3, h4, h5, h6, h7, h8, h9⟩
              · exact z_nm (ps_setLc S.s.calm S.s.nd hi' hy sw h1 h2 h3 h4 h5 h6) h7
              · exact z_nm (ps_setLc2 S.s.calm S.s.nd hi' hy sw h1 h2 hv2 h3 (fun _ _ _ _ _ => pts_nil) h4 h5 (fun _ _ _ _ _ => pts_nil) h6 h7 h8) h9
            | _ => cases hb
        · cases h
      · -- to several
        rename_i ts kt pt
        split at h
        · rename_i vs k2 p2
          split at h
          · cases h
          · rename_i hw
            simp only [bind, Option.bind_eq_some_iff, pure, Option.some.injEq] at h
            obtain ⟨t, ht, v, hv, rfl⟩ := h
            exact z_asg (ih sc _ v hv X W S.s hs hN).1 (tgt ht) sw_ts (ss_eq hk hs hw) (each1 ht _)
          · rename_i r hw
            split at h
            · rename_i a b c d
              simp only [bind, Option.bind_eq_some_iff, pure] at h
              obtain ⟨i, hi, j, hj, r2, hr, h⟩ := h
              split at h
              · cases h
              · rename_i hij
                cases h
                obtain ⟨x, px, rfl, hx, hix⟩ := nmS_eq hi
                obtain ⟨y, py, rfl, hy, hjy⟩ := nmS_eq hj
                have er := swC_2 hw
                subst er
                subst hs
                subst hN
                exact z_par S hix hjy hij hx hy (s_es ih S.s rfl rfl hr).1 (ss_eq hk rfl hw)
            · rename_i a b l c d m'
              simp only [bind, Option.bind_eq_some_iff, pure] at h
              obtain ⟨i, hi, j, hj, k, hk', r2, hr, h⟩ := h
              split at h
              · cases h
              · rename_i hij
                cases h
                obtain ⟨x, px, rfl, hx, hix⟩ := nmS_eq hi
                obtain ⟨y, py, rfl, hy, hjy⟩ := nmS_eq hj
                obtain ⟨z, pz, rfl, hz, hkz⟩ := nmS_eq hk'
                have er := swC_3 hw
                subst er
                subst hs
                subst hN
                exact z_par3 S hix hjy hkz (fun q => hij (.inl q)) (fun q => hij (.inr (.inl q))) (fun q => hij (.inr (.inr q))) hx hy hz (s_es ih S.s rfl rfl hr).1 (ss_eq hk rfl hw)
            · cases h
        · rename_i hne
          simp only [bind, Option.bind_eq_some_iff, pure, Option.some.injEq] at h
          obtain ⟨t, ht, v, hv, rfl⟩ := h
          exact z_asg (ih sc _ v hv X W S.s hs hN).1 (tgt ht) sw_ts (ss_no fun ts k p q => hne _ _ _ q) (each1 ht _)
      · -- to an item
        rename_i o i p
        split at h
        · cases h
        · simp only [bind, Option.bind_eq_some_iff, pure, Option.some.injEq] at h
          obtain ⟨v, hv, a, ha, k, hk2, rfl⟩ := h
          exact z_set (ih sc _ v hv X W S.s hs hN).1 (ih sc _ a ha X W S.s hs hN).1 (ih sc _ k hk2 X W S.s hs hN).1 sw_os ss_sub (trE_plain hk2)
      · cases h
    · -- op=
      split at h
      · rename_i hl
        simp only [bind, Option.bind_eq_some_iff, pure, Option.some.injEq] at h
        obtain ⟨i, hi, o, ho, v, hv, rfl⟩ := h
        cases trOp_eq ho
        exact z_aug o S.s.nd (hN ▸ slot_at hi) (hs ▸ loc_b hl) (S.fn _) (ih sc _ v hv X W S.s hs hN).1
      · cases h
    · -- an expression
      split at h
      · cases h
        exact z_doc
      · cases h
      · rename_i hn
        simp only [bind, Option.bind_eq_some_iff, pure, Option.some.injEq] at h
        obtain ⟨v, hv, rfl⟩ := h
        exact z_expr (ih sc _ v hv X W S.s hs hN).1 (sw_n hv fun a b c d q => hn _ _ _ _ q)
    · simp only [bind, Option.bind_eq_some_iff, pure, Option.some.injEq] at h
      obtain ⟨z, hz, x, hx, y, hy, rfl⟩ := h
      exact z_if (ih sc _ z hz X W S.s hs hN).2 (ihB sc _ x hx X W S hs hN) (ihB sc _ y hy X W S hs hN)
    · simp only [bind, Option.bind_eq_some_iff, pure, Option.some.injEq] at h
      obtain ⟨z, hz, x, hx, rfl⟩ := h
      exact z_whl S (ih sc _ z hz X W S.s hs hN).2 (ihB sc _ x hx X W S hs hN)
    · simp only [bind, Option.bind_eq_some_iff, pure, Option.some.injEq] at h
      obtain ⟨t, ht, z, hz, x, hx, rfl⟩ := h
      exact z_for S (s_it ih S.s hs hN hz) (tgt ht) (ihB sc _ x hx X W S hs hN) (plain_fold (trI_plain hz) X.env)
    · simp only [bind, Option.bind_eq_some_iff, pure, Option.some.injEq] at h
      obtain ⟨v, hv, rfl⟩ := h
      exact z_ret (ih sc _ v hv X W S.s hs hN).1
    · cases h
      exact z_retn
    · split at h
      · rename_i hc
        cases h
        obtain ⟨h1, h2, h3⟩ := okc hc
        exact z_rais S h1 (glo_of hs h2) h3
      · cases h
    · split at h
      · rename_i hc
        simp only [bind, Option.bind_eq_some_iff, pure, Option.some.injEq] at h
        obtain ⟨x, hx, d, hd, rfl⟩ := h
        obtain ⟨h1, h2, h3⟩ := okc hc
        exact z_try S h1 (glo_of hs h2) h3 hd fun W' pn xe S' => ihB sc _ x hx (X.tr pn xe) W' S' hs hN
      · cases h
    · cases h; exact z_pass
    · cases h; exact z_brk
    · cases h; exact z_cnt
    · cases h
end Py
/-! The defs of a program's top, and its law's end. -/
namespace Py
open L2 PySem.Spec PySem PyProof.Rows
/-- one def of the top -/
structure FnT where
  name : Str
  params : Arguments
  body : List PySem.Stmt
  scope : Scope
  ps : List Str
  N : List Str
  c : Fn
def FnT.d (t : FnT) : He.DefD := ⟨(t.name, none), t.name, t.name, t.params, t.body, t.scope, [], []⟩
def fsB (N ps : List Str) (sc : Scope) : Bool := sc.kind == .function && (!sc.isCoroutine && (!sc.isGenerator && (decide N.Nodup && (decide (N.take ps.length = ps) && ((ps.all fun x => locB sc x) && (sc.names.all fun y => y.2 != .free))))))
theorem fs_of {N ps : List Str} {sc : Scope} (h : fsB N ps sc = true) : FnScope N ps sc := by
  unfold fsB at h
  simp only [Bool.and_eq_true, decide_eq_true_eq, Bool.not_eq_true', List.all_eq_true, bne_iff_ne, ne_eq] at h
  obtain ⟨h1, h2, h3, h4, h5, h6, h7⟩ := h
  exact ⟨eq_of_beq h1, h2, h3, h4, h5, fun x hx => loc_b (h6 x hx), h7⟩
def tbF (tb : List FnT) (x : Str) : Option FnT := tb.find? fun t => t.name == x
def inF (tb : List FnT) (x : Str) : Bool := (tbF tb x).isSome
def progOf (tb : List FnT) (gl : List (Str × D)) (sb : List (Str × Str × Bool)) : Prog :=
  ⟨fun x => (tbF tb x).map (·.c), fun x => gl.lookup x, fun x y => (sb.find? fun p => p.1 == x && p.2.1 == y).map (·.2.2)⟩
structure FnT.Ok (F Xs : Str → Bool) (t : FnT) : Prop where
  tr : trS.go F Xs t.N 60 t.scope t.body = some t.c.body
  sc : fsB t.N t.ps t.scope = true
  np : t.c.np = t.ps.length
  nn : t.c.nn = t.N.length
  bd : ∀ (kV doc pm : Value) (an : Option Addr) (cdv ct : Value) (us : List Value), us.length = t.ps.length → bindArgs (PySem.W.fnOf t.name t.name t.params t.body t.scope .none kV doc pm an cdv ct) ⟨us, []⟩ = pure (t.ps.zip us)
/-- what the module's part K says of it -/
structure MOk (K : PySem.W.Frag) (M : Str → Option Value) (tb : List FnT) (gl : List (Str × D)) (sb : List (Str × Str × Bool)) (xs : List Str) : Prop where
  df : ∀ t ∈ tb, ∃ fa fd, FunD K t.name t.name t.params t.body t.scope [] [] fa fd ∧ M t.name = some (.ref fa)
  blt : ∀ x, bltB x = true → M x = none
  glo : ∀ x d, (x, d) ∈ gl → ∃ v u, M x = some u ∧ RelV v u ∧ ∀ H, Rep K M H v d
  cls : ∀ c ∈ xs, ∃ C, M c = some (.ref C) ∧ PySem.W.keepIn K (.ref C) = true ∧ PySem.W.subIn K (.ref C) (.type "BaseException") = some true ∧ PySem.W.typeIn K (.ref C) = some (.type "type") ∧ PySem.W.excIn K C He.veBase "ValueError.__new__" = true
  sub : ∀ x c k, (x, c, k) ∈ sb → ∀ a b, M x = some (.ref a) → M c = some (.ref b) → PySem.W.exmOne K (.ref a) (.ref b) = some k
/-- a table's own facts: no program, no heap -/
structure TOk (tb : List FnT) (gl : List (Str × D)) (xs : List Str) : Prop where
  ok : ∀ t ∈ tb, t.Ok (inF tb) xs.contains
  gfn : gl.all (fun p => match p.2 with
    | .fn f => inF tb f
    | _ => true) = true
theorem tbF_mem {tb : List FnT} {x : Str} {t : FnT} (h : tbF tb x = some t) : t ∈ tb ∧ t.name = x := by
  unfold tbF at h
  exact ⟨List.mem_of_find?_eq_some h, by simpa using List.find?_some h⟩
section
variable {pr : Program} {w : World} {K : PySem.W.Frag} {M : Str → Option Value} {base : Heap} {tb : List FnT} {gl : List (Str × D)} {sb : List (Str × Str × Bool)} {xs : List Str}
theorem lookup_mem {α : Type} : ∀ {l : List (Str × α)} {x : Str} {a : α}, l.lookup x = some a → (x, a) ∈ l
  | [], _, _, h => by cases h
  | (y, b) :: r, x, a, h => by
    rw [List.lookup_cons] at h
    split at h
    · rename_i e
      cases h
      rw [eq_of_beq e]
      exact List.mem_cons_self
    · exact List.mem_cons_of_mem _ (lookup_mem h)
theorem reps_some {H : Hp} : ∀ {vs : List V} {ds : List D}, Reps K M H vs ds → ∀ m : Nat, RelS K M H (vs.map some ++ List.replicate m none) (ds.map some ++ List.replicate m none) := by
  intro vs ds r m
  refine ⟨by simp [r.length], fun i d e => ?_⟩
  by_cases hi : i < ds.length
  · rw [List.getElem?_append_left (by simpa using hi), List.getElem?_map, Option.map_eq_some_iff] at e
    obtain ⟨d', e1, e2⟩ := e
    cases e2
    obtain ⟨v, hv, rp⟩ := r.get e1
    exact ⟨v, by rw [List.getElem?_append_left (by rw [List.length_map, r.length]; exact hi), List.getElem?_map, hv]; rfl, rp⟩
  · rw [List.getElem?_append_right (by simpa using hi)] at e
    obtain ⟨_, e⟩ := List.getElem?_eq_some_iff.mp e
    simp at e
theorem _root_.Py.RelH.part {h h' : AH} {H : Hp} (r : RelH K M h H) (s : Sub h' h) : RelH K M h' H := fun a o e => r a o (s a o e)
theorem _root_.Py.Tr.part {h h' h2 : AH} {H H' : Hp} (t : Tr h H h' H') (s : Sub h2 h') : Tr h H h2 H' := by
  refine ⟨fun a o e n => ?_, t.grow⟩
  obtain ⟨e1, n1⟩ := t.keep a o e n
  refine ⟨e1, ?_⟩
  cases q : h2 a with
  | none => rfl
  | some u =>
    have z := s a u q
    rw [n1] at z
    cases z
/-- every def, to n levels -/
theorem fnAll (T : TOk tb gl xs) (m : MOk K M tb gl sb xs) : ∀ (n : Nat) (t : FnT) (fa : Addr) (fd : FuncData), tbF tb t.name = some t → FunD K t.name t.name t.params t.body t.scope [] [] fa fd → M t.name = some (.ref fa) → FnA pr w K M base (progOf tb gl sb) n t.name fa fd t.ps := by
  intro n
  induction n with
  | zero =>
    intro t fa fd ht hF hM
    obtain ⟨hm, _⟩ := tbF_mem ht
    have o := T.ok t hm
    exact ⟨⟨fun vs H Q E h => h.1, fun A outer s H args us vs Q E _ _ _ _ h => by
        obtain ⟨_, _, _, _, _, _, _, z, _⟩ := h
        exact z.elim⟩, fun c hc => by
          have e : (tbF tb t.name).map (·.c) = some c := hc
          rw [ht] at e
          cases e
          exact o.np.symm, hM, hF.kp, hF.bindsN o.bd⟩
  | succ n ih =>
    intro t fa fd ht hF hM
    obtain ⟨hm, _⟩ := tbF_mem ht
    have o := T.ok t hm
    have S := fs_of o.sc
    have np : ∀ c, (progOf tb gl sb).fn t.name = some c → c = t.c := fun c hc => by
      have e : (tbF tb t.name).map (·.c) = some c := hc
      rw [ht] at e
      cases e
      rfl
    · refine ⟨FunD.ok hF S (fun vs H Q E h => h.1) (fun cdv A outer s H vs Q E hr h => ?_), fun c hc => by rw [np c hc]; exact o.np.symm, hM, hF.kp, hF.bindsN o.bd⟩
      obtain ⟨hl, h0, ds, Q0, X0, rel, rp, ⟨c, hc, hd, q⟩, hq, hx⟩ := h
      have ec := np c hc
      subst ec
      refine ⟨_, b_of (sS (P := progOf tb gl sb) (F := inF tb) (Xs := xs.contains) (n := n) (fun f hf => ?_) 60) t.scope t.body t.c.body o.tr _ (fun cls d _ H => E cls d H) ?_ rfl rfl, ?_⟩
      · intro z
        have z' : (tbF tb f).map (·.c) = none := z
        unfold inF at hf
        cases e : tbF tb f with
        | none => rw [e] at hf; cases hf
        | some t => rw [e] at z'; cases z'
      · refine ⟨⟨rfl, S.nd, hr, m.blt, fun x d hx => m.glo x d (lookup_mem hx), fun f hf => ?_, fun f hf => ?_, takes_of rfl rfl rfl rfl⟩, S.kind, fun _ => rfl, passes_of rfl, rfl, rfl, fun c hc => ?_, fun x c k a b hs h1 h2 => ?_⟩
        · cases hf2 : tbF tb f with
          | none => exact absurd (show (tbF tb f).map (·.c) = none by rw [hf2]; rfl) hf
          | some t2 =>
            obtain ⟨hm2, rfl⟩ := tbF_mem hf2
            obtain ⟨fa2, fd2, F2, M2⟩ := m.df t2 hm2
            exact ⟨fa2, fd2, t2.ps, ih t2 fa2 fd2 hf2 F2 M2⟩
        · intro z
          have z' : (tbF tb f).map (·.c) = none := z
          obtain ⟨d, e1, e2⟩ := Option.bind_eq_some_iff.mp hf
          have e3 := List.all_eq_true.mp T.gfn _ (lookup_mem e1)
          unfold asFn at e2
          split at e2
          · cases e2
            have e4 : inF tb f = true := e3
            unfold inF at e4
            cases e : tbF tb f with
            | none => rw [e] at e4; cases e4
            | some t => rw [e] at z'; cases z'
          · cases e2
        · obtain ⟨C, h1, h2, h3, h4, h5⟩ := m.cls c (by simpa using hc)
          exact ⟨C, h1, h2, raises_own h3 h4, _, _, _, _, PySem.F.excBase_ValueError, h5⟩
        · have hs' : (sb.find? fun p => p.1 == x && p.2.1 == c).map (·.2.2) = some k := hs
          obtain ⟨p, hp, rfl⟩ := Option.map_eq_some_iff.mp hs'
          have e := List.find?_some hp
          simp only [Bool.and_eq_true, beq_iff_eq] at e
          obtain ⟨rfl, rfl⟩ := e
          exact m.sub p.1 p.2.1 p.2.2 (List.mem_of_find?_eq_some hp) a b h1 h2
      · have hn : vs.length = ds.length := rp.length
        refine ⟨Py.start t.c.nn ds, h0, ksOf (someQ Q0) (someX X0), rel, ?_, q, ?_⟩
        · show RelS K M H (vs.map some ++ List.replicate (t.N.length - vs.length) none) (ds.map some ++ List.replicate (t.c.nn - ds.length) none)
          rw [hn, o.nn]
          exact reps_some rp _
        · exact ⟨fun e2 h2 σ2 H2 ⟨h3, s3, q3⟩ t2 r2 _ => hq _ _ _ _ q3 (t2.part s3) (r2.part s3) .non, fun d h2 v H2 ⟨h3, s3, q3⟩ t2 r2 p2 => hq _ _ _ _ q3 (t2.part s3) (r2.part s3) p2, fun _ _ _ _ q2 => q2.elim, fun _ _ _ _ q2 => q2.elim,
            fun e2 c h2 σ2 H2 d a ⟨h3, s3, q3⟩ t2 r2 _ hm => hx c h3 H2 d a q3 (t2.part s3) (r2.part s3) hm⟩
end
theorem mN {α : Type} {p : α → Prop} : ∀ x ∈ ([] : List α), p x := fun _ h => nomatch h
theorem mC {α : Type} {p : α → Prop} {a : α} {l : List α} (h : p a) (t : ∀ x ∈ l, p x) : ∀ x ∈ a :: l, p x := fun x hx => (List.mem_cons.mp hx).elim (fun e => e ▸ h) (t x)
end Py
namespace Py
open L2 PySem.Spec PySem PyProof.Rows
/-! ### constants of the module -/
def allB (f : Value → D → Bool) : List Value → List D → Bool
  | [], [] => true
  | u :: us, d :: ds => f u d && allB f us ds
  | _, _ => false
def repB (K : PySem.W.Frag) : Nat → Value → D → Bool
  | 0, _, _ => false
  | n + 1, u, d => match d with
    | .non => (match u with
      | .none => true
      | _ => false)
    | .bl b => (match u with
      | .bool c => b == c
      | _ => false)
    | .int i => (match u with
      | .int j _ => decide (i = j)
      | _ => false)
    | .str x => (match u with
      | .str y _ => decide (x = y)
      | _ => false)
    | .fn x => (match u with
      | .ref a => He.eqO (PySem.W.nsIn K mainGlobals x) (some (some (.ref a)))
      | _ => false)
    | .tup ds => (match u with
      | .ref a =>
          (match K.lookup a with
        | some ⟨.type c, none, .seq its _, _⟩ => decide (c = "tuple") && (decide (its.size ≤ sizeLine) && allB (repB K n) its.toList ds)
        | _ => false)
      | _ => false)
    | .fl ds => (match u with
      | .ref a =>
          (match K.lookup a with
        | some ⟨.type c, none, .seq its _, _⟩ => decide (c = "list") && (decide (its.size ≤ sizeLine) && allB (repB K n) its.toList ds)
        | _ => false)
      | _ => false)
    | .loc _ => false
section
variable {K : PySem.W.Frag} {M : Str → Option Value} {h : Heap}
theorem repB_ok (X : K.In h) (G : h.Ns mainGlobals M) : ∀ (n : Nat) (u : Value) (d : D), repB K n u d = true → ∃ v, RelV v u ∧ ∀ H, Rep K M H v d
  | 0, u, d, q => by cases q
  | n + 1, u, d, q => by
    have all : ∀ (us : List Value) (ds : List D), allB (repB K n) us ds = true → ∃ vs, Vals vs us ∧ ∀ H, Reps K M H vs ds := by
      intro us
      induction us with
      | nil =>
        intro ds q
        cases ds with
        | nil => exact ⟨[], .nil, fun _ => .nil⟩
        | cons _ _ => cases q
      | cons u us ih =>
        intro ds q
        cases ds with
        | nil => cases q
        | cons d ds =>
          rw [allB, Bool.and_eq_true] at q
          obtain ⟨v, r1, r2⟩ := repB_ok X G n u d q.1
          obtain ⟨vs, r3, r4⟩ := ih ds q.2
          exact ⟨v :: vs, .cons r1 r3, fun H => .cons (r2 H) (r4 H)⟩
    unfold repB at q
    cases d with
    | non =>
      cases u with
      | none => exact ⟨.non, rfl, fun _ => .non⟩
      | _ => cases q
    | bl b =>
      cases u with
      | bool c =>
        have e : b = c := by simpa using q
        subst e
        exact ⟨.bl b, rfl, fun _ => .bl b⟩
      | _ => cases q
    | int i =>
      cases u with
      | int j t =>
        have e : i = j := by simpa using q
        subst e
        exact ⟨.int i, ⟨t, rfl⟩, fun _ => .int i⟩
      | _ => cases q
    | str x =>
      cases u with
      | str y t =>
        have e : x = y := by simpa using q
        subst e
        exact ⟨.str x, ⟨t, rfl⟩, fun _ => .str x⟩
      | _ => cases q
    | fn x =>
      cases u with
      | ref a => exact ⟨.ref a, rfl, fun _ => .fn (PySem.W.mg_of X G (He.eqO_ok q))⟩
      | _ => cases q
    | loc _ => cases q
    | tup ds =>
      cases u with
      | ref a =>
        simp only at q
        split at q
        · rename_i c its m sl e
          simp only [Bool.and_eq_true,
              decide_eq_true_eq] at q
          obtain ⟨rfl, hz, q⟩ := q
          obtain ⟨vs, r1, r2⟩ := all _ _ q
          exact ⟨.ref a, rfl, fun H => .tup (.inr ⟨_, its, m, e, rfl, rfl, rfl, hz, r1⟩) (r2 H)⟩
        · cases q
      | _ => cases q
    | fl ds =>
      cases u with
      | ref a =>
        simp only at q
        split at q
        · rename_i c its m sl e
          simp only [Bool.and_eq_true,
              decide_eq_true_eq] at q
          obtain ⟨rfl, hz, q⟩ := q
          obtain ⟨vs, r1, r2⟩ := all _ _ q
          exact ⟨.ref a, rfl, fun H => .fl (.inr ⟨_, its, m, e, rfl, rfl, rfl, hz, r1⟩) (r2 H)⟩
        · cases q
      | _ => cases q
def glB (gl : List (Str × D)) (K : PySem.W.Frag) : Bool := gl.all fun p => match PySem.W.nsIn K mainGlobals p.1 with
  | some (some u) => repB K 12 u p.2
  | _ => false
def faOf (tb : List FnT) (sb : List (Str × Str × Bool)) (xs : List Str) : List He.Fa := (tb.map fun t => .glo t.name) ++ (blts.map .free ++ (xs.flatMap (fun c => [.glo c, .exc c]) ++ sb.map fun p => .exm p.1 p.2.1 p.2.2))
/-! ### the Hook -/
abbrev AlP : Type := He.AlD × Bool
def obsP (n : Nat) (fa : List He.Fa) (fn : List He.DefD) (gl : List (Str × D)) (g : Addr → Option Obj) : AlP := (He.obsD fa fn (He.frG g (He.asD g n)), glB gl (He.frG g (He.asD g n)))
def hookP (n : Nat) (fa : List He.Fa) (fn : List He.DefD) (gl : List (Str × D)) : PySem.W.Hook where
  α := AlP
  obs := fun s => obsP n fa fn gl s.heap.get?
  val := fun _ => (He.valD fn, true)
  says := fun _ h => ∃ K : PySem.W.Frag, K.In h ∧ He.SaysD fa fn K ∧ glB gl K = true
  of := fun _ _ e => ⟨_, He.frG_in, congrArg (fun z : AlP => z.1) e, congrArg (fun z : AlP => z.2) e⟩
  keeps :=
      fun _ _ _ ⟨K, hK, c⟩ k => ⟨K, PySem.W.Frag.In.keeps hK k, c⟩
theorem obsP_eq {n : Nat} {fa : List He.Fa} {fn : List He.DefD} {gl : List (Str × D)} {g : Addr → Option Obj} {s : Shared} (h : ∀ a, g a = s.heap.get? a) : obsP n fa fn gl g = (hookP n fa fn gl).obs s := by
  have e : g = s.heap.get? :=
      funext h
  rw [e] <;> rfl
theorem mok_of {tb : List FnT} {gl : List (Str × D)} {sb : List (Str × Str × Bool)} {xs : List Str} (hsb : (sb.all fun p => xs.contains p.1 && xs.contains p.2.1) = true) (X : K.In h) (G : h.Ns mainGlobals M) (c : He.SaysD (faOf tb sb xs) (tb.map FnT.d) K) (cg : glB gl K = true) : MOk K M tb gl sb xs := by
  have fx : ∀ f ∈ faOf tb sb xs, f.ok K = true := fun f hf => He.SaysD.facts c hf
  have hx : ∀ x ∈ xs, M x = some (.ref (He.ga K x)) := fun x hx => He.glo_ok X G (fx _ (List.mem_append_right _ (List.mem_append_right _ (List.mem_append_left _ (List.mem_flatMap.mpr ⟨x, hx, by simp⟩)))))
  refine ⟨fun t ht => ?_, fun x hx => ?_, fun x d hd => ?_, fun y hy => ?_, fun x y k hs a b ha hb => ?_⟩
  · obtain ⟨fd, F⟩ := He.SaysD.defs c (d := t.d) (List.mem_map_of_mem ht)
    have hM := He.glo_ok X G (fx (.glo t.name) (List.mem_append_left _ (List.mem_map.mpr ⟨t, ht, rfl⟩)))
    exact ⟨_, fd, F, hM⟩
  · refine He.free_ok X G (fx (.free x) (List.mem_append_right _ (List.mem_append_left _ (List.mem_map.mpr ⟨x, ?_, rfl⟩))))
    unfold bltB at hx
    simpa using hx
  · have q := List.all_eq_true.mp cg _ hd
    simp only at q
    split at q
    · rename_i u e
      obtain ⟨v, r1, r2⟩ := repB_ok X G 12 u d q
      exact ⟨v, u, PySem.W.mg_of X G e, r1, r2⟩
    · cases q
  · have q := He.exc_ok (fx (.exc y) (List.mem_append_right _ (List.mem_append_right _ (List.mem_append_left _ (List.mem_flatMap.mpr ⟨y, hy, by simp⟩)))))
    exact ⟨_, hx y hy, q.2.1, q.2.2.1, q.2.2.2, q.1⟩
  · have q := He.exm_ok (fx (.exm x y k) (List.mem_append_right _ (List.mem_append_right _ (List.mem_append_right _ (List.mem_map.mpr ⟨_, hs, rfl⟩)))))
    have q2 := List.all_eq_true.mp hsb _ hs
    rw [Bool.and_eq_true] at q2
    have e1 := (hx x (by simpa using q2.1)).symm.trans ha
    have e2 := (hx y (by simpa using q2.2)).symm.trans hb
    cases e1
    cases e2
    exact q
end
def cxA (P : Program) : CXT := fun outer H s E e s' => ∃ w, L2.CX P w outer H s E e s'
theorem cx_no {P : Program} {w : World} {H : Hp} {s : Shared} {e : Value} {s' : Shared} (c : L2.CX P w [] H s (fun _ _ _ => False) e s') : False := by
  obtain ⟨_, _, _, _, _, _, _, _, _, _, _, _, z⟩ := c
  exact z
theorem fn_cx {P : Program} {w : World} {K : PySem.W.Frag} {mg : Str → Option Value} {base : Heap} {k : Nat} {f : Addr} {fd : FuncData} {ps : List Str} {sp : Sp} (F : FnOk P w K mg base (L2.CX P w) k f fd ps sp) : FnOk P w K mg base (cxA P) k f fd ps sp :=
  ⟨F.len, fun A outer s H args us vs Q E h1 h2 h3 h4 h5 => codeAny_mono (F.run A outer s H args us vs Q E h1 h2 h3 h4 h5) fun r s' q => by
    cases r with
    | error e => exact ⟨w, q⟩
    | ok fl => cases fl <;> exact q⟩
/-- THE END of a law: the abstract reading of law(script) comes to True -/
theorem law_end {l : PySem.W.OpenLaw} {k m : Nat} {q : Program} {loose : List Str} {XP : (Str → Option Value) → Heap → Prop} {d : DefRec} {tb : List FnT} {gl : List (Str × D)} {sb : List (Str × Str × Bool)} {xs : List Str} {t : FnT} {x : Str}
    (hl : l.most = some 63) (hdf : d.params.defaults = []) (hr : Room k callerA) (T : TOk tb gl xs) (hsb : (sb.all fun p => xs.contains p.1 && xs.contains p.2.1) = true) (ht : tbF tb d.name = some t) (hps : t.ps = [x])
    (F : ∀ ns : List Int, ns.length ≤ 63 → wC (progOf tb gl sb) k d.name [.fl (ns.map D.int)] (fun _ => none) (fun v _ => v = .bl true) noX) :
    PySem.W.WalkO q loose XP (hookP m (faOf tb sb xs) (tb.map FnT.d) gl).says l.row.toRowW d [] (fun f vs => PySem.call f vs) := by
  refine L2.walk_ofE (n := 63) (k := k) (x := x) (CX := cxA l.prog) hl (by decide) hdf hr (fun w mg fa h Y G hmg => ?_) (fun H s e s' ⟨w, c⟩ => ?_)
  · obtain ⟨K, KX, c, cg⟩ := Y
    have m := mok_of hsb KX G c cg
    obtain ⟨tm, tn⟩ := tbF_mem ht
    obtain ⟨fa', fd, hF, hM⟩ := m.df t tm
    have e : fa = fa' := by
      have e1 := hmg.symm.trans ((congrArg mg tn.symm).trans hM)
      cases e1
      rfl
    subst e
    have o := T.ok t tm
    have hb := fun (s : Shared) (u : Value) => hF.bindsA (ps := t.ps) o.bd s [u] (by rw [hps]; rfl)
    refine ⟨K, fd, spOf K mg (wC (progOf tb gl sb) k) d.name t.ps.length, KX, fun s u => by have := hb s u; rw [hps] at this; exact this, fun H a ns hl hO hS => ?_, fun base hK hB => ?_⟩
    · refine ⟨by rw [hps]; rfl, fun _ => none, [.fl (ns.map D.int)], _, noX, (fun a o e => by cases e), .cons (.fl ?_ (Reps.ofInts ns)) .nil, F ns hl, fun d h' v H' e _ _ r => ?_, fun _ _ _ _ _ z => z.elim⟩
      · rcases hS with hS | hS
        · rcases hS with hS | hS
          · rcases hO a with z | ⟨o', xs', z⟩
            · rw [z] at hS; cases hS
            · rw [z] at hS; cases hS
          · exact .inl hS
        · exact .inr hS
      · subst e
        cases r
        rfl
    · have F2 := fnAll (pr := l.prog) (w := w) (base := base) T m k t fa fd (by rw [tn]; exact ht) hF hM
      have F3 := fn_cx F2.ok
      rw [tn, hps] at F3
      rw [hps]
      exact F3
  · exact cx_no c
end Py
namespace Py
open PySem (Str)
theorem wC_i {P : Prog} {n : Nat} {f : Str} {c : Fn} {ds : List D} {h : AH} {Q : D → AH → Prop} {X : Xc} (e : P.fn f = some c) (l : ds.length = c.np) (q : wB (wC P n) P.gl P.sub c.body (start c.nn ds) h (ksOf (someQ Q) (someX X))) : wC P (n + 1) f ds h Q X := ⟨c, e, l, q⟩
theorem sub_refl {h : AH} : Sub h h := fun _ _ e => e
theorem sub_put {h : AH} {a : Nat} {o : AO} (n : h a = none) : Sub h (put h a o) := fun b u e => by
  have : b ≠ a := fun z => by rw [z, n] at e; cases e
  rw [put_ne this]; exact e
theorem Sub.put {h h' : AH} {a : Nat} {o : AO} (s : Sub h h') (n : h a = none) : Sub h (put h' a o) := fun b u e => by
  have : b ≠ a := fun z => by rw [z, n] at e; cases e
  rw [put_ne this]; exact s b u e
theorem someX_i {X : Xc} {c : Str} {h : AH} (q : X c h) : someX X c h := ⟨h, sub_refl, q⟩
theorem someQ_i {Q : D → AH → Prop} {d : D} {h : AH} (q : Q d h) : someQ Q d h := ⟨h, sub_refl, q⟩
theorem someQ_s {Q : D → AH → Prop} {d : D} {h h' : AH} (s : Sub h h') (q : Q d h) : someQ Q d h' := ⟨h, s, q⟩
section
variable {cal : Cal} {G : Str → Option D} {Sb : Str → Str → Option Bool} {env : Env} {h : AH} {K : Ks} {X : Xc} {Q : Rv → AH → Prop} {QE : List D → AH → Prop} {QO : Option Int → AH → Prop} {QI : Src → AH → Prop}
/-- the rest of a body, not opened yet -/
def rB (cal : Cal) (G : Str → Option D) (Sb : Str → Str → Option Bool) (r : Sts) (K : Ks) : Env → AH → Prop := fun env h => wB cal G Sb r env h K
@[simp] theorem v_rB {r : Sts} : rB cal G Sb r K env h = wB cal G Sb r env h K := (rfl)
@[simp] theorem v_nil : wB cal G Sb .nil env h K = K.nx env h := (rfl)
@[simp] theorem v_cons {s : St} {r : Sts} : wB cal G Sb (.cons s r) env h K = wS cal G Sb s env h (K.then (rB cal G Sb r K)) := (rfl)
@[simp] theorem v_nx {n : Env → AH → Prop} : (K.then n).nx = n := (rfl)
@[simp] theorem v_rt {n : Env → AH → Prop} : (K.then n).rt = K.rt := (rfl)
@[simp] theorem v_bk {n : Env → AH → Prop} : (K.then n).bk = K.bk := (rfl)
@[simp] theorem v_ct {n : Env → AH → Prop} : (K.then n).ct = K.ct := (rfl)
@[simp] theorem v_ex {n : Env → AH → Prop} : (K.then n).ex = K.ex := (rfl)
@[simp] theorem v_tnx {n : Env → AH → Prop} : (K.turn n).nx = n := (rfl)
@[simp] theorem v_trt {n : Env → AH → Prop} : (K.turn n).rt = K.rt := (rfl)
@[simp] theorem v_tbk {n : Env → AH → Prop} : (K.turn n).bk = K.nx := (rfl)
@[simp] theorem v_tct {n : Env → AH → Prop} : (K.turn n).ct = n := (rfl)
@[simp] theorem v_tex {n : Env → AH → Prop} : (K.turn n).ex = K.ex := (rfl)
@[simp] theorem v_krt {Q : D → AH → Prop} {X : Xc} : (ksOf Q X).rt = Q := (rfl)
@[simp] theorem v_knx {Q : D → AH → Prop} {X : Xc} {env : Env} {h : AH} : (ksOf Q X).nx env h = Q .non h := (rfl)
@[simp] theorem v_kex {Q : D → AH → Prop} {X : Xc} {env : Env} : (ksOf Q X).ex env = X := (rfl)
@[simp] theorem v_asg {t : Tg} {e : Ex} : wS cal G Sb (.asg t e) env h K = wX cal G e env h (fun r h1 => rv r h1 fun d h2 => wTg t d env h2 K.nx) (K.ex env) := (rfl)
@[simp] theorem v_set {o i e : Ex} : wS cal G Sb (.set o i e) env h K = wX cal G e env h (fun r h1 => rv r h1 fun d h2 => wX cal G o env h2 (fun r2 h3 => rv r2 h3 fun a h4 => wX cal G i env h4 (fun r3 h5 => rv r3 h5 fun k h6 => gd (setD a k d h6) fun h7 => K.nx env h7) (K.ex env)) (K.ex env)) (K.ex env) := (rfl)
@[simp] theorem v_aug {i : Nat} {op : Bop} {e : Ex} : wS cal G Sb (.aug i op e) env h K = gd (lk env i) fun x => wX cal G e env h (fun r h1 => gd (augD op x r h1) fun p => rv p.1 p.2 fun d h2 => K.nx (env.set i (some d)) h2) (K.ex env) := (rfl)
@[simp] theorem v_expr {e : Ex} : wS cal G Sb (.expr e) env h K = wX cal G e env h (fun _ h1 => K.nx env h1) (K.ex env) := (rfl)
@[simp] theorem v_ifs {c : Ex} {a b : Sts} : wS cal G Sb (.ifs c a b) env h K = wX cal G c env h (fun r h1 => gd (tru r h1) fun k => if k = true then wB cal G Sb a env h1 K else wB cal G Sb b env h1 K) (K.ex env) := (rfl)
@[simp] theorem v_ret {e : Ex} : wS cal G Sb (.ret e) env h K = wX cal G e env h (fun r h1 => rv r h1 K.rt) (K.ex env) := (rfl)
@[simp] theorem v_retn : wS cal G Sb .retn env h K = K.rt .non h := (rfl)
@[simp] theorem v_rais {c : Str} : wS cal G Sb (.rais c) env h K = K.ex env c h := (rfl)
/-- what is wanted inside of a try -/
def Ks.tr (K : Ks) (S : Str → Str → Option Bool) (c : Str) (d : D) : Ks := ⟨K.nx, K.rt, K.bk, K.ct, fun env1 x h1 => gd (S x c) fun k => if k = true then K.rt d h1 else K.ex env1 x h1⟩
@[simp] theorem v_try {b : Sts} {c : Str} {d : D} : wS cal G Sb (.tryx b c d) env h K = wB cal G Sb b env h (K.tr Sb c d) := (rfl)
@[simp] theorem v_trnx {S : Str → Str → Option Bool} {c : Str} {d : D} : (K.tr S c d).nx = K.nx := (rfl)
@[simp] theorem v_trrt {S : Str → Str → Option Bool} {c : Str} {d : D} : (K.tr S c d).rt = K.rt := (rfl)
@[simp] theorem v_trbk {S : Str → Str → Option Bool} {c : Str} {d : D} : (K.tr S c d).bk = K.bk := (rfl)
@[simp] theorem v_trct {S : Str → Str → Option Bool} {c : Str} {d : D} : (K.tr S c d).ct = K.ct := (rfl)
@[simp] theorem v_trex {S : Str → Str → Option Bool} {c : Str} {d : D} {x : Str} : (K.tr S c d).ex env x h = gd (S x c) fun k => if k = true then K.rt d h else K.ex env x h := (rfl)
@[simp] theorem v_pass : wS cal G Sb .pass env h K = K.nx env h := (rfl)
@[simp] theorem v_brk : wS cal G Sb .brk env h K = K.bk env h := (rfl)
@[simp] theorem v_cnt : wS cal G Sb .cnt env h K = K.ct env h := (rfl)
@[simp] theorem v_lit {d : D} : wX cal G (.lit d) env h Q X = Q (.v d) h := (rfl)
@[simp] theorem v_var {i : Nat} : wX cal G (.var i) env h Q X = gd (lk env i) fun d => Q (.v d) h := (rfl)
@[simp] theorem v_glo {x : Str} : wX cal G (.glo x) env h Q X = gd (G x) fun d => Q (.v d) h := (rfl)
@[simp] theorem v_bin {op : Bop} {a b : Ex} : wX cal G (.bin op a b) env h Q X = wX cal G a env h (fun x h1 => wX cal G b env h1 (fun y h2 => gd (binD op x y h2) fun r => Q r h2) X) X := (rfl)
@[simp] theorem v_cmp {op : Cop} {a b : Ex} : wX cal G (.cmp op a b) env h Q X = wX cal G a env h (fun x h1 => wX cal G b env h1 (fun y h2 => gd (cmpD op x y h2) fun k => Q (.v (.bl k)) h2) X) X := (rfl)
@[simp] theorem v_chain {o1 o2 : Cop} {a b c : Ex} : wX cal G (.chain o1 o2 a b c) env h Q X = wX cal G a env h (fun x h1 => wX cal G b env h1 (fun y h2 => gd (cmpD o1 x y h2) fun k => if k = true then wX cal G c env h2 (fun z h3 => gd (cmpD o2 y z h3) fun k2 => Q (.v (.bl k2)) h3) X else Q (.v (.bl false)) h2) X) X := (rfl)
@[simp] theorem v_isc {neg : Bool} {a : Ex} {c : D} : wX cal G (.isc neg a c) env h Q X = wX cal G a env h (fun x h1 => gd (isD x c) fun k => Q (.v (.bl (k != neg))) h1) X := (rfl)
@[simp] theorem v_and {a b : Ex} : wX cal G (.and a b) env h Q X = wX cal G a env h (fun x h1 => gd (tru x h1) fun k => if k = true then wX cal G b env h1 Q X else Q x h1) X := (rfl)
@[simp] theorem v_or {a b : Ex} : wX cal G (.or a b) env h Q X = wX cal G a env h (fun x h1 => gd (tru x h1) fun k => if k = true then Q x h1 else wX cal G b env h1 Q X) X := (rfl)
@[simp] theorem v_not {a : Ex} : wX cal G (.not a) env h Q X = wX cal G a env h (fun x h1 => gd (tru x h1) fun k => Q (.v (.bl (!k))) h1) X := (rfl)
@[simp] theorem v_neg {a : Ex} : wX cal G (.neg a) env h Q X = wX cal G a env h (fun x h1 => gd (asInt x) fun i => Q (.v (.int (-i))) h1) X := (rfl)
@[simp] theorem v_ite {c a b : Ex} : wX cal G (.ite c a b) env h Q X = wX cal G c env h (fun x h1 => gd (tru x h1) fun k => if k = true then wX cal G a env h1 Q X else wX cal G b env h1 Q X) X := (rfl)
@[simp] theorem v_tup {es : Es} : wX cal G (.tup es) env h Q X = wEs cal G es env h (fun ds h1 => ds.length ≤ 16777216 ∧ Q (.v (.tup ds)) h1) X := (rfl)
@[simp] theorem v_lst {es : Es} : wX cal G (.lst es) env h Q X = wEs cal G es env h (fun ds h1 => ds.length ≤ 16777216 ∧ Q (.o (.lst ds)) h1) X := (rfl)
@[simp] theorem v_call {f : Str} {es : Es} : wX cal G (.call f es) env h Q X = wEs cal G es env h (fun ds h1 => cal f ds h1 (fun d h2 => Q (.v d) h2) X) X := (rfl)
@[simp] theorem v_b1 {b : Bi} {a : Ex} : wX cal G (.b1 b a) env h Q X = wX cal G a env h (fun x h1 => gd (b1D b x h1) fun r => Q r h1) X := (rfl)
@[simp] theorem v_b2 {b : B2} {a c : Ex} : wX cal G (.b2 b a c) env h Q X = wX cal G a env h (fun x h1 => rv x h1 fun x1 h2 => wX cal G c env h2 (fun y h3 => rv y h3 fun y1 h4 => gd (b2D b x1 y1) fun r => Q (.v r) h4) X) X := (rfl)
@[simp] theorem v_mt {m : Mt} {o : Ex} {es : Es} : wX cal G (.mt m o es) env h Q X = wX cal G o env h (fun x h1 => mtChk m x h1 = true ∧ wEs cal G es env h1 (fun ds h2 => gd (mtD m x ds h2) fun p => Q p.1 p.2) X) X := (rfl)
@[simp] theorem v_ix {a i : Ex} : wX cal G (.ix a i) env h Q X = wX cal G a env h (fun x h1 => wX cal G i env h1 (fun y h2 => gd (ixD x y h2) fun d => Q (.v d) h2) X) X := (rfl)
@[simp] theorem v_sl {a : Ex} {lo hi : Oe} : wX cal G (.sl a lo hi) env h Q X = wX cal G a env h (fun x h1 => wO cal G lo env h1 (fun l h2 => wO cal G hi env h2 (fun u h3 => gd (slD x l u h3) fun r => Q r h3) X) X) X := (rfl)
@[simp] theorem v_rng {t : Bool} {it : It} : wX cal G (.rng t it) env h Q X = wI cal G it env h (fun s h1 => s.items.length ≤ 16777216 ∧ Q (if t = true then .v (.tup s.items) else .o (.lst s.items)) h1) X := (rfl)
@[simp] theorem v_esn : wEs cal G .nil env h QE X = QE [] h := (rfl)
@[simp] theorem v_esc {e : Ex} {es : Es} : wEs cal G (.cons e es) env h QE X = wX cal G e env h (fun r h1 => rv r h1 fun d h2 => wEs cal G es env h2 (fun ds h3 => QE (d :: ds) h3) X) X := (rfl)
@[simp] theorem v_ono : wO cal G .no env h QO X = QO none h := (rfl)
@[simp] theorem v_oso {e : Ex} : wO cal G (.so e) env h QO X = wX cal G e env h (fun r h1 => gd (asInt r) fun i => QO (some i) h1) X := (rfl)
@[simp] theorem v_iseq {e : Ex} : wI cal G (.seq e) env h QI X = wX cal G e env h (fun r h1 => gd (srcOf r h1) fun s => QI s h1) X := (rfl)
@[simp] theorem v_ir1 {a : Ex} : wI cal G (.rng1 a) env h QI X = wX cal G a env h (fun r h1 => gd (asInt r) fun j => small62 j = true ∧ QI (.fix (rngL 0 j.toNat)) h1) X := (rfl)
@[simp] theorem v_ir2 {a b : Ex} : wI cal G (.rng2 a b) env h QI X = wX cal G a env h (fun r h1 => gd (asInt r) fun i => wX cal G b env h1 (fun r2 h2 => gd (asInt r2) fun j => (small62 i && small62 j) = true ∧ QI (.fix (rngL i (j - i).toNat)) h2) X) X := (rfl)
@[simp] theorem v_tnm {i : Nat} {d : D} {k : Env → AH → Prop} : wTg (.nm i) d env h k = k (env.set i (some d)) h := (rfl)
@[simp] theorem v_ttp {ts : Tgs} {d : D} {k : Env → AH → Prop} : wTg (.tp ts) d env h k = gd (sqV (.v d) h) fun xs => wTgs ts xs env h k := (rfl)
@[simp] theorem v_tsn {xs : List D} {k : Env → AH → Prop} : wTgs .nil xs env h k = (xs = [] ∧ k env h) := (rfl)
@[simp] theorem v_tsc {t : Tg} {ts : Tgs} {x : D} {r : List D} {k : Env → AH → Prop} : wTgs (.cons t ts) (x :: r) env h k = wTg t x env h fun env1 h1 => wTgs ts r env1 h1 k := (rfl)
@[simp] theorem v_tse {t : Tg} {ts : Tgs} {k : Env → AH → Prop} : wTgs (.cons t ts) [] env h k = False := (rfl)
end
@[simp] theorem v_lk0 {o : Option D} {r : Env} : lk (o :: r) 0 = o := by cases o <;> rfl
@[simp] theorem v_lkS {o : Option D} {r : Env} {n : Nat} : lk (o :: r) (n + 1) = lk r n := (rfl)
@[simp] theorem v_asInt {i : Int} : asInt (.v (.int i)) = some i := (rfl)
@[simp] theorem v_start {n : Nat} {ds : List D} : start n ds = ds.map some ++ List.replicate (n - ds.length) none := (rfl)
@[simp] theorem v_fixi {xs : List D} : (Src.fix xs).items = xs := (rfl)
@[simp] theorem v_fixc {xs : List D} {h : AH} : (Src.fix xs).chk h = True := (rfl)
@[simp] theorem v_lsti {a : Nat} {xs : List D} : (Src.lst a xs).items = xs := (rfl)
@[simp] theorem v_lstc {a : Nat} {xs : List D} {h : AH} : (Src.lst a xs).chk h = (h a = some (.lst xs)) := (rfl)
/-- a walk over a list, by a word -/
theorem wFor_by {chk : AH → Prop} {bd : D → Env → AH → (Env → AH → Prop) → Prop} {nx : Env → AH → Prop} (mono : ∀ x e h k k', (∀ e h, k e h → k' e h) → bd x e h k → bd x e h k') {xs : List D} (I : Nat → Env → AH → Prop) {env : Env} {h : AH} (h0 : I 0 env h)
    (hc : ∀ i env h, i ≤ xs.length → I i env h → chk h) (hs : ∀ (i : Nat) (x : D) (env : Env) (h : AH), xs[i]? = some x → I i env h → bd x env h (I (i + 1))) (hn : ∀ env h, I xs.length env h → nx env h) : wFor chk bd nx xs env h := by
  have key : ∀ (ys : List D) (i : Nat) (env : Env) (h : AH), ys = xs.drop i → i ≤ xs.length → I i env h → wFor chk bd nx ys env h := by
    intro ys
    induction ys with
    | nil =>
      intro i env h e hi q
      have : i = xs.length := by
        have := congrArg List.length e
        simp at this
        omega
      subst this
      exact ⟨hc _ _ _ hi q, hn _ _ q⟩
    | cons y ys ih =>
      intro i env h e hi q
      have hlt :
          i < xs.length := by
        have := congrArg List.length e
        simp at this
        omega
      have hx : xs[i]? = some y := by
        have := congrArg (fun l => l[0]?) e
        simpa using this.symm
      refine ⟨hc _ _ _ hi q, mono _ _ _ _ _ (fun env1 h1 q1 => ih (i + 1) env1 h1 ?_ hlt q1) (hs i y env h hx q)⟩
      rw [List.drop_eq_getElem_cons hlt] at e
      exact (List.cons.inj e).2
  exact key xs 0 env h rfl (Nat.zero_le _) h0
theorem bdF_mono {P : Prog} {n : Nat} {t : Tg} {b : Sts} {K : Ks} : ∀ x e h k k', (∀ e h, k e h → k' e h) → bdF (wTg t) (wB (wC P n) P.gl P.sub b) K x e h k → bdF (wTg t) (wB (wC P n) P.gl P.sub b) K x e h k' := fun x e h k k' m q =>
  mTg t _ _ _ _ _ (fun e3 h3 q => mB (wC_mono P n) b e3 h3 (K.turn k) (K.turn k') ⟨m, fun _ _ z => z, fun _ _ z => z, m, fun _ _ _ z => z⟩ q) q
/-- a walk, not opened yet -/
def ForG (cal : Cal) (G : Str → Option D) (Sb : Str → Str → Option Bool) (t : Tg) (b : Sts) (K : Ks) (env : Env) (s : Src) (h : AH) : Prop := wFor s.chk (bdF (wTg t) (wB cal G Sb b) K) K.nx s.items env h
@[simp] theorem v_for {cal : Cal} {G : Str → Option D} {Sb : Str → Str → Option Bool} {t : Tg} {it : It} {b : Sts} {env : Env} {h : AH} {K : Ks} : wS cal G Sb (.for_ t it b) env h K = wI cal G it env h (fun s h1 => ForG cal G Sb t b K env s h1) (K.ex env) := (rfl)
section
variable {P : Prog} {n : Nat} {t : Tg} {b : Sts} {env : Env} {h : AH} {K : Ks} {xs : List D} {a : Nat}
/-- over what stays -/
theorem for_f (I : Nat → Env → AH → Prop) (h0 : I 0 env h) (hs : ∀ (i : Nat) (x : D) (env : Env) (h : AH) (N : Env → AH → Prop), xs[i]? = some x → I i env h → (∀ env h, I (i + 1) env h → N env h) → wTg t x env h fun e3 h3 => wB (wC P n) P.gl P.sub b e3 h3 (K.turn N))
    (hn : ∀ env h, I xs.length env h → K.nx env h) : ForG (wC P n) P.gl P.sub t b K env (.fix xs) h := wFor_by bdF_mono I h0 (fun _ _ _ _ _ => trivial) (fun i x env h hx hi => hs i x env h _ hx hi fun _ _ z => z) hn
/-- over a list of the heap -/
theorem for_l (I : Nat → Env → AH → Prop) (h0 : I 0 env h) (hc : ∀ i env h, i ≤ xs.length → I i env h → h a = some (.lst xs)) (hs : ∀ (i : Nat) (x : D) (env : Env) (h : AH) (N : Env → AH → Prop), xs[i]? = some x → I i env h → (∀ env h, I (i + 1) env h → N env h) → wTg t x env h fun e3 h3 => wB (wC P n) P.gl P.sub b e3 h3 (K.turn N))
    (hn : ∀ env h, I xs.length env h → K.nx env h) : ForG (wC P n) P.gl P.sub t b K env (.lst a xs) h := wFor_by bdF_mono I h0 (fun i e h hi q => hc i e h hi q) (fun i x env h hx hi => hs i x env h _ hx hi fun _ _ z => z) hn
/-- a loop, by a word and a measure -/
theorem whl_i {c : Ex} {b : Sts} (I : Nat → Env → AH → Prop) (m0 : Nat) (h0 : I m0 env h) (hs : ∀ (m : Nat) (env : Env) (h : AH) (N : Env → AH → Prop), I m env h → (∀ m' env h, m' < m → I m' env h → N env h) → wX (wC P n) P.gl c env h (fun r h1 => gd (tru r h1) fun k => if k = true then wB (wC P n) P.gl P.sub b env h1 (K.turn N) else K.nx env h1) (K.ex env)) :
    wS (wC P n) P.gl P.sub (.whl c b) env h K := ⟨I, ⟨m0, h0⟩, fun m env h q => hs m env h _ q fun m' e h hm q => ⟨m', hm, q⟩⟩
end
theorem rngL_at {lo : Int} {n i : Nat} {x : D} (h : (rngL lo n)[i]? = some x) : i < n ∧ x = .int (lo + (i : Int)) := by
  simp only [rngL, List.getElem?_map, Option.map_eq_some_iff] at h
  obtain ⟨k, hk, rfl⟩ := h
  obtain ⟨hl, e⟩ := List.getElem?_eq_some_iff.mp hk
  rw [List.length_range] at hl
  rw [List.getElem_range] at e
  subst e
  exact ⟨hl, rfl⟩
@[simp] theorem rngL_length {lo : Int} {n : Nat} : (rngL lo n).length = n := by simp [rngL]
/-- turns that leave the heap as it is -/
theorem wComp_map {chk : AH → Prop} {step : D → AH → (Option D → AH → Prop) → Prop} {f : D → Option D} {h : AH} {Q : List D → AH → Prop} (hc : chk h) : ∀ {xs acc : List D}, (∀ x ∈ xs, ∀ k : Option D → AH → Prop, k (f x) h → step x h k) → acc.length + xs.length ≤ 16777216 → Q (acc ++ xs.filterMap f) h →
    wComp chk step xs acc h Q
  | [], acc, hs, hl, q => ⟨hc, by simpa using q⟩
  | x :: r, acc, hs, hl, q => by
    refine ⟨hc, hs x List.mem_cons_self _ ?_⟩
    have hl' : acc.length + (r.length + 1) ≤ 16777216 := by simpa using hl
    cases e : f x with
    | none => exact wComp_map hc (fun y hy => hs y (List.mem_cons_of_mem _ hy)) (by omega) (by simpa [List.filterMap_cons, e] using q)
    | some y => exact ⟨by omega, wComp_map hc (fun y hy => hs y (List.mem_cons_of_mem _ hy)) (by simp; omega) (by simpa [List.filterMap_cons, e] using q)⟩
theorem wComp_by {chk : AH → Prop} {step : D → AH → (Option D → AH → Prop) → Prop} (mono : ∀ x h k k', (∀ o h, k o h → k' o h) → step x h k → step x h k') {xs : List D} {Q : List D → AH → Prop} (I : Nat → List D → AH → Prop) {acc : List D} {h : AH} (h0 : I 0 acc h)
    (hc : ∀ i acc h, i ≤ xs.length → I i acc h → chk h) (hs : ∀ (i : Nat) (x : D) (acc : List D) (h : AH), xs[i]? = some x → I i acc h → step x h fun o h1 => match o with
      | none => I (i + 1) acc h1
      | some y => acc.length < 16777216 ∧ I (i + 1) (acc ++ [y]) h1) (hn : ∀ acc h, I xs.length acc h → Q acc h) : wComp chk step xs acc h Q := by
  have key : ∀ (ys : List D) (i : Nat) (acc : List D) (h : AH), ys = xs.drop i → i ≤ xs.length → I i acc h → wComp chk step ys acc h Q := by
    intro ys
    induction ys with
    | nil =>
      intro i acc h e hi q
      have : i = xs.length := by
        have := congrArg List.length e
        simp at this
        omega
      subst this
      exact ⟨hc _ _ _ hi q, hn _ _ q⟩
    | cons y ys ih =>
      intro i acc h e hi q
      have hlt :
          i < xs.length := by
        have := congrArg List.length e
        simp at this
        omega
      have hx : xs[i]? = some y := by
        have := congrArg (fun l => l[0]?) e
        simpa using this.symm
      rw [List.drop_eq_getElem_cons hlt] at e
      refine ⟨hc _ _ _ hi q, mono _ _ _ _ (fun o h1 q1 => ?_) (hs i y acc h hx q)⟩
      cases o with
      | none => exact ih (i + 1) acc h1 (List.cons.inj e).2 hlt q1
      | some z => exact ⟨q1.1, ih (i + 1) _ h1 (List.cons.inj e).2 hlt q1.2⟩
  exact key xs 0 acc h rfl (Nat.zero_le _) h0
/-- a comprehension's turns, not opened yet -/
def CompG (cal : Cal) (G : Str → Option D) (t : Tg) (own : List Nat) (e : Ex) (env : Env) (s : Src) (h : AH) (Q : List D → AH → Prop) : Prop := wComp s.chk (stepC (wTg t) env own (wX cal G e)) s.items [] h Q
def CompiG (cal : Cal) (G : Str → Option D) (t : Tg) (own : List Nat) (c e : Ex) (env : Env) (s : Src) (h : AH) (Q : List D → AH → Prop) : Prop := wComp s.chk (stepCi (wTg t) env own (wX cal G c) (wX cal G e)) s.items [] h Q
section
variable {cal : Cal} {G : Str → Option D} {t : Tg} {it : It} {own : List Nat} {c e : Ex} {env : Env} {h : AH} {Q : Rv → AH → Prop} {X : Xc}
@[simp] theorem v_comp : wX cal G (.comp t it own e) env h Q X = wI cal G it env h (fun s h1 => CompG cal G t own e env s h1 fun acc h2 => Q (.o (.lst acc)) h2) X := (rfl)
@[simp] theorem v_compi : wX cal G (.compi t it own c e) env h Q X = wI cal G it env h (fun s h1 => CompiG cal G t own c e env s h1 fun acc h2 => Q (.o (.lst acc)) h2) X := (rfl)
end
section
variable {P : Prog} {n : Nat} {t : Tg} {own : List Nat} {c e : Ex} {env : Env} {h : AH} {Q : List D → AH → Prop} {s : Src}
/-- [e for t in ..], the heap as it is -/
theorem comp_m (f : D → D) (hc : s.chk h) (hl : s.items.length ≤ 16777216) (hs : ∀ x ∈ s.items, ∀ k : D → AH → Prop, k (f x) h → wTg t x (wipe env own) h fun e2 h3 => wX (wC P n) P.gl e e2 h3 (fun r h4 => rv r h4 k) noX) (hq : Q (s.items.map f) h) :
    CompG (wC P n) P.gl t own e env s h Q := wComp_map (f := fun x => some (f x)) hc (fun x hx k hk => hs x hx _ hk) (by simpa using hl) (by simpa using hq)
theorem filterMap_if (p : D → Bool) (f : D → D) (xs : List D) : (xs.filterMap fun x => if p x = true then some (f x) else none) = (xs.filter p).map f := by
  induction xs with
  | nil => rfl
  | cons x r ih =>
    rw [List.filterMap_cons, List.filter_cons]
    cases p x <;> simp [ih]
/-- [e for t in .. if c] -/
theorem compi_m (p : D → Bool) (f : D → D) (hc : s.chk h) (hl : s.items.length ≤ 16777216) (hs : ∀ x ∈ s.items, ∀ k : Option D → AH → Prop, k (if p x = true then some (f x) else none) h → wTg t x (wipe env own) h fun e2 h3 =>
      wX (wC P n) P.gl c e2 h3 (fun b h4 => gd (tru b h4) fun b => if b = true then wX (wC P n) P.gl e e2 h4 (fun r h5 => rv r h5 fun d h6 => k (some d) h6) noX else k none h4) noX) (hq : Q ((s.items.filter p).map f) h) : CompiG (wC P n) P.gl t own c e env s h Q :=
  wComp_map (f := fun x => if p x = true then some (f x) else none) hc (fun x hx k hk => hs x hx _ hk) (by simpa using hl) (by rw [List.nil_append, filterMap_if]; exact hq)
/-- .., by a word -/
theorem comp_by (I : Nat → List D → AH → Prop) (h0 : I 0 [] h) (hc : ∀ i acc h, i ≤ s.items.length → I i acc h → s.chk h) (hs : ∀ (i : Nat) (x : D) (acc : List D) (h : AH) (N : List D → AH → Prop), s.items[i]? = some x → I i acc h → (∀ acc h, I (i + 1) acc h → N acc h) →
      wTg t x (wipe env own) h fun e2 h3 => wX (wC P n) P.gl e e2 h3 (fun r h4 => rv r h4 fun d h5 => acc.length < 16777216 ∧ N (acc ++ [d]) h5) noX) (hq : ∀ acc h, I s.items.length acc h → Q acc h) : CompG (wC P n) P.gl t own e env s h Q :=
  wComp_by (mStepC (mTg t) (mX (wC_mono P n) e)) I h0 hc (fun i x acc h hx hi => hs i x acc h _ hx hi fun _ _ z => z) hq
theorem compi_by (I : Nat → List D → AH → Prop) (h0 : I 0 [] h) (hc : ∀ i acc h, i ≤ s.items.length → I i acc h → s.chk h) (hs : ∀ (i : Nat) (x : D) (acc : List D) (h : AH) (N : List D → AH → Prop), s.items[i]? = some x → I i acc h → (∀ acc h, I (i + 1) acc h → N acc h) →
      wTg t x (wipe env own) h fun e2 h3 => wX (wC P n) P.gl c e2 h3 (fun b h4 => gd (tru b h4) fun b => if b = true then wX (wC P n) P.gl e e2 h4 (fun r h5 => rv r h5 fun d h6 => acc.length < 16777216 ∧ N (acc ++ [d]) h6) noX else N acc h4) noX)
    (hq : ∀ acc h, I s.items.length acc h → Q acc h) : CompiG (wC P n) P.gl t own c e env s h Q :=
  wComp_by (mStepCi (mTg t) (mX (wC_mono P n) c) (mX (wC_mono P n) e)) I h0 hc (fun i x acc h hx hi => hs i x acc h _ hx hi fun _ _ z => z) hq
end
/-- a body cut behind a statement -/
theorem cut_i {P : Prog} {n : Nat} {s : St} {r : Sts} {env : Env} {h : AH} {K : Ks} (R : Env → AH → Prop) (h1 : ∀ N : Env → AH → Prop, (∀ env h, R env h → N env h) → wS (wC P n) P.gl P.sub s env h (K.then N)) (h2 : ∀ env h, R env h → wB (wC P n) P.gl P.sub r env h K) : wB (wC P n) P.gl P.sub (.cons s r) env h K :=
  mS (wC_mono P n) s env h (K.then R) (K.then (rB (wC P n) P.gl P.sub r K)) ⟨h2, fun _ _ z => z, fun _ _ z => z, fun _ _ z => z, fun _ _ _ z => z⟩ (h1 R fun _ _ z => z)
/-- all(..), any(..) of what is just made -/
def allP {α : Type} (p : α → Bool) (xs : List α) : Bool := xs.all p
def anyP {α : Type} (p : α → Bool) (xs : List α) : Bool := xs.any p
theorem allP_iff {α : Type} {p : α → Bool} {xs : List α} : allP p xs = true ↔ ∀ x ∈ xs, p x = true := List.all_eq_true
theorem anyP_iff {α : Type} {p : α → Bool} {xs : List α} : anyP p xs = true ↔ ∃ x ∈ xs, p x = true := List.any_eq_true
theorem blsL_p {α : Type} (p : α → Bool) : ∀ xs : List α, blsL (xs.map fun x => D.bl (p x)) = some (xs.map p)
  | [] => rfl
  | x :: xs => by show (blsL (xs.map fun x => D.bl (p x))).map (p x :: ·) = _; rw [blsL_p p xs]; rfl
theorem all_p {α : Type} (p : α → Bool) (xs : List α) (h : AH) : b1D .all (.o (.lst (xs.map fun x => D.bl (p x)))) h = some (.v (.bl (allP p xs))) := by
  show (blsL (xs.map fun x => D.bl (p x))).map (fun bs => Rv.v (D.bl (bs.all id))) = _
  rw [blsL_p]
  simp [allP, Function.comp_def]
theorem any_p {α : Type} (p : α → Bool) (xs : List α) (h : AH) : b1D .any (.o (.lst (xs.map fun x => D.bl (p x)))) h = some (.v (.bl (anyP p xs))) := by
  show (blsL (xs.map fun x => D.bl (p x))).map (fun bs => Rv.v (D.bl (bs.any id))) = _
  rw [blsL_p]
  simp [anyP, Function.comp_def]
def dI : D → Int
  | .int i => i
  | _ => 0
@[simp] theorem dI_int {i : Int} : dI (.int i) = i := rfl
/-! ### what the steps come to -/
section
variable {h : AH} {i j : Int} {b b' : Bool} {s t : Str} {xs ys : List D} {a : Nat} {d : D}
@[simp] theorem t_non : tru (.v .non) h = some false := rfl
@[simp] theorem t_bl : tru (.v (.bl b)) h = some b := rfl
@[simp] theorem t_int : tru (.v (.int i)) h = some (i != 0) := rfl
@[simp] theorem t_tup : tru (.v (.tup xs)) h = some (!xs.isEmpty) := rfl
@[simp] theorem t_o : tru (.o (.lst xs)) h = some (!xs.isEmpty) := rfl
@[simp] theorem t_loc (e : h a = some (.lst xs)) : tru (.v (.loc a)) h = some (!xs.isEmpty) := by simp [tru, ob, e]
@[simp] theorem l_fl : lsV (.v (.fl xs)) h = some xs := rfl
@[simp] theorem l_o : lsV (.o (.lst xs)) h = some xs := rfl
@[simp] theorem l_loc (e : h a = some (.lst xs)) : lsV (.v (.loc a)) h = some xs := by simp [lsV, ob, e]
@[simp] theorem l_tup : lsV (.v (.tup xs)) h = none := rfl
@[simp] theorem lt_o : ltV (.o (.lst xs)) h = some xs := rfl
@[simp] theorem lt_loc (e : h a = some (.lst xs)) : ltV (.v (.loc a)) h = some xs := by simp [ltV, ob, e]
@[simp] theorem s_tupV : sqV (.v (.tup xs)) h = some xs := rfl
@[simp] theorem s_flV : sqV (.v (.fl xs)) h = some xs := rfl
@[simp] theorem s_oV : sqV (.o (.lst xs)) h = some xs := rfl
@[simp] theorem s_locV (e : h a = some (.lst xs)) : sqV (.v (.loc a)) h = some xs := by simp [sqV, lsV, ob, e]
@[simp] theorem n_len_t : b1D .len (.v (.tup xs)) h = some (.v (.int xs.length)) := rfl
@[simp] theorem n_len_f : b1D .len (.v (.fl xs)) h = some (.v (.int xs.length)) := rfl
@[simp] theorem n_len_o : b1D .len (.o (.lst xs)) h = some (.v (.int xs.length)) := rfl
@[simp] theorem n_len_l (e : h a = some (.lst xs)) : b1D .len (.v (.loc a)) h = some (.v (.int xs.length)) := by simp [b1D, e]
@[simp] theorem n_int_i : b1D .int (.v (.int i)) h = some (.v (.int i)) := rfl
@[simp] theorem n_int_b : b1D .int (.v (.bl b)) h = some (.v (.int (if b then 1 else 0))) := rfl
@[simp] theorem n_bool_i : b1D .bool (.v (.int i)) h = some (.v (.bl (i != 0))) := rfl
@[simp] theorem n_bool_b : b1D .bool (.v (.bl b)) h = some (.v (.bl b)) := rfl
@[simp] theorem n_abs : b1D .abs (.v (.int i)) h = some (.v (.int (if i < 0 then -i else i))) := rfl
@[simp] theorem n_tup_t : b1D .tup (.v (.tup xs)) h = some (.v (.tup xs)) := rfl
@[simp] theorem n_tup_f : b1D .tup (.v (.fl xs)) h = some (.v (.tup xs)) := rfl
@[simp] theorem n_tup_o : b1D .tup (.o (.lst xs)) h = some (.v (.tup xs)) := rfl
@[simp] theorem n_tup_l (e : h a = some (.lst xs)) : b1D .tup (.v (.loc a)) h = some (.v (.tup xs)) := by simp [b1D, e]
@[simp] theorem n_lst_t : b1D .lst (.v (.tup xs)) h = some (.o (.lst xs)) := rfl
@[simp] theorem n_lst_f : b1D .lst (.v (.fl xs)) h = some (.o (.lst xs)) := rfl
@[simp] theorem n_lst_o : b1D .lst (.o (.lst xs)) h = some (.o (.lst xs)) := rfl
@[simp] theorem n_lst_l (e : h a = some (.lst xs)) : b1D .lst (.v (.loc a)) h = some (.o (.lst xs)) := by simp [b1D, e]
@[simp] theorem i_non {t : Ty} : isTy (.v .non) t h = some false := rfl
@[simp] theorem i_bl {t : Ty} : isTy (.v (.bl b)) t h = some (match t with | .bool => true | .int => true | _ => false) := rfl
@[simp] theorem i_int {t : Ty} : isTy (.v (.int i)) t h = some (match t with | .int => true | _ => false) := rfl
@[simp] theorem i_str {t : Ty} : isTy (.v (.str s)) t h = some (match t with | .str => true | _ => false) := rfl
@[simp] theorem i_tup {t : Ty} : isTy (.v (.tup xs)) t h = some (match t with | .tup => true | _ => false) := rfl
@[simp] theorem n_isa {t : Ty} {x : Rv} : b1D (.isa t) x h = (isTy x t h).map fun b => .v (.bl b) := rfl
@[simp] theorem o_add : binD .add (.v (.int i)) (.v (.int j)) h = some (.v (.int (i + j))) := rfl
@[simp] theorem o_addt (e : xs.length + ys.length ≤ 16777216) : binD .add (.v (.tup xs)) (.v (.tup ys)) h = some (.v (.tup (xs ++ ys))) := by simp [binD, addD, e]
@[simp] theorem o_addo (e : xs.length + ys.length ≤ 16777216) : binD .add (.o (.lst xs)) (.o (.lst ys)) h = some (.o (.lst (xs ++ ys))) := by simp [binD, addD, ltV, ob, e]
@[simp] theorem o_addlo (e1 : h a = some (.lst xs)) (e : xs.length + ys.length ≤ 16777216) : binD .add (.v (.loc a)) (.o (.lst ys)) h = some (.o (.lst (xs ++ ys))) := by simp [binD, addD, ltV, ob, e, e1]
@[simp] theorem o_addol (e1 : h a = some (.lst ys)) (e : xs.length + ys.length ≤ 16777216) : binD .add (.o (.lst xs)) (.v (.loc a)) h = some (.o (.lst (xs ++ ys))) := by simp [binD, addD, ltV, ob, e, e1]
@[simp] theorem o_addll {a' : Nat} (e0 : h a = some (.lst xs)) (e1 : h a' = some (.lst ys)) (e : xs.length + ys.length ≤ 16777216) : binD .add (.v (.loc a)) (.v (.loc a')) h = some (.o (.lst (xs ++ ys))) := by simp [binD, addD, ltV, ob, e, e0, e1]
@[simp] theorem o_sub : binD .sub (.v (.int i)) (.v (.int j)) h = some (.v (.int (i - j))) := rfl
@[simp] theorem o_mod (e : 0 < j) : binD .mod (.v (.int i)) (.v (.int j)) h = some (.v (.int (i % j))) := by simp [binD, intOp, e]
@[simp] theorem o_fdiv (e : 0 < j) (e2 : j < 1073741824) : binD .fdiv (.v (.int i)) (.v (.int j)) h = some (.v (.int (i / j))) := by simp [binD, intOp, e, e2]
@[simp] theorem o_shr (e : 0 ≤ j) : binD .shr (.v (.int i)) (.v (.int j)) h = some (.v (.int (i / 2 ^ j.toNat))) := by simp [binD, intOp, e]
@[simp] theorem o_shl (e : 0 ≤ j) (e2 : j ≤ 1000000) (e3 : i.natAbs < 18446744073709551616) : binD .shl (.v (.int i)) (.v (.int j)) h = some (.v (.int (i * 2 ^ j.toNat))) := by simp [binD, intOp, e, e2, e3]
@[simp] theorem o_pow (e : 0 ≤ j) (e2 : j ≤ 1000000) (e3 : i.natAbs < 18446744073709551616) : binD .pow (.v (.int i)) (.v (.int j)) h = some (.v (.int (i ^ j.toNat))) := by simp [binD, intOp, e, e2, e3]
@[simp] theorem o_band : binD .band (.v (.int i)) (.v (.int j)) h = some (.v (.int (PySem.Builtin.bitAnd i j))) := rfl
@[simp] theorem o_bxor : binD .bxor (.v (.int i)) (.v (.int j)) h = some (.v (.int (PySem.Builtin.bitXor i j))) := rfl
@[simp] theorem o_bor : binD .bor (.v (.int i)) (.v (.int j)) h = some (.v (.int (PySem.Builtin.bitOr i j))) := rfl
/-- the left factor is small -/
def ml (i : Int) : Prop := -18446744073709551616 < i ∧ i < 18446744073709551616
@[simp] theorem o_mull (e : ml i) : binD .mul (.v (.int i)) (.v (.int j)) h = some (.v (.int (i * j))) := by simp [binD, mulD, mulOk, e.1, e.2]
@[simp] theorem o_mulr (e : ml j) : binD .mul (.v (.int i)) (.v (.int j)) h = some (.v (.int (i * j))) := by simp [binD, mulD, mulOk, e.1, e.2]
theorem ml_of (e1 : -18446744073709551616 < i) (e2 : i < 18446744073709551616) : ml i := ⟨e1, e2⟩
@[simp] theorem o_rep {k : Nat} (e : k < 9223372036854775808) (e2 : xs.length * k ≤ 16777216) : binD .mul (.o (.lst xs)) (.v (.int k)) h = some (.o (.lst (rept xs k))) := by
  have e3 : -9223372036854775808 ≤ (k : Int) := by omega
  have e4 : (k : Int) < 9223372036854775808 := by omega
  simp [binD, mulD, ltV, ob, e2, e3, e4]
@[simp] theorem k_eqi : cmpD .eq (.v (.int i)) (.v (.int j)) h = some (decide (i = j)) := rfl
@[simp] theorem k_nei : cmpD .ne (.v (.int i)) (.v (.int j)) h = some (!decide (i = j)) := rfl
@[simp] theorem k_lt : cmpD .lt (.v (.int i)) (.v (.int j)) h = some (decide (i < j)) := rfl
@[simp] theorem k_lt2 {a b c d : Int} {h : AH} : cmpD .lt (.v (.tup [.int a, .int b])) (.v (.tup [.int c, .int d])) h = some (decide (a < c ∨ (a = c ∧ b < d))) := (rfl)
@[simp] theorem k_le : cmpD .le (.v (.int i)) (.v (.int j)) h = some (decide (i ≤ j)) := rfl
@[simp] theorem k_gt : cmpD .gt (.v (.int i)) (.v (.int j)) h = some (decide (j < i)) := rfl
@[simp] theorem k_ge : cmpD .ge (.v (.int i)) (.v (.int j)) h = some (decide (j ≤ i)) := rfl
@[simp] theorem k_eqs : cmpD .eq (.v (.str s)) (.v (.str t)) h = some (decide (s = t)) := rfl
@[simp] theorem k_nes : cmpD .ne (.v (.str s)) (.v (.str t)) h = some (!decide (s = t)) := rfl
@[simp] theorem k_eqb : cmpD .eq (.v (.bl b)) (.v (.bl b')) h = some (b == b') := rfl
@[simp] theorem d_non : isD (.v .non) .non = some true := rfl
@[simp] theorem d_int : isD (.v (.int i)) .non = some false := rfl
@[simp] theorem d_bl : isD (.v (.bl b)) .non = some false := rfl
@[simp] theorem d_str : isD (.v (.str s)) .non = some false := rfl
@[simp] theorem d_tup : isD (.v (.tup xs)) .non = some false := rfl
@[simp] theorem d_fl : isD (.v (.fl xs)) .non = some false := rfl
@[simp] theorem d_loc : isD (.v (.loc a)) .non = some false := rfl
@[simp] theorem d_o {o : AO} : isD (.o o) .non = some false := rfl
@[simp] theorem x_t : ixD (.v (.tup xs)) (.v (.int i)) h = atI xs i := rfl
@[simp] theorem x_f : ixD (.v (.fl xs)) (.v (.int i)) h = atI xs i := rfl
@[simp] theorem x_o : ixD (.o (.lst xs)) (.v (.int i)) h = atI xs i := rfl
@[simp] theorem x_l (e : h a = some (.lst xs)) : ixD (.v (.loc a)) (.v (.int i)) h = atI xs i := by simp [ixD, e]
@[simp] theorem x_0 {x : D} : atI (x :: xs) 0 = some x := by simp [atI, ixN]
theorem atN {k : Nat} {v : D} (e : xs[k]? = some v) : atI xs (k : Int) = some v := by
  have hl := (List.getElem?_eq_some_iff.mp e).1
  simp [atI, ixN, hl]
  exact (List.getElem?_eq_some_iff.mp e).2
@[simp] theorem x_1 {x y : D} : atI (x :: y :: xs) 1 = some y := atN (k := 1) rfl
@[simp] theorem x_2 {x y z : D} : atI (x :: y :: z :: xs) 2 = some z := atN (k := 2) rfl
@[simp] theorem x_3 {x y z w : D} : atI (x :: y :: z :: w :: xs) 3 = some w := atN (k := 3) rfl
@[simp] theorem x_4 {x y z w u : D} : atI (x :: y :: z :: w :: u :: xs) 4 = some u := atN (k := 4) rfl
@[simp] theorem x_5 {x y z w u v : D} : atI (x :: y :: z :: w :: u :: v :: xs) 5 = some v := atN (k := 5) rfl
@[simp] theorem sl_t {lo hi : Option Int} : slD (.v (.tup xs)) lo hi h = some (.v (.tup (cut xs lo hi))) := rfl
@[simp] theorem sl_o {lo hi : Option Int} : slD (.o (.lst xs)) lo hi h = some (.o (.lst (cut xs lo hi))) := rfl
@[simp] theorem sl_f {lo hi : Option Int} : slD (.v (.fl xs)) lo hi h = some (.o (.lst (cut xs lo hi))) := rfl
@[simp] theorem sl_l {lo hi : Option Int} (e : h a = some (.lst xs)) : slD (.v (.loc a)) lo hi h = some (.o (.lst (cut xs lo hi))) := by simp [slD, e]
@[simp] theorem c_t : srcOf (.v (.tup xs)) h = some (.fix xs) := rfl
@[simp] theorem c_f : srcOf (.v (.fl xs)) h = some (.fix xs) := rfl
@[simp] theorem c_o : srcOf (.o (.lst xs)) h = some (.fix xs) := rfl
@[simp] theorem c_l (e : h a = some (.lst xs)) : srcOf (.v (.loc a)) h = some (.lst a xs) := by simp [srcOf, e]
@[simp] theorem m_app (e : h a = some (.lst xs)) (hl : xs.length < 16777216) : mtD .append (.v (.loc a)) [d] h = some (.v .non, put h a (.lst (xs ++ [d]))) := by simp [mtD, mLs, e, hl]
@[simp] theorem m_rev (e : h a = some (.lst xs)) : mtD .reverse (.v (.loc a)) [] h = some (.v .non, put h a (.lst xs.reverse)) := by simp [mtD, mLs, e]
@[simp] theorem q_app (e : h a = some (.lst xs)) : mtChk .append (.v (.loc a)) h = true := by simp [mtChk, e]
@[simp] theorem q_pop (e : h a = some (.lst xs)) : mtChk .pop (.v (.loc a)) h = true := by simp [mtChk, e]
@[simp] theorem q_rev (e : h a = some (.lst xs)) : mtChk .reverse (.v (.loc a)) h = true := by simp [mtChk, e]
@[simp] theorem q_ext (e : h a = some (.lst xs)) : mtChk .extend (.v (.loc a)) h = true := by simp [mtChk, e]
@[simp] theorem u_add : augD .add (.int i) (.v (.int j)) h = some (.v (.int (i + j)), h) := rfl
@[simp] theorem u_sub : augD .sub (.int i) (.v (.int j)) h = some (.v (.int (i - j)), h) := rfl
@[simp] theorem u_ext (e : h a = some (.lst xs)) (hl : xs.length + ys.length ≤ 16777216) : augD .add (.loc a) (.o (.lst ys)) h = some (.v (.loc a), put h a (.lst (xs ++ ys))) := by simp [augD, e, hl]
@[simp] theorem b_max : b2D .max (.int i) (.int j) = some (.int (if i < j then j else i)) := rfl
@[simp] theorem b_min : b2D .min (.int i) (.int j) = some (.int (if j < i then j else i)) := rfl
end
end Py
namespace Py
open PySem (Str)
/-! ### what all laws share -/
def c__law_draws : Fn := ⟨2, 10, (.cons (.asg (.nm 2) (.comp (.nm 9) (.seq (.var 0)) [8, 9] (.b1 .int (.var 9)))) (.cons (.ifs (.cmp .eq (.b1 .len (.var 2)) (.lit (.int 0))) (.cons (.expr (.mt .append (.var 2) (.cons (.lit (.int 0)) .nil))) .nil) .nil) (.cons (.asg (.nm 3) (.b1 .lst (.var 2))) (.cons (.asg (.nm 4) (.lst .nil)) (.cons (.for_ (.nm 5) (.rng1 (.var 1)) (.cons (.asg (.nm 6) (.bin .mod (.var 5) (.b1 .len (.var 2)))) (.cons (.ifs (.and (.cmp .ge (.ix (.var 2) (.var 6)) (.bin .pow (.lit (.int 10)) (.lit (.int 18)))) (.cmp .gt (.ix (.var 3) (.var 6)) (.lit (.int 0)))) (.cons (.expr (.mt .append (.var 4) (.cons (.bin .mod (.b1 .int (.ix (.var 3) (.var 6))) (.lit (.int 1000))) .nil))) (.cons (.set (.var 3) (.var 6) (.bin .fdiv (.ix (.var 3) (.var 6)) (.lit (.int 1000)))) .nil)) (.cons (.asg (.nm 7) (.bin .mod (.b1 .int (.bin .add (.bin .add (.bin .mul (.ix (.var 2) (.var 6)) (.lit (.int 48271))) (.bin .mul (.var 5) (.lit (.int 69621)))) (.lit (.int 11)))) (.lit (.int 2147483647)))) (.cons (.expr (.mt .append (.var 4) (.cons (.bin .mod (.b1 .int (.bin .add (.bin .add (.bin .mul (.var 7) (.var 7)) (.bin .mul (.lit (.int 3)) (.var 7))) (.var 5))) (.lit (.int 1000003))) .nil))) .nil))) .nil))) (.cons (.expr (.mt .reverse (.var 4) .nil)) (.cons (.ret (.var 4)) .nil)))))))⟩
def c__law_take : Fn := ⟨2, 2, (.cons (.ifs (.cmp .eq (.b1 .len (.var 0)) (.lit (.int 0))) (.cons (.ret (.lit (.int 0))) .nil) .nil) (.cons (.ret (.bin .mod (.b1 .int (.mt .pop (.var 0) .nil)) (.var 1))) .nil))⟩
def c__law_cell : Fn := ⟨1, 2, (.cons (.ifs (.cmp .eq (.b1 .len (.var 0)) (.lit (.int 0))) (.cons (.ret (.lit (.int 0))) .nil) .nil) (.cons (.asg (.nm 1) (.b1 .int (.ix (.var 0) (.bin .mod (.bin .mod (.b1 .int (.bin .sub (.b1 .len (.var 0)) (.lit (.int 1)))) (.lit (.int 7))) (.b1 .len (.var 0)))))) (.cons (.ifs (.cmp .lt (.var 1) (.lit (.int 0))) (.cons (.ret (.neg (.bin .mod (.b1 .int (.neg (.var 1))) (.bin .pow (.lit (.int 10)) (.lit (.int 60)))))) .nil) .nil) (.cons (.ret (.bin .mod (.b1 .int (.var 1)) (.bin .pow (.lit (.int 10)) (.lit (.int 60))))) .nil))))⟩
def c__law_same : Fn := ⟨2, 3, (.cons (.ifs (.b1 (.isa .bool) (.var 1)) (.cons (.ret (.and (.b1 (.isa .bool) (.var 0)) (.cmp .eq (.var 0) (.var 1)))) .nil) .nil) (.cons (.ifs (.b1 (.isa .int) (.var 1)) (.cons (.ret (.and (.b1 (.isa .int) (.var 0)) (.and (.not (.b1 (.isa .bool) (.var 0))) (.cmp .eq (.var 0) (.var 1))))) .nil) .nil) (.cons (.ifs (.b1 (.isa .str) (.var 1)) (.cons (.ret (.and (.b1 (.isa .str) (.var 0)) (.cmp .eq (.var 0) (.var 1)))) .nil) .nil) (.cons (.ifs (.isc false (.var 1) .non) (.cons (.ret (.isc false (.var 0) .non)) .nil) .nil) (.cons (.ifs (.or (.not (.b1 (.isa .tup) (.var 0))) (.cmp .ne (.b1 .len (.var 0)) (.b1 .len (.var 1)))) (.cons (.ret (.lit (.bl false))) .nil) .nil) (.cons (.for_ (.nm 2) (.rng1 (.b1 .len (.var 1))) (.cons (.ifs (.not (.call "_law_same" (.cons (.ix (.var 0) (.var 2)) (.cons (.ix (.var 1) (.var 2)) .nil)))) (.cons (.ret (.lit (.bl false))) .nil) .nil) .nil)) (.cons (.ret (.lit (.bl true))) .nil)))))))⟩
def c__law_power : Fn := ⟨1, 3, (.cons (.asg (.nm 1) (.lit (.int 1))) (.cons (.for_ (.nm 2) (.rng1 (.var 0)) (.cons (.asg (.nm 1) (.bin .mul (.lit (.int 2)) (.var 1))) .nil)) (.cons (.ret (.var 1)) .nil)))⟩
/-- plain data, not deep -/
def sm : Nat → D → Bool
  | _, .non => true
  | _, .bl _ => true
  | _, .int _ => true
  | _, .str _ => true
  | n + 1, .tup xs => decide (xs.length ≤ 16777216) && xs.all (sm n)
  | _, _ => false
/-- ints -/
def iL (xs : List Int) : List D := xs.map D.int
theorem take_i {P : Prog} (hf : P.fn "_law_take" = some c__law_take) {n : Nat} {a : Nat} {ds : List Int} {m : Int} {h : AH} {Q : D → AH → Prop} {X : Xc} (hm : 0 < m) (e : h a = some (.lst (iL ds)))
    (q : ∀ (v : Int) (ds' : List Int), 0 ≤ v → v < m → Q (.int v) (put h a (.lst (iL ds')))) : wC P (n + 1) "_law_take" [.loc a, .int m] h Q X := by
  refine wC_i hf rfl ?_
  rcases List.eq_nil_or_concat ds with rfl | ⟨l, x, rfl⟩
  · simp [c__law_take, b1D, sqV, lsV, ob, e, iL, cmpD, eqD, tru]
    refine someQ_i ?_
    have := q 0 [] (Int.le_refl 0) hm
    have e2 : put h a (.lst (iL [])) = h := by
      funext b
      by_cases hb : b = a
      · subst hb; rw [put_self, e]
      · exact put_ne hb
    rw [e2] at this
    exact this
  · have e' : h a = some (.lst (iL l ++ [.int x])) := by rw [e]; simp [iL]
    simp [c__law_take, b1D, sqV, lsV, ob, e', cmpD, eqD, tru]
    have hne : ¬ ((l.length : Int) + 1 = 0) := by omega
    simp [hne, iL, mtChk, ltV, ob, e', mtD, mLs, binD, intOp, hm]
    exact someQ_i (q _ l (Int.emod_nonneg _ (by omega)) (Int.emod_lt_of_pos _ hm))
theorem two_pow (i : Nat) : (2 : Int) * 2 ^ i = 2 ^ (i + 1) := by rw [Int.pow_succ, Int.mul_comm]
theorem power_i {P : Prog} (hf : P.fn "_law_power" = some c__law_power) {n : Nat} {w : Int} {h : AH} {Q : D → AH → Prop} {X : Xc} (hw : small62 w = true) (q : Q (.int (2 ^ w.toNat)) h) : wC P (n + 1) "_law_power" [.int w] h Q X := by
  refine wC_i hf rfl ?_
  simp [c__law_power, List.replicate, hw]
  refine for_f (fun i env h' => h' = h ∧ ∃ o, env = [some (.int w), some (.int (2 ^ i)), o]) ⟨rfl, none, by simp⟩ ?_ ?_
  · rintro i x env h' N hx ⟨rfl, o, rfl⟩ hN
    simp [binD, mulD, mulOk, two_pow]
    exact hN _ _ ⟨rfl, _, rfl⟩
  · rintro env h' ⟨rfl, o, rfl⟩
    simp
    exact someQ_i q
theorem cell_i {P : Prog} (hf : P.fn "_law_cell" = some c__law_cell) {n : Nat} {ns : List Int} {h : AH} {Q : D → AH → Prop} {X : Xc} (q : ∀ v : Int, Q (.int v) h) : wC P (n + 1) "_law_cell" [.fl (iL ns)] h Q X := by
  refine wC_i hf rfl ?_
  cases ns with
  | nil =>
    simp [c__law_cell, b1D, sqV, lsV, iL, cmpD, eqD, tru]
    exact someQ_i (q 0)
  | cons x ns =>
    have hne : ¬ ((ns.length : Int) + 1 = 0) := by omega
    have h0 : (0 : Int) < (ns.length : Int) + 1 := by omega
    have h1 : 0 ≤ (ns.length : Int) % 7 % ((ns.length : Int) + 1) := Int.emod_nonneg _ (by omega)
    have h2 : (ns.length : Int) % 7 % ((ns.length : Int) + 1) < (ns.length : Int) + 1 := Int.emod_lt_of_pos _ h0
    obtain ⟨j, hj⟩ := Int.eq_ofNat_of_zero_le h1
    have hj2 : j < (x :: ns).length := by rw [hj] at h2; simp; omega
    simp [c__law_cell, b1D, sqV, lsV, iL, cmpD, eqD, tru, hne, binD, intOp, h0, ixD, hj, atI, ixN]
    have hj3 : ((if j < ns.length + 1 then some j else none).bind fun j => (D.int x :: List.map D.int ns)[j]?) = some (.int (x :: ns)[j]) := by
      rw [if_pos (by simpa using hj2)]
      show (List.map D.int (x :: ns))[j]? = _
      rw [List.getElem?_map, List.getElem?_eq_getElem hj2]
      rfl
    rw [hj3]
    simp only [gd_some, rv_v]
    split
    · simp only [v_asInt, gd_some]
      exact someQ_i (q _)
    · exact someQ_i (q _)
theorem same_i {P : Prog} (hf : P.fn "_law_same" = some c__law_same) : ∀ {k n : Nat} {d : D} {h : AH} {Q : D → AH → Prop} {X : Xc}, sm k d = true → Q (.bl true) h → wC P (n + k + 1) "_law_same" [d, d] h Q X := by
  intro k
  induction k with
  | zero =>
    intro n d h Q X hs q
    refine wC_i hf rfl ?_
    cases d with
    | non => simp [c__law_same, b1D, isTy, tru, isD]; exact someQ_i q
    | bl b => simp [c__law_same, b1D, isTy, tru, isD, cmpD, eqD, lsV, ob, pu, eqv]; exact someQ_i q
    | int b => simp [c__law_same, b1D, isTy, tru, isD, cmpD, eqD]; exact someQ_i q
    | str b => simp [c__law_same, b1D, isTy, tru, isD, cmpD, eqD]; exact someQ_i q
    | _ => simp [sm] at hs
  | succ k ih =>
    intro n d h Q X hs q
    refine wC_i hf rfl ?_
    cases d with
    | non => simp [c__law_same, b1D, isTy, tru, isD]; exact someQ_i q
    | bl b => simp [c__law_same, b1D, isTy, tru, isD, cmpD, eqD, lsV, ob, pu, eqv]; exact someQ_i q
    | int b => simp [c__law_same, b1D, isTy, tru, isD, cmpD, eqD]; exact someQ_i q
    | str b => simp [c__law_same, b1D, isTy, tru, isD, cmpD, eqD]; exact someQ_i q
    | tup xs =>
      simp [sm] at hs
      have hz : small62 (xs.length : Int) = true := by simp [small62]; omega
      simp [c__law_same, b1D, isTy, tru, isD, cmpD, eqD, sqV, hz]
      refine for_f (fun i env h' => h' = h ∧ ∃ o, env = [some (.tup xs), some (.tup xs), o]) ⟨rfl, none, rfl⟩ ?_ ?_
      · rintro i x env h' N hx ⟨rfl, o, rfl⟩ hN
        obtain ⟨hi, rfl⟩ := rngL_at hx
        have hi' : i < xs.length := by simpa using hi
        have e1 : atI xs (i : Int) = some xs[i] := by simp [atI, ixN, hi', List.getElem?_eq_getElem hi']
        simp [ixD, sqV, e1]
        refine ih (hs.2 _ (List.getElem_mem hi')) ?_
        simp [tru]
        exact hN _ _ ⟨rfl, _, rfl⟩
      · rintro env h' ⟨rfl, o, rfl⟩
        simp
        exact someQ_i q
    | _ => simp [sm] at hs
theorem iL_len {xs : List Int} : (iL xs).length = xs.length := by simp [iL]
theorem iL_app {xs ys : List Int} : iL xs ++ iL ys = iL (xs ++ ys) := by simp [iL]
theorem iL_one {xs : List Int} {y : Int} : iL xs ++ [D.int y] = iL (xs ++ [y]) := by simp [iL]
theorem iL_at {xs : List Int} {k : Int} (h0 : 0 ≤ k) (h1 : k < xs.length) : ∃ v, atI (iL xs) k = some (.int v) := by
  obtain ⟨j, rfl⟩ :=
      Int.eq_ofNat_of_zero_le h0
  have hj : j < xs.length := by omega
  refine ⟨xs[j], ?_⟩
  simp [atI, ixN, iL, hj, h1]
theorem iL_set {xs : List Int} {v : Int} {j : Nat} : (iL xs).set j (.int v) = iL (xs.set j v) := by simp [iL, List.map_set]
theorem draws_i {P : Prog} (hf : P.fn "_law_draws" = some c__law_draws) {n : Nat} {ns : List Int} {m : Int} {h : AH} {Q : D → AH → Prop} {X : Xc} (hn : ns.length ≤ 63) (hm : small62 m = true) (hm2 : m ≤ 10000)
    (q : ∀ (a : Nat) (ds : List Int), h a = none → Q (.loc a) (put h a (.lst (iL ds)))) : wC P (n + 1) "_law_draws" [.fl (iL ns), .int m] h Q X := by
  refine wC_i hf rfl ?_
  simp only [c__law_draws, v_start, List.replicate, List.length_cons, List.length_nil, List.map_cons, List.map_nil, List.cons_append, List.nil_append]
  -- the cells
  refine cut_i (fun env1 h1 => ∃ a1, env1 = [some (.fl (iL ns)), some (.int m), some (.loc a1), none, none, none, none, none, none, none] ∧ h a1 = none ∧ h1 = put h a1 (.lst (iL ns))) (fun N hN => ?_) ?_
  · simp [srcOf]
    refine comp_m id trivial (by rw [v_fixi, iL_len]; omega) (fun x hx k hk => ?_) ?_
    · simp only [iL, List.mem_map, v_fixi] at hx
      obtain ⟨i, _, rfl⟩ := hx
      simpa [wipe, b1D] using hk
    · simp
      exact fun a1 n1 => hN _ _ ⟨a1, rfl, n1, rfl⟩
  rintro _ _ ⟨a1, rfl, n1, rfl⟩
  refine cut_i (fun env1 h1 => ∃ cs : List Int, 0 < cs.length ∧ cs.length ≤ 63 ∧ env1 = [some (.fl (iL ns)), some (.int m), some (.loc a1), none, none, none, none, none, none, none] ∧ h1 = put h a1 (.lst (iL cs))) (fun N hN => ?_) ?_
  · cases ns with
    | nil =>
      simp [b1D, sqV, lsV, ob, cmpD, eqD, tru, mtChk, ltV, mtD, mLs, iL]
      exact hN _ _ ⟨[0], by simp, by simp, rfl, rfl⟩
    | cons x ns =>
      have hne : ¬ ((ns.length : Int) + 1 = 0) := by omega
      simp [b1D, sqV, lsV, ob, cmpD, eqD, tru, iL, hne]
      exact hN _ _ ⟨x :: ns, by simp, by simpa using hn, rfl, rfl⟩
  rintro _ _ ⟨cs, c0, c1, rfl, rfl⟩
  refine cut_i (fun env1 h1 => ∃ a2, a2 ≠ a1 ∧ h a2 = none ∧ env1 = [some (.fl (iL ns)), some (.int m), some (.loc a1), some (.loc a2), none, none, none, none, none, none] ∧ h1 = put (put h a1 (.lst (iL cs))) a2 (.lst (iL cs))) (fun N hN => ?_) ?_
  · simp [b1D, sqV, lsV, ob]
    intro a2 n2
    have e1 : a2 ≠ a1 := fun e => by subst e; rw [put_self] at n2; cases n2
    rw [put_ne e1] at n2
    exact hN _ _ ⟨a2, e1, n2, rfl, rfl⟩
  rintro _ _ ⟨a2, n2, n20, rfl, rfl⟩
  refine cut_i (fun env1 h1 => ∃ a3, a3 ≠ a1 ∧ a3 ≠ a2 ∧ h a3 = none ∧ env1 = [some (.fl (iL ns)), some (.int m), some (.loc a1), some (.loc a2), some (.loc a3), none, none, none, none, none] ∧ h1 = put (put (put h a1 (.lst (iL cs))) a2 (.lst (iL cs))) a3 (.lst (iL []))) (fun N hN => ?_) ?_
  · simp
    intro a3 n3
    have e2 : a3 ≠ a2 := fun e => by subst e; rw [put_self] at n3; cases n3
    rw [put_ne e2] at n3
    have e1 : a3 ≠ a1 := fun e => by subst e; rw [put_self] at n3; cases n3
    rw [put_ne e1] at n3
    exact hN _ _ ⟨a3, e1, e2, n3, rfl, rfl⟩
  rintro _ _ ⟨a3, n31, n32, n3, rfl, rfl⟩
  -- the turns
  refine cut_i (fun env1 h1 => ∃ ds o5 o6 o7 rs, env1 = [some (.fl (iL ns)), some (.int m), some (.loc a1), some (.loc a2), some (.loc a3), o5, o6, o7, none, none] ∧ rs.length = cs.length ∧ ds.length ≤ m.toNat ∧ h1 = put (put (put h a1 (.lst (iL cs))) a2 (.lst (iL rs))) a3 (.lst (iL ds))) (fun N hN => ?_) ?_
  · simp [hm]
    refine for_f (fun i env1 h1 => ∃ ds o5 o6 o7 rs, env1 = [some (.fl (iL ns)), some (.int m), some (.loc a1), some (.loc a2), some (.loc a3), o5, o6, o7, none, none] ∧ rs.length = cs.length ∧ ds.length ≤ i ∧ h1 = put (put (put h a1 (.lst (iL cs))) a2 (.lst (iL rs))) a3 (.lst (iL ds))) ?_ ?_ ?_
    · exact ⟨[], none, none, none, cs, rfl, rfl, by simp, rfl⟩
    · rintro i x _ _ N2 hx ⟨ds, o5, o6, o7, rs, rfl, hr, hd, rfl⟩ hN2
      obtain ⟨hi, rfl⟩ := rngL_at hx
      have hc0 : (0 : Int) < (cs.length : Int) := by omega
      have g0 : 0 ≤ (i : Int) % (cs.length : Int) := Int.emod_nonneg _ (by omega)
      have g1 : (i : Int) % (cs.length : Int) < (cs.length : Int) := Int.emod_lt_of_pos _ hc0
      obtain ⟨v, hv⟩ := iL_at (xs := cs) g0 g1
      obtain ⟨w, hw⟩ := iL_at (xs := rs) g0 (by rw [hr]; exact g1)
      obtain ⟨j, hj⟩ := Int.eq_ofNat_of_zero_le g0
      have hj2 : j < rs.length := by omega
      have p1 : put (put (put h a1 (.lst (iL cs))) a2 (.lst (iL rs))) a3 (.lst (iL ds)) a1 = some (.lst (iL cs)) := by rw [put_ne n31.symm, put_ne n2.symm, put_self]
      have p2 : put (put (put h a1 (.lst (iL cs))) a2 (.lst (iL rs))) a3 (.lst (iL ds)) a2 = some (.lst (iL rs)) := by rw [put_ne n32.symm, put_self]
      have dl : ds.length < 16777216 := by omega
      have dl' : (iL ds).length < 16777216 := by rw [iL_len]; exact dl
      have fin : ∀ (y : Int) (rs2 : List Int) (o5 o6 o7 : Option D), rs2.length = cs.length → N2 [some (.fl (iL ns)), some (.int m), some (.loc a1), some (.loc a2), some (.loc a3), o5, o6, o7, none, none] (put (put (put h a1 (.lst (iL cs))) a2 (.lst (iL rs2))) a3 (.lst (iL ds ++ [.int y]))) := fun y rs2 o5 o6 o7 hl => by
        rw [iL_one]
        exact hN2 _ _ ⟨ds ++ [y], o5, o6, o7, rs2, rfl, hl, by simp; omega, rfl⟩
      have sw : ∀ o2 o3 : AO, put (put (put (put h a1 (.lst (iL cs))) a2 (.lst (iL rs))) a3 o3) a2 o2 = put (put (put h a1 (.lst (iL cs))) a2 o2) a3 o3 := fun o2 o3 => by
        funext b
        by_cases b2 : b = a2
        · subst b2
          rw [put_self, put_ne n32.symm, put_self]
        · rw [put_ne b2]
          by_cases b3 : b = a3
          · subst b3; rw [put_self, put_self]
          · rw [put_ne b3, put_ne b3, put_ne b2, put_ne b2]
      have u1 : -18446744073709551616 < (v * 48271 + (i : Int) * 69621 + 11) % 2147483647 := Int.lt_of_lt_of_le (by decide) (Int.emod_nonneg _ (by decide))
      have u2 : (v * 48271 + (i : Int) * 69621 + 11) % 2147483647 < 18446744073709551616 := Int.lt_trans (Int.emod_lt_of_pos _ (by decide)) (by decide)
      have ij : ixN cs.length ((i : Int) % (cs.length : Int)) = some j := by rw [hj]; simp [ixN]; omega
      have ij' : ixN rs.length ((i : Int) % (cs.length : Int)) = some j := by rw [hr]; exact ij
      simp [b1D, sqV, lsV, ob, p1, p2, iL_len, dl, u1, u2, ij, ij', iL_set, sw, binD, intOp, c0, ixD, hv, hw, cmpD, tru, mtChk, ltV, mtD, mLs, dl', put_ne n32.symm, put_ne n32, setD, addD, mulD, mulOk, iL_len]
      split
      · split
        · exact fin _ _ _ _ _ (by simpa using hr)
        · exact fin _ _ _ _ _ hr
      · exact fin _ _ _ _ _ hr
    · rintro _ _ ⟨ds, o5, o6, o7, rs, rfl, hr, hd, rfl⟩
      exact hN _ _ ⟨ds, o5, o6, o7, rs, rfl, hr, by simpa using hd, rfl⟩
  rintro _ _ ⟨ds, o5, o6, o7, rs, rfl, hr, hd, rfl⟩
  simp [mtChk, ltV, ob, mtD, mLs]
  have hs : Sub (put h a3 (.lst (iL ds.reverse))) (put (put (put h a1 (.lst (iL cs))) a2 (.lst (iL rs))) a3 (.lst (iL ds.reverse))) := fun b o e => by
    by_cases b3 : b = a3
    · subst b3
      rw [put_self] at e ⊢
      exact e
    · rw [put_ne b3] at e ⊢
      have b1 : b ≠ a1 := fun z => by subst z; rw [n1] at e; cases e
      by_cases b2 : b = a2
      · subst b2; rw [n20] at e; cases e
      · rw [put_ne b2, put_ne b1]; exact e
  have e : (iL ds).reverse = iL ds.reverse := by simp [iL]
  rw [e]
  exact someQ_s hs (q a3 _ n3)
theorem take_snoc {α : Type} {l : List α} {i : Nat} {x : α} (h : l[i]? = some x) : l.take (i + 1) = l.take i ++ [x] := by
  rw [List.take_add_one, h]; rfl
end Py
namespace Py
open PySem (Str)
theorem iL_pu (xs : List Int) : (iL xs).all (pu 40) = true := by
  rw [List.all_eq_true]
  intro d hd
  simp only [iL, List.mem_map] at hd
  obtain ⟨i, _, rfl⟩ := hd
  rfl
theorem iL_eqvs : ∀ xs ys : List Int, eqvs (iL xs) (iL ys) = decide (xs = ys)
  | [], [] => rfl
  | [], _ :: _ => rfl
  | _ :: _, [] => rfl
  | x :: xs, y :: ys => by
    show (x == y && eqvs (iL xs) (iL ys)) = _
    rw [iL_eqvs xs ys]
    by_cases h : x = y <;> by_cases h2 : xs = ys <;> simp [h, h2]
theorem eqD_iL (xs ys : List Int) (h : AH) : eqD (.v (.tup (iL xs))) (.v (.tup (iL ys))) h = some (decide (xs = ys)) := by
  unfold eqD
  simp only [iL_pu, iL_eqvs, Bool.and_self, if_true]
theorem iL_mem {xs : List Int} {x : D} (h : x ∈ iL xs) : ∃ i ∈ xs, x = .int i := by
  simp only [iL, List.mem_map] at h
  obtain ⟨i, h1, h2⟩ := h
  exact ⟨i, h1, h2.symm⟩
theorem blsL_map (bs : List Bool) : blsL (bs.map D.bl) = some bs := by
  induction bs with
  | nil => rfl
  | cons b r ih => show (blsL (r.map D.bl)).map (b :: ·) = _; rw [ih]; rfl
theorem sm_iL {k : Nat} {xs : List Int} (h : xs.length ≤ 16777216) : sm (k + 1) (.tup (iL xs)) = true := by
  simp only [sm, iL_len, h, decide_true, Bool.true_and, List.all_eq_true]
  intro d hd
  obtain ⟨i, _, rfl⟩ := iL_mem hd
  cases k <;> rfl
theorem intsL_iL : ∀ xs : List Int, intsL (iL xs) = some xs
  | [] => rfl
  | x :: xs => by show (intsL (iL xs)).map (x :: ·) = _; rw [intsL_iL xs]; rfl
theorem n_max {a : Nat} {xs : List Int} {m : Int} {h : AH} (e : h a = some (.lst (iL xs))) (hm : maxI xs = some m) : b1D .max (.v (.loc a)) h = some (.v (.int m)) := by
  simp [b1D, e, intsL_iL, hm]
theorem at_last (xs : List D) (x : D) : atI (xs ++ [x]) (-1) = some x := by
  unfold atI ixN
  have h1 : -(((xs ++ [x]).length : Nat) : Int) ≤ -1 := by simp; omega
  have h2 : (-1 + (((xs ++ [x]).length : Nat) : Int)).toNat = xs.length := by simp; omega
  rw [if_neg (by decide), if_pos h1]
  simp only [Option.bind_some, h2]
  simp
theorem rept_one (d : D) (k : Nat) : rept [d] (k : Int) = List.replicate k d := by
  unfold rept
  rw [Int.toNat_natCast]
  induction k with
  | zero => rfl
  | succ k ih => rw [List.replicate_succ, List.flatten_cons, ih]; rfl
def zeros (n : Nat) : List Int := List.replicate n 0
theorem iL_zeros (n : Nat) : List.replicate n (D.int 0) = iL (zeros n) := by simp [iL, zeros]
theorem cut_take {xs : List D} {k : Nat} (hk : k ≤ xs.length) : cut xs none (some (k : Int)) = xs.take k := by
  show (xs.drop 0).take ((if (k : Int) < 0 then ((k : Int) + (xs.length : Int)).toNat else min (k : Int).toNat xs.length) - 0) = _
  rw [if_neg (by omega), Int.toNat_natCast, Nat.min_eq_left hk, List.drop_zero, Nat.sub_zero]
theorem cut_iL (xs : List Int) (lo hi : Option Int) : cut (iL xs) lo hi = iL (cut xs lo hi) := by
  unfold cut
  rw [iL_len]
  simp [iL, List.map_drop, List.map_take]
theorem cut_len {α : Type} (xs : List α) (lo hi : Option Int) : (cut xs lo hi).length ≤ xs.length := by
  unfold cut
  simp
  omega
theorem cut_drop {α : Type} {xs : List α} {k : Nat} (hk : k ≤ xs.length) : cut xs (some (k : Int)) none = xs.drop k := by
  show (xs.drop (if (k : Int) < 0 then ((k : Int) + (xs.length : Int)).toNat else min (k : Int).toNat xs.length)).take (xs.length - (if (k : Int) < 0 then ((k : Int) + (xs.length : Int)).toNat else min (k : Int).toNat xs.length)) = _
  rw [if_neg (by omega), Int.toNat_natCast, Nat.min_eq_left hk]
  exact List.take_of_length_le
      (by simp)
/-- the draws stand at g, all else that was known is kept -/
structure Kd (h0 : AH) (g : Nat) (h : AH) : Prop where
  dr : ∃ ds : List Int, h g = some (.lst (iL ds))
  kp : ∀ b o, b ≠ g → h0 b = some o → h b = some o
section
variable {h0 h : AH} {g f : Nat}
theorem Kd.refl {ds : List Int} (e : h g = some (.lst (iL ds))) : Kd h g h := ⟨⟨ds, e⟩, fun _ _ _ e => e⟩
theorem Kd.take (k : Kd h0 g h) (ds : List Int) : Kd h0 g (put h g (.lst (iL ds))) := ⟨⟨ds, put_self⟩, fun b o n e => by rw [put_ne n]; exact k.kp b o n e⟩
theorem Kd.own (k : Kd h0 g h) (n : h0 f = none) (ne : f ≠ g) (o : AO) : Kd h0 g (put h f o) := by
  obtain ⟨ds, e⟩ := k.dr
  refine ⟨⟨ds, by rw [put_ne ne.symm]; exact e⟩, fun b u nb eb => ?_⟩
  rw [put_ne (fun z => by rw [z, n] at eb; cases eb)]
  exact k.kp b u nb eb
theorem Kd.free (k : Kd h0 g h) (hg : h0 g ≠ none) (n : h f = none) : h0 f = none ∧ f ≠ g := by
  obtain ⟨ds, e⟩ := k.dr
  have ne : f ≠ g := fun z => by rw [z, e] at n; cases n
  refine ⟨?_, ne⟩
  cases q : h0 f with
  | none => rfl
  | some o => have := k.kp f o ne q; rw [n] at this; cases this
theorem Kd.exit (k : Kd h0 g h) : ∃ ds : List Int, Sub (put h0 g (.lst (iL ds))) h := by
  obtain ⟨ds, e⟩ := k.dr
  refine ⟨ds, fun b o eb => ?_⟩
  by_cases hb : b = g
  · subst hb; rw [put_self] at eb; rw [e]; exact eb
  · rw [put_ne hb] at eb; exact k.kp b o hb eb
end
/-- lists of our own -/
def Rw (h0 : AH) (g : Nat) (h : AH) (rs : List Nat) : Prop := ∀ x ∈ rs, h0 x = none ∧ x ≠ g ∧ ∃ row : List Int, row.length ≤ 100000 ∧ h x = some (.lst (iL row))
section
variable {h0 h : AH} {g y : Nat} {rs : List Nat}
theorem Rw.new (r : Rw h0 g h rs) (n : h y = none) (o : AO) : Rw h0 g (put h y o) rs := fun x hx => by
  obtain ⟨a, b, row, l, e⟩ := r x hx
  exact ⟨a, b, row, l, by rw [put_ne (fun z => by rw [z, n] at e; cases e)]; exact e⟩
theorem Rw.add (r : Rw h0 g h rs) (n : h y = none) (n0 : h0 y = none) (ne : y ≠ g) {row : List Int} (l : row.length ≤ 100000) : Rw h0 g (put h y (.lst (iL row))) (rs ++ [y]) := fun x hx => by
  rcases List.mem_append.mp hx
      with hx | hx
  · exact r.new n _ x hx
  · rw [List.mem_singleton.mp hx]; exact ⟨n0, ne, row, l, put_self⟩
theorem Rw.take (r : Rw h0 g h rs) (o : AO) : Rw h0 g (put h g o) rs := fun x hx => by
  obtain ⟨a, b, row, l, e⟩ := r x hx
  exact ⟨a, b, row, l, by rw [put_ne b]; exact e⟩
end
/-! ### numbers that count -/
def nL (xs : List Nat) : List D := xs.map fun (x : Nat) => .int (x : Int)
def gn (xs : List Nat) (i : Nat) : Nat := xs[i]?.getD 0
@[simp] theorem nL_len {xs : List Nat} : (nL xs).length = xs.length := by simp [nL]
theorem nL_at {xs : List Nat} {i : Nat} (h : i < xs.length) : atI (nL xs) (i : Int) = some (.int (gn xs i)) := atN (by simp [nL, gn, h])
theorem nL_mem {xs : List Nat} {d : D} (h : d ∈ nL xs) : ∃ x ∈ xs, d = .int x := by
  simp only [nL, List.mem_map] at h
  obtain ⟨x, h1, h2⟩ := h
  exact ⟨x, h1, h2.symm⟩
theorem nL_iL (os : List Nat) : iL (os.map fun (w : Nat) => (w : Int)) = nL os := by simp [iL, nL]
theorem gn_left {W V : List Nat} {i : Nat} (h : i < W.length) : gn (W ++ V) i = gn W i := by simp [gn, List.getElem?_append_left h]
theorem gn_last {W : List Nat} {x : Nat} : gn (W ++ [x]) W.length = x := by simp [gn]
theorem put2 {h : AH} {w a : Nat} {x y x' y' : AO} (ne : w ≠ a) : put (put (put (put h w x) a y) w x') a y' = put (put h w x') a y' := by
  funext b
  by_cases h1 : b = a
  · subst h1; simp
  · by_cases h2 : b = w
    · subst h2; simp [put_ne ne]
    · simp [put_ne h1, put_ne h2]
theorem put3 {h : AH} {w a : Nat} {x y x' : AO} (ne : w ≠ a) : put (put (put h w x) a y) w x' = put (put h w x') a y := by
  funext b
  by_cases h1 : b = a
  · subst h1; simp [put_ne ne.symm]
  · by_cases h2 : b = w
    · subst h2; simp [put_ne ne]
    · simp [put_ne h1, put_ne h2]
theorem nL_snoc {xs : List Nat} {y : Nat} : nL xs ++ [.int (y : Int)] = nL (xs ++ [y]) := by simp [nL]
theorem rngL_mem {lo : Int} {n : Nat} {x : D} (h : x ∈ rngL lo n) : ∃ i : Nat, i < n ∧ x = .int (lo + (i : Int)) := by
  obtain ⟨i, hi⟩ := List.getElem?_of_mem h
  obtain ⟨h1, h2⟩ := rngL_at hi
  exact ⟨i, h1, h2⟩
theorem gn_cons2 {bs : List Nat} {x : Nat} {a b : Nat} : gn (a :: b :: bs) (x + 2) = gn bs x := by simp [gn]
def rgn (a n : Nat) : List Nat := (List.range n).map fun i => a + i
theorem rgn_len {a n : Nat} : (rgn a n).length = n := by simp [rgn]
theorem gn_rgn {a n i : Nat} (h : i < n) : gn (rgn a n) i = a + i := by simp [gn, rgn, h]
theorem rngL_nL {a n : Nat} : rngL (a : Int) n = nL (rgn a n) := by simp [rngL, nL, rgn, Function.comp_def]
theorem Sub.free {h h' : AH} {a : Nat} (s : Sub h h') (n : h' a = none) : h a = none := by
  cases e : h a with
  | none => rfl
  | some o => rw [s a o e] at n; cases n
theorem Sub.new {h h' : AH} {a : Nat} {o : AO} (s : Sub h h') (n : h' a = none) : Sub h (Py.put h' a o) := s.put (s.free n)
theorem gn_get {xs : List Nat} {k : Nat} (h : k < xs.length) : gn xs k = xs[k] := by simp [gn, h]
def InR (f : Int) (w : Int) : Prop := 0 ≤ w ∧ w < f
instance {f w : Int} : Decidable (InR f w) := inferInstanceAs (Decidable (_ ∧ _))
theorem Sub.trans {h1 h2 h3 : AH} (s : Sub h1 h2) (t : Sub h2 h3) : Sub h1 h3 := fun a o e => t a o (s a o e)
end Py
namespace Py
open PySem (Str)
/-! ### two clauses -/
def Comp2G (cal : Cal) (G : Str → Option D) (t : Tg) (own : List Nat) (t1 : Tg) (it1 : It) (own1 : List Nat) (e : Ex) (env : Env) (s : Src) (h : AH) (Q : List D → AH → Prop) : Prop := wComp2 s.chk (stepC2 (wTg t) env own (wTg t1) (wI cal G it1) own1 (wX cal G e)) s.items [] h Q
@[simp] theorem v_comp2 {cal : Cal} {G : Str → Option D} {t : Tg} {it : It} {own : List Nat} {t1 : Tg} {it1 : It} {own1 : List Nat} {e : Ex} {env : Env} {h : AH} {Q : Rv → AH → Prop} {X : Xc} : wX cal G (.comp2 t it own t1 it1 own1 e) env h Q X =
  wI cal G it env h (fun s h1 => Comp2G cal G t own t1 it1 own1 e env s h1 fun acc h2 => Q (.o (.lst acc)) h2) X := (rfl)
/-- what is wanted of the inner clause at x: it is walked over ys, and each of them gives g -/
structure In2 (P : Prog) (n : Nat) (t1 : Tg) (own1 : List Nat) (e : Ex) (h0 : AH) (env2 : Env) (r : List D) (s1 : Src) (h4 : AH) : Prop where
  sb : Sub h0 h4
  ck : s1.chk h4
  ex : ∃ g : D → D, s1.items.map g = r ∧ ∀ y ∈ s1.items, ∀ k : D → AH → Prop, k (g y) h4 → wTg t1 y (wipe env2 own1) h4 fun e2 h5 => wX (wC P n) P.gl e e2 h5 (fun r h6 => rv r h6 k) noX
theorem comp2_s {P : Prog} {n : Nat} {t : Tg} {own : List Nat} {t1 : Tg} {it1 : It} {own1 : List Nat} {e : Ex} {env : Env} {s : Src} {h0 h : AH} {Q : List D → AH → Prop} (f : D → List D) (sb : Sub h0 h) (hc : ∀ h', Sub h0 h' → s.chk h') (hl : ((s.items.map f).flatten).length ≤ 16777216)
    (hs : ∀ x ∈ s.items, ∀ h', Sub h0 h' → wTg t x (wipe env own) h' fun env2 h3 => wI (wC P n) P.gl it1 env2 h3 (fun s1 h4 => In2 P n t1 own1 e h0 env2 (f x) s1 h4) noX) (hq : ∀ h', Sub h0 h' → Q (s.items.map f).flatten h') : Comp2G (wC P n) P.gl t own t1 it1 own1 e env s h Q := by
  have key : ∀ (xs : List D) (acc : List D) (h : AH), Sub h0 h → (∀ x ∈ xs, x ∈ s.items) → acc.length + ((xs.map f).flatten).length ≤ 16777216 → (∀ h', Sub h0 h' → Q (acc ++ (xs.map f).flatten) h') → wComp2 s.chk (stepC2 (wTg t) env own (wTg t1) (wI (wC P n) P.gl it1) own1 (wX (wC P n) P.gl e)) xs acc h Q := by
    intro xs
    induction xs with
    | nil => exact fun acc h sb _ _ q => ⟨hc h sb, by simpa using q h sb⟩
    | cons x r ih =>
      intro acc h sb hm hl q
      refine ⟨hc h sb, ?_⟩
      refine mTg t _ _ _ _ _ (fun env2 h3 q2 => mI (wC_mono P n) it1 _ _ _ _ _ _ (fun s1 h4 ⟨sb4, ck, g, e1, hg⟩ => ?_) (fun _ _ z => z) q2) (hs x (hm x (by simp)) h sb)
      simp only [List.map_cons, List.flatten_cons, List.length_append] at hl
      refine wComp_map (f := fun y => some (g y)) ck (fun y hy k hk => hg y hy _ hk) ?_ ?_
      · have := congrArg List.length e1
        rw [List.length_map] at this
        omega
      · rw [List.filterMap_eq_map', e1]
        refine ih _ _ sb4 (fun y hy => hm y (List.mem_cons_of_mem _ hy)) (by rw [List.length_append]; omega) fun h' s' => ?_
        have := q h' s'
        simpa using this
  exact key s.items [] h sb (fun _ z => z) (by simpa using hl) (by simpa using hq)
/-! ### is it among numbers -/
theorem inD_iL (i : Int) (xs : List Int) (h : AH) : inD (.v (.int i)) (.v (.tup (iL xs))) h = some (decide (i ∈ xs)) := by
  have e : (iL xs).any (fun z => eqv z (.int i)) = decide (i ∈ xs) := by
    induction xs with
    | nil => rfl
    | cons x r ih =>
      show (eqv (.int x) (.int i) || (iL r).any fun z => eqv z (.int i)) = _
      rw [ih]
      show (x == i || _) = _
      by_cases z : x = i
      · subst z; simp
      · have z2 : ¬ i = x := fun w => z w.symm
        simp [z, z2]
  unfold inD
  simp only [s_tupV]
  rw [iL_pu, e]
  rfl
theorem inD_iLl {a : Nat} {i : Int} {xs : List Int} {h : AH} (ha : h a = some (.lst (iL xs))) : inD (.v (.int i)) (.v (.loc a)) h = some (decide (i ∈ xs)) := by
  have := inD_iL i xs h
  unfold inD at this ⊢
  simp only [s_locV ha]
  exact this
theorem k_in (i : Int) (xs : List Int) (h : AH) : cmpD .inn (.v (.int i)) (.v (.tup (iL xs))) h = some (decide (i ∈ xs)) := inD_iL i xs h
theorem k_inl {a : Nat} {i : Int} {xs : List Int} {h : AH} (ha : h a = some (.lst (iL xs))) : cmpD .inn (.v (.int i)) (.v (.loc a)) h = some (decide (i ∈ xs)) := inD_iLl ha
theorem k_nin (i : Int) (xs : List Int) (h : AH) : cmpD .nin (.v (.int i)) (.v (.tup (iL xs))) h = some (!decide (i ∈ xs)) := by
  show (inD _ _ h).map _ = _
  rw [inD_iL]; rfl
theorem k_ninl {a : Nat} {i : Int} {xs : List Int} {h : AH} (ha : h a = some (.lst (iL xs))) : cmpD .nin (.v (.int i)) (.v (.loc a)) h = some (!decide (i ∈ xs)) := by
  show (inD _ _ h).map _ = _
  rw [inD_iLl ha]; rfl
theorem nL_in (i : Nat) (xs : List Nat) : ((i : Int) ∈ xs.map fun (x : Nat) => (x : Int)) ↔ i ∈ xs := by
  rw [List.mem_map]
  constructor
  · rintro ⟨a, ha, e⟩
    have : a = i := by omega
    exact this ▸ ha
  · exact fun h => ⟨i, h, rfl⟩
theorem k_inN (i : Nat) (xs : List Nat) (h : AH) : cmpD .inn (.v (.int i)) (.v (.tup (nL xs))) h = some (decide (i ∈ xs)) := by
  rw [← nL_iL, k_in]
  simp only [nL_in]
theorem k_inNl {a : Nat} {i : Nat} {xs : List Nat} {h : AH} (ha : h a = some (.lst (nL xs))) : cmpD .inn (.v (.int i)) (.v (.loc a)) h = some (decide (i ∈ xs)) := by
  rw [← nL_iL] at ha
  rw [k_inl ha]
  simp only [nL_in]
theorem k_ninN (i : Nat) (xs : List Nat) (h : AH) : cmpD .nin (.v (.int i)) (.v (.tup (nL xs))) h = some (!decide (i ∈ xs)) := by
  rw [← nL_iL, k_nin]
  simp only [nL_in]
theorem k_ninNl {a : Nat} {i : Nat} {xs : List Nat} {h : AH} (ha : h a = some (.lst (nL xs))) : cmpD .nin (.v (.int i)) (.v (.loc a)) h = some (!decide (i ∈ xs)) := by
  rw [← nL_iL] at ha
  rw [k_ninl ha]
  simp only [nL_in]
theorem n_sortl {a : Nat} {xs : List Int} {h : AH} (ha : h a = some (.lst (iL xs))) : b1D .sorted (.v (.loc a)) h = some (.o (.lst (iL (sortI xs)))) := by
  simp only [b1D, l_loc ha, intsL_iL]
  rfl
theorem sm_nL {k : Nat} {xs : List Nat} (h : xs.length ≤ 16777216) : sm (k + 1) (.tup (nL xs)) = true := by
  rw [← nL_iL]
  exact sm_iL (by simpa using h)
theorem insI_mem {x y : Int} : ∀ {xs : List Int}, y ∈ insI x xs ↔ y = x ∨ y ∈ xs
  | [] => by simp [insI]
  | z :: r => by
    unfold insI
    split
    · simp
    · simp [insI_mem (xs := r)]
      exact ⟨fun h => by rcases h with h | h | h <;> simp [h], fun h => by rcases h with h | h | h <;> simp [h]⟩
theorem sortI_mem {y : Int} : ∀ {xs : List Int}, y ∈ sortI xs ↔ y ∈ xs
  | [] => by simp [sortI]
  | x :: r => by simp [sortI, insI_mem, sortI_mem (xs := r)]
theorem insI_len {x : Int} : ∀ {xs : List Int}, (insI x xs).length = xs.length + 1
  | [] => rfl
  | z :: r => by
    unfold insI
    split
    · rfl
    · simp [insI_len (xs := r)]
theorem sortI_len : ∀ {xs : List Int}, (sortI xs).length = xs.length
  | [] => rfl
  | x :: r => by simp [sortI, insI_len, sortI_len (xs := r)]
end Py
namespace Py
open PySem (Str)
/-! ### slices from behind -/
theorem fm_congr {α β : Type} {f g : α → Option β} : ∀ {xs : List α}, (∀ x ∈ xs, f x = g x) → xs.filterMap f = xs.filterMap g
  | [], _ => rfl
  | x :: xs, h => by
    rw [List.filterMap_cons, List.filterMap_cons, h x (by simp), fm_congr (xs := xs) fun y hy => h y (List.mem_cons_of_mem _ hy)]
theorem pickN {α : Type} (xs : List α) : (List.range xs.length).filterMap (fun k => xs[xs.length - 1 - k]?) = xs.reverse := by
  have e : (List.range xs.length).filterMap (fun k => xs[xs.length - 1 - k]?) = (List.range xs.length).filterMap (fun k => xs.reverse[k]?) := by
    apply fm_congr
    intro k hk
    rw [List.getElem?_reverse (by simpa using hk)]
  rw [e]
  have g : ∀ ys : List α, (List.range ys.length).filterMap (fun k => ys[k]?) = ys := by
    intro ys
    induction ys with
    | nil => rfl
    | cons y ys ih =>
      rw [List.length_cons, List.range_succ_eq_map, List.filterMap_cons]
      simp only [List.getElem?_cons_zero, List.filterMap_map, Function.comp_def, List.getElem?_cons_succ]
      rw [ih]
  have := g xs.reverse
  rw [List.length_reverse] at this
  exact this
theorem pkT_rev {α : Type} (xs : List α) : pkT (-1) none none xs = xs.reverse := by
  rw [← pickN xs]
  unfold pkT
  rw [List.filterMap_map]
  have e : PySem.Builtin.Slice.slicePlaces (PySem.Builtin.Slice.sliceAdjust none none (-1) xs.length).1 (PySem.Builtin.Slice.sliceAdjust none none (-1) xs.length).2 (-1) = xs.length := by
    show (if (-1 : Int) > 0 then _ else if ((xs.length : Int) - 1 > -1) then ((xs.length : Int) - 1 - -1 - 1) / (- -1) + 1 else 0).toNat = _
    rw [if_neg (by decide)]
    split <;> simp <;> omega
  rw [e]
  apply fm_congr
  intro k hk
  rw [List.mem_range] at hk
  show xs[((xs.length : Int) - 1 + k * (-1)).toNat]? = xs[xs.length - 1 - k]?
  congr 1
  omega
theorem pkL_rev {α : Type} (xs : List α) : pkL (-1) none none xs = xs.reverse := by
  rw [← pickN xs]
  unfold pkL
  show (PySem.sliceRange ((xs.length : Int) - 1) (-1) (-1)).filterMap _ = _
  have e : PySem.sliceRange ((xs.length : Int) - 1) (-1) (-1) = (List.range xs.length).map fun (k : Nat) => xs.length - 1 - k := by
    unfold PySem.sliceRange
    simp only
    have e1 : ((if (-1 : Int) > 0 then (if (xs.length : Int) - 1 < -1 then (-1 - ((xs.length : Int) - 1) + -1 - 1) / -1 else 0) else if (xs.length : Int) - 1 > -1 then ((xs.length : Int) - 1 - -1 - -1 - 1) / - -1 else 0)).toNat = xs.length := by
      rw [if_neg (by decide)]
      split <;> simp <;> omega
    rw [e1]
    apply List.map_congr_left
    intro k hk
    rw [List.mem_range] at hk
    omega
  rw [e, List.filterMap_map]
  rfl
section
variable {cal : Cal} {G : Str → Option D} {env : Env} {h : AH} {X : Xc} {Q : Rv → AH → Prop} {xs : List D} {a : Nat}
@[simp] theorem v_sls {a : Ex} {lo hi : Oe} {st : Int} : wX cal G (.sls a lo hi st) env h Q X = wX cal G a env h (fun x h1 => wO cal G lo env h1 (fun l h2 => wO cal G hi env h2 (fun u h3 => gd (slsD x l u st h3) fun r => Q r h3) X) X) X := rfl
@[simp] theorem sls_t (hl : xs.length ≤ 16777216) : slsD (.v (.tup xs)) none none (-1) h = some (.v (.tup xs.reverse)) := by simp [slsD, pkT_rev, hl]
@[simp] theorem sls_o (hl : xs.length ≤ 16777216) : slsD (.o (.lst xs)) none none (-1) h = some (.o (.lst xs.reverse)) := by simp [slsD, pkL_rev, hl]
@[simp] theorem sls_l (e : h a = some (.lst xs)) (hl : xs.length ≤ 16777216) : slsD (.v (.loc a)) none none (-1) h = some (.o (.lst xs.reverse)) := by simp [slsD, pkL_rev, hl, e]
end
end Py
namespace Py
open PySem (Str)
/-! ### draws of the laws about programs -/
namespace D3
def c__law_draws : Fn := ⟨2, 10, (.cons (.asg (.nm 2) (.lst (.cons (.lit (.int 0)) .nil))) (.cons (.for_ (.nm 3) (.seq (.var 0)) (.cons (.asg (.nm 4) (.b1 .abs (.var 3))) (.cons (.ifs (.cmp .lt (.var 4) (.bin .pow (.lit (.int 10)) (.lit (.int 18)))) (.cons (.expr (.mt .append (.var 2) (.cons (.var 4) .nil))) .nil) (.cons (.for_ (.nm 5) (.rng1 (.lit (.int 40))) (.cons (.ifs (.cmp .gt (.var 4) (.lit (.int 0))) (.cons (.expr (.mt .append (.var 2) (.cons (.bin .add (.b1 .int (.bin .mod (.var 4) (.bin .pow (.lit (.int 10)) (.lit (.int 9))))) (.bin .mul (.lit (.int 17)) (.var 5))) .nil))) (.cons (.asg (.nm 4) (.bin .fdiv (.var 4) (.bin .pow (.lit (.int 10)) (.lit (.int 9))))) .nil)) .nil) .nil)) .nil)) .nil))) (.cons (.asg (.nm 6) (.lst .nil)) (.cons (.for_ (.nm 5) (.rng1 (.var 1)) (.cons (.asg (.nm 7) (.b1 .int (.bin .mod (.bin .mul (.var 5) (.lit (.int 7))) (.b1 .len (.var 2))))) (.cons (.asg (.nm 8) (.bin .mod (.bin .add (.bin .add (.bin .add (.bin .mul (.ix (.var 2) (.var 7)) (.lit (.int 48271))) (.bin .mul (.var 5) (.lit (.int 69621)))) (.lit (.int 11))) (.b1 .len (.var 2))) (.lit (.int 2147483647)))) (.cons (.asg (.nm 9) (.bin .mod (.bin .add (.bin .add (.bin .add (.bin .mul (.var 8) (.var 8)) (.bin .mul (.ix (.var 2) (.b1 .int (.bin .mod (.bin .add (.var 5) (.lit (.int 1))) (.b1 .len (.var 2))))) (.lit (.int 613)))) (.bin .mul (.lit (.int 3)) (.var 8))) (.var 5)) (.lit (.int 1000003)))) (.cons (.expr (.mt .append (.var 6) (.cons (.var 9) .nil))) .nil))))) (.cons (.expr (.mt .reverse (.var 6) .nil)) (.cons (.ret (.var 6)) .nil))))))⟩
def c__law_take : Fn := ⟨2, 2, (.cons (.ifs (.cmp .eq (.b1 .len (.var 0)) (.lit (.int 0))) (.cons (.ret (.lit (.int 0))) .nil) .nil) (.cons (.ret (.b1 .int (.bin .mod (.mt .pop (.var 0) .nil) (.var 1)))) .nil))⟩
def c__law_half : Fn := ⟨1, 3, (.cons (.asg (.nm 1) (.lit (.int 1))) (.cons (.for_ (.nm 2) (.rng1 (.bin .sub (.var 0) (.lit (.int 1)))) (.cons (.asg (.nm 1) (.bin .mul (.var 1) (.lit (.int 2)))) .nil)) (.cons (.ret (.var 1)) .nil)))⟩
section
variable {P : Prog} {n : Nat} {h : AH} {Q : D → AH → Prop} {X : Xc}
theorem take_i (hf : P.fn "_law_take" = some c__law_take) {a : Nat} {ds : List Int} {m : Int} (hm : 0 < m) (e : h a = some (.lst (iL ds)))
    (q : ∀ (v : Nat) (ds' : List Int), (v : Int) < m → Q (.int v) (put h a (.lst (iL ds')))) : wC P (n + 1) "_law_take" [.loc a, .int m] h Q X := by
  refine wC_i hf rfl ?_
  rcases List.eq_nil_or_concat ds with rfl | ⟨l, x, rfl⟩
  · simp [c__law_take, b1D, sqV, lsV, ob, e, iL, cmpD, eqD, tru]
    refine someQ_i ?_
    have := q 0 [] hm
    have e2 : put h a (.lst (iL [])) = h := by
      funext b
      by_cases hb : b = a
      · subst hb; rw [put_self, e]
      · exact put_ne hb
    rw [e2] at this
    exact this
  · have e' : h a = some (.lst (iL l ++ [.int x])) := by rw [e]; simp [iL]
    simp [c__law_take, b1D, sqV, lsV, ob, e', cmpD, eqD, tru]
    have hne : ¬ ((l.length : Int) + 1 = 0) := by omega
    simp [hne, iL, mtChk, ltV, ob, e', mtD, mLs, binD, intOp, hm]
    have h0 := Int.emod_nonneg x (show m ≠ 0 by omega)
    obtain ⟨v, hv⟩ := Int.eq_ofNat_of_zero_le h0
    rw [hv]
    exact someQ_i (q v l (by rw [← hv]; exact Int.emod_lt_of_pos _ hm))
theorem half_i (hf : P.fn "_law_half" = some c__law_half) {w : Nat} (h1 : 1 ≤ w) (hw : w ≤ 1000000) (q : Q (.int ((2 ^ (w - 1) : Nat) : Int)) h) : wC P (n + 1) "_law_half" [.int w] h Q X := by
  have e : (w : Int) - 1 = ((w - 1 : Nat) : Int) := by omega
  have s1 : small62 ((w - 1 : Nat) : Int) = true := by simp [small62]; omega
  have m2 : ml 2 := ml_of (by decide) (by decide)
  refine wC_i hf rfl ?_
  simp [c__law_half, List.replicate, e, s1]
  refine for_f (fun i env h' => h = h' ∧ ∃ o, env = [some (.int w), some (.int (2 ^ i)), o]) ⟨rfl, none, by simp⟩ ?_ ?_
  · rintro i x env h' N hx ⟨rfl, o, rfl⟩ hN
    simp [m2]
    exact hN _ _ ⟨rfl, _, by rw [Int.pow_succ]⟩
  · rintro env h' ⟨rfl, o, rfl⟩
    simp
    exact someQ_i (by simpa using q)
theorem draws_i (hf : P.fn "_law_draws" = some c__law_draws) {ns : List Int} {m : Nat} (hn : ns.length ≤ 63) (hm2 : m ≤ 10000)
    (q : ∀ (a : Nat) (ds : List Int), h a = none → Q (.loc a) (put h a (.lst (iL ds)))) : wC P (n + 1) "_law_draws" [.fl (iL ns), .int m] h Q X := by
  have s0 : small62 40 = true := by decide
  have s1 : small62 (m : Int) = true := by simp [small62]; omega
  have m17 : ml 17 := ml_of (by decide) (by decide)
  have m7 : ml 7 := ml_of (by decide) (by decide)
  have m4 : ml 48271 := ml_of (by decide) (by decide)
  have m6 : ml 69621 := ml_of (by decide) (by decide)
  have m61 : ml 613 := ml_of (by decide) (by decide)
  have m3 : ml 3 := ml_of (by decide) (by decide)
  refine wC_i hf rfl ?_
  simp only [c__law_draws, v_start, List.replicate, List.length_cons, List.length_nil, List.map_cons, List.map_nil, List.cons_append, List.nil_append]
  simp [-v_rB]
  intro a na
  rw [v_rB]
  simp [-v_rB]
  refine for_f (fun i env h' => ∃ (cs : List Int) (o3 o4 o5 : Option D), 0 < cs.length ∧ cs.length ≤ 1 + i * 40 ∧ h' = put h a (.lst (iL cs)) ∧ env = [some (.fl (iL ns)), some (.int m), some (.loc a), o3, o4, o5, none, none, none, none]) ⟨[0], none, none, none, by simp, by simp, rfl, rfl⟩ ?_ ?_
  · rintro i x env h' N hx ⟨cs, o3, o4, o5, c0, c1, rfl, rfl⟩ hN
    have hi : i < 63 := by
      have := (List.getElem?_eq_some_iff.mp hx).1
      rw [iL_len] at this; omega
    obtain ⟨y, _, rfl⟩ := iL_mem (List.mem_of_getElem? hx)
    have cap : (iL cs).length < 16777216 := by rw [iL_len]; omega
    simp [-v_rB]
    rw [v_rB]
    simp [-v_rB]
    generalize (if y < 0 then -y else y) = r
    by_cases z : r < 1000000000000000000
    · simp [z, cap]
      exact hN _ _ ⟨cs ++ [r], _, _, _, by simp, by simp; omega, by rw [iL_one], rfl⟩
    · simp [z, s0]
      refine for_f (fun j env h' => ∃ (cs2 : List Int) (o5 : Option D) (r : Int), 0 < cs2.length ∧ cs2.length ≤ cs.length + j ∧ h' = put h a (.lst (iL cs2)) ∧ env = [some (.fl (iL ns)), some (.int m), some (.loc a), some (.int y), some (.int r), o5, none, none, none, none]) ⟨cs, _, r, c0, Nat.le_refl _, rfl, rfl⟩ ?_ ?_
      · rintro j x env h' N2 hx ⟨cs2, o5, r, c3, c4, rfl, rfl⟩ hN2
        obtain ⟨hj, rfl⟩ := rngL_at hx
        have hj' : j < 40 := by simpa using hj
        have cap2 : (iL cs2).length < 16777216 := by rw [iL_len]; omega
        by_cases z : 0 < r
        · simp [z, cap2, m17]
          exact hN2 _ _ ⟨cs2 ++ [_], _, _, by simp, by simp; omega, by rw [iL_one], rfl⟩
        · simp [z]
          exact hN2 _ _ ⟨cs2, _, _, c3, by omega, rfl, rfl⟩
      · rintro env h' ⟨cs2, o5, r, c3, c4, rfl, rfl⟩
        have c5 : (rngL 0 (40 : Int).toNat).length = 40 := by rw [rngL_length]; rfl
        simp only [rngL_length] at c4
        refine hN _ _ ⟨cs2, _, _, _, c3, ?_, rfl, rfl⟩
        have : (40 : Int).toNat = 40 := rfl
        omega
  · rintro env h' ⟨cs, o3, o4, o5, c0, c1, rfl, rfl⟩
    rw [iL_len] at c1
    rw [v_nx, v_rB]
    simp [-v_rB]
    intro b nb
    have ba : b ≠ a := fun e => by rw [e, put_self] at nb; cases nb
    rw [put_ne ba] at nb
    rw [v_rB]
    simp [-v_rB, s1]
    refine for_f (fun i env h' => ∃ (ds : List Int) (o5 o7 o8 o9 : Option D), ds.length = i ∧ h' = put (put h a (.lst (iL cs))) b (.lst (iL ds)) ∧ env = [some (.fl (iL ns)), some (.int m), some (.loc a), o3, o4, o5, some (.loc b), o7, o8, o9]) ⟨[], _, none, none, none, rfl, rfl, rfl⟩ ?_ ?_
    · rintro i x env h' N hx ⟨ds, o5, o7, o8, o9, dl, rfl, rfl⟩ hN
      obtain ⟨hi, rfl⟩ := rngL_at hx
      have hc : (0 : Int) < (cs.length : Int) := by omega
      obtain ⟨v, hv⟩ := iL_at (xs := cs) (Int.emod_nonneg ((i : Int) * 7) (by omega)) (Int.emod_lt_of_pos _ hc)
      obtain ⟨u, hu⟩ := iL_at (xs := cs) (Int.emod_nonneg ((i : Int) + 1) (by omega)) (Int.emod_lt_of_pos _ hc)
      have cap : (iL ds).length < 16777216 := by rw [iL_len]; omega
      have hc2 : 0 < cs.length := c0
      simp [-v_rB, put_ne ba.symm, m7, iL_len, hc2]
      rw [v_rB]
      simp [-v_rB, put_ne ba.symm, m4, m6, hv, iL_len]
      generalize hw : (v * 48271 + (i : Int) * 69621 + 11 + (cs.length : Int)) % 2147483647 = w
      have w0 : ml w := by
        rw [← hw]
        exact ml_of (Int.lt_of_lt_of_le (by decide) (Int.emod_nonneg _ (by decide))) (Int.lt_trans (Int.emod_lt_of_pos _ (by decide)) (by decide))
      rw [v_rB]
      simp [-v_rB, put_ne ba.symm, m3, m61, w0, hu, iL_len, hc2]
      rw [v_rB]
      simp [-v_rB, cap]
      exact hN _ _ ⟨ds ++ [_], _, _, _, _, by simp [dl], by rw [iL_one], rfl⟩
    · rintro env h' ⟨ds, o5, o7, o8, o9, dl, rfl, rfl⟩
      simp
      have e : (iL ds).reverse = iL ds.reverse := by simp [iL]
      rw [e]
      have sb : Sub (put h b (.lst (iL ds.reverse))) (put (put h a (.lst (iL cs))) b (.lst (iL ds.reverse))) := by
        intro c o ec
        by_cases hb : c = b
        · subst hb; rw [put_self] at ec ⊢; exact ec
        · rw [put_ne hb] at ec ⊢
          exact (sub_put na) c o ec
      exact someQ_s sb (q b ds.reverse nb)
end
end D3
end Py
namespace Py
open PySem (Str)
namespace Cor
/-! ### names -/
inductive Nm | number | of | paired | first | second | plus | minus | less | same | hear | show | pair | set | goto | halt | test | push | load | keep | jump | unless | call | drop | back | nno | noc | cons | couple | ife | whl | cases | parts | got | list
  deriving DecidableEq
def nm : Nm → Str
  | .number => "number" | .of => "of" | .paired => "paired" | .first => "first" | .second => "second" | .plus => "plus" | .minus => "minus" | .less => "less" | .same => "same"
  | .hear => "hear" | .show => "show" | .pair => "pair" | .set => "set" | .goto => "goto" | .halt => "halt" | .test => "test" | .push => "push" | .load => "load" | .keep => "keep" | .jump => "jump"
  | .unless => "unless" | .call => "call" | .drop => "drop" | .back => "back"
  | .nno => "none" | .noc => "nocouple" | .cons => "cons" | .couple => "couple" | .ife => "if" | .whl => "while" | .cases => "cases" | .parts => "parts" | .got => "got" | .list => "list"
/-- a number of its own for each name's text -/
def nmK (s : Str) : Nat := s.cps.toList.foldl (fun a c => a * 1000 + c) 0
def nmI : Nm → Nat := fun a => nmK (nm a)
def allNm : List Nm := [.number, .of, .paired, .first, .second, .plus, .minus, .less, .same, .hear, .show, .pair, .set, .goto, .halt, .test, .push, .load, .keep, .jump, .unless, .call, .drop, .back, .nno, .noc, .cons, .couple, .ife, .whl, .cases, .parts, .got, .list]
theorem nm_find : ∀ a : Nm, (allNm.find? fun n => nmI n == nmI a) = some a := by
  intro a
  cases a <;> decide +kernel
theorem nm_inj : ∀ a b : Nm, nm a = nm b → a = b := by
  intro a b h
  have e : nmI a = nmI b := by unfold nmI; rw [h]
  have h1 := nm_find a
  rw [e, nm_find b] at h1
  exact (Option.some.inj
      h1).symm
@[simp] theorem nm_eq {a b : Nm} : nm a = nm b ↔ a = b := ⟨nm_inj a b, fun h => h ▸ rfl⟩
theorem nm_pu (a : Nm) : (nm a).cps.all (· < 0x110000) = true := by cases a <;> decide +kernel
@[simp] theorem pu_nm {n : Nat} {a : Nm} : pu n (.str (nm a)) = true := by
  unfold pu
  cases n <;> exact nm_pu a
@[simp] theorem eqv_nm {a b : Nm} : eqv (.str (nm a)) (.str (nm b)) = decide (a = b) := by
  show (nm a == nm b) = _
  by_cases h : a = b
  · subst h; simp
  · have : ¬ nm a = nm b := fun z => h (nm_inj a b z)
    simp [h, this]
@[simp] theorem k_nm {a b : Nm} {h : AH} : cmpD .eq (.v (.str (nm a))) (.v (.str (nm b))) h = some (decide (a = b)) := by
  rw [k_eqs]
  congr 1
  exact decide_eq_decide.mpr nm_eq
theorem k_inn (x y : Rv) (h : AH) : cmpD .inn x y h = inD x y h := rfl
@[simp] theorem in_nm {a : Nm} {ys : List D} {h : AH} (hy : ys.all (pu 40) = true) : cmpD .inn (.v (.str (nm a))) (.v (.tup ys)) h = some (ys.any fun z => eqv z (.str (nm a))) := by
  rw [k_inn]
  unfold inD
  simp [hy]
theorem n1 : Str.ofString "number" = nm .number := rfl
theorem n2 : Str.ofString "of" = nm .of := rfl
theorem n3 : Str.ofString "paired" = nm .paired := rfl
theorem n4 : Str.ofString "first" = nm .first := rfl
theorem n5 : Str.ofString "second" = nm .second := rfl
theorem n6 : Str.ofString "plus" = nm .plus := rfl
theorem n7 : Str.ofString "minus" = nm .minus := rfl
theorem n8 : Str.ofString "less" = nm .less := rfl
theorem n9 : Str.ofString "same" = nm .same := rfl
theorem n10 : Str.ofString "hear" = nm .hear := rfl
theorem n11 : Str.ofString "show" = nm .show := rfl
theorem n12 : Str.ofString "pair" = nm .pair := rfl
theorem n13 : Str.ofString "set" = nm .set := rfl
theorem n14 : Str.ofString "goto" = nm .goto := rfl
theorem n15 : Str.ofString "halt" = nm .halt := rfl
theorem n16 : Str.ofString "test" = nm .test := rfl
theorem n17 : Str.ofString "push" = nm .push := rfl
theorem n18 : Str.ofString "load" = nm .load := rfl
theorem n19 : Str.ofString "keep" = nm .keep := rfl
theorem n20 : Str.ofString "jump" = nm .jump := rfl
theorem n21 : Str.ofString "unless" = nm .unless := rfl
theorem n22 : Str.ofString "call" = nm .call := rfl
theorem n23 : Str.ofString "drop" = nm .drop := rfl
theorem n24 : Str.ofString "back" = nm .back := rfl
theorem n25 : Str.ofString "none" = nm .nno := rfl
theorem n26 : Str.ofString "nocouple" = nm .noc := rfl
theorem n27 : Str.ofString "cons" = nm .cons := rfl
theorem n28 : Str.ofString "couple" = nm .couple := rfl
theorem n29 : Str.ofString "if" = nm .ife := rfl
theorem n30 : Str.ofString "while" = nm .whl := rfl
theorem n31 : Str.ofString "cases" = nm .cases := rfl
theorem n32 : Str.ofString "parts" = nm .parts := rfl
theorem n33 : Str.ofString "got" = nm .got := rfl
theorem n34 : Str.ofString "list" = nm .list := rfl
/-! ### a walk over few -/
section
variable {P : Prog} {n : Nat} {t : Tg} {b : Sts} {env : Env} {h : AH} {K : Ks} {x : D} {r : List D}
theorem for_nil (q : K.nx env h) : ForG (wC P n) P.gl P.sub t b K env (.fix []) h := ⟨trivial, q⟩
theorem for_cons (q : wTg t x env h fun e3 h3 => wB (wC P n) P.gl P.sub b e3 h3 (K.turn fun e h => ForG (wC P n) P.gl P.sub t b K e (.fix r) h)) : ForG (wC P n) P.gl P.sub t b K env (.fix (x :: r)) h := ⟨trivial, q⟩
end
/-! ### core expressions -/
inductive CE | num (n : Nat) | of (v : Nat) | un (s : Nm) (a : CE) | bi (s : Nm) (a b : CE)
def CE.d : CE → D
  | .num n => .tup [.str (nm .number), .int n]
  | .of v => .tup [.str (nm .of), .int v]
  | .un s a => .tup [.str (nm s), a.d]
  | .bi s a b => .tup [.str (nm s), a.d, b.d]
def CE.dep : CE → Nat
  | .num _ => 1
  | .of _ => 1
  | .un _ a => a.dep + 1
  | .bi _ a b => max a.dep b.dep + 1
structure Un (s : Nm) : Prop where
  h : s = .paired ∨ s = .first ∨ s = .second
structure Bn (s : Nm) : Prop where
  h : s = .plus ∨ s = .minus ∨ s = .less ∨ s = .same
def CE.Ok (half many : Nat) : CE → Prop
  | .num n => n < half
  | .of v => v < many
  | .un s a => Un s ∧ a.Ok half many
  | .bi s a b => Bn s ∧ a.Ok half many ∧ b.Ok half many
abbrev Row := Nm × Option Nat
def rw1 : Row → D
  | (s, none) => .tup [.str (nm s)]
  | (s, some n) => .tup [.str (nm s), .int n]
def rwL (l : List Row) : List D := l.map rw1
@[simp] theorem rwL_len {l : List Row} : (rwL l).length = l.length := by simp [rwL]
theorem rwL_app {l m : List Row} : rwL l ++ rwL m = rwL (l ++ m) := by simp [rwL]
def CE.rows : CE → List Row
  | .num n => [(.push, some n)]
  | .of v => [(.load, some v)]
  | .un s a => a.rows ++ [(s, none)]
  | .bi s a b => a.rows ++ b.rows ++ [(s, none)]
def CE.pl : CE → Nat
  | .num _ => 1
  | .of _ => 1
  | .un _ a => a.pl
  | .bi _ a b => max a.pl (1 + b.pl)
theorem pl_pos : ∀ e : CE, 1 ≤ e.pl
  | .num _ => Nat.le_refl _
  | .of _ => Nat.le_refl _
  | .un _ a => pl_pos a
  | .bi _ a b => Nat.le_trans (pl_pos a) (Nat.le_max_left _ _)
theorem dep_pos : ∀ e : CE, 1 ≤ e.dep
  | .num _ => Nat.le_refl _
  | .of _ => Nat.le_refl _
  | .un _ a => by unfold CE.dep; omega
  | .bi _ a b => by unfold CE.dep; omega
theorem rows_pos : ∀ e : CE, 1 ≤ e.rows.length
  | .num _ => Nat.le_refl _
  | .of _ => Nat.le_refl _
  | .un _ a => by simp [CE.rows]
  | .bi _ a b => by simp [CE.rows]; omega
theorem rows_len : ∀ e : CE, e.rows.length < 2 ^ e.dep
  | .num _ => by simp [CE.rows, CE.dep]
  | .of _ => by simp [CE.rows, CE.dep]
  | .un _ a => by
    have := rows_len a
    simp only [CE.rows, CE.dep, List.length_append, List.length_cons, List.length_nil, Nat.pow_succ]
    omega
  | .bi _ a b => by
    have h1 := rows_len a
    have h2 := rows_len b
    have h3 : 2 ^ a.dep ≤ 2 ^ max a.dep b.dep := Nat.pow_le_pow_right (by decide) (Nat.le_max_left _ _)
    have h4 : 2 ^ b.dep ≤ 2 ^ max a.dep b.dep := Nat.pow_le_pow_right (by decide) (Nat.le_max_right _ _)
    simp only [CE.rows, CE.dep, List.length_append, List.length_cons, List.length_nil, Nat.pow_succ]
    omega
theorem un_ne {s : Nm} (h : Un s) : ¬ s = .number ∧ ¬ s = .of := by
  rcases h.h with rfl | rfl | rfl <;> decide
theorem bn_ne {s : Nm} (h : Bn s) : ¬ s = .number ∧ ¬ s = .of := by
  rcases h.h with rfl | rfl | rfl | rfl <;> decide
theorem cut1 {x : D} {xs : List D} : cut (x :: xs) (some 1) none = xs := by
  have := cut_drop (xs := x :: xs) (k := 1) (by simp)
  exact this
def c_core_expression_rows : Fn := ⟨1, 3, (.cons (.ifs (.cmp .eq (.ix (.var 0) (.lit (.int 0))) (.lit (.str "number"))) (.cons (.ret (.tup (.cons (.tup (.cons (.lit (.str "push")) (.cons (.ix (.var 0) (.lit (.int 1))) .nil))) .nil))) .nil) .nil) (.cons (.ifs (.cmp .eq (.ix (.var 0) (.lit (.int 0))) (.lit (.str "of"))) (.cons (.ret (.tup (.cons (.tup (.cons (.lit (.str "load")) (.cons (.ix (.var 0) (.lit (.int 1))) .nil))) .nil))) .nil) .nil) (.cons (.asg (.nm 1) (.tup .nil)) (.cons (.for_ (.nm 2) (.seq (.sl (.var 0) (.so (.lit (.int 1))) .no)) (.cons (.asg (.nm 1) (.bin .add (.var 1) (.call "core_expression_rows" (.cons (.var 2) .nil)))) .nil)) (.cons (.ret (.bin .add (.var 1) (.tup (.cons (.tup (.cons (.ix (.var 0) (.lit (.int 0))) .nil)) .nil)))) .nil)))))⟩
def c_places_for_expression : Fn := ⟨1, 3, (.cons (.ifs (.cmp .inn (.ix (.var 0) (.lit (.int 0))) (.tup (.cons (.lit (.str "number")) (.cons (.lit (.str "of")) .nil)))) (.cons (.ret (.lit (.int 1))) .nil) .nil) (.cons (.asg (.nm 1) (.lit (.int 0))) (.cons (.for_ (.nm 2) (.rng2 (.lit (.int 1)) (.b1 .len (.var 0))) (.cons (.asg (.nm 1) (.b2 .max (.var 1) (.bin .add (.bin .sub (.var 2) (.lit (.int 1))) (.call "places_for_expression" (.cons (.ix (.var 0) (.var 2)) .nil))))) .nil)) (.cons (.ret (.var 1)) .nil))))⟩
def c_core_command_rows : Fn := ⟨1, 1, (.cons (.ifs (.cmp .eq (.ix (.var 0) (.lit (.int 0))) (.lit (.str "hear"))) (.cons (.ret (.tup (.cons (.tup (.cons (.lit (.str "hear")) .nil)) (.cons (.tup (.cons (.lit (.str "keep")) (.cons (.ix (.var 0) (.lit (.int 1))) .nil))) .nil)))) .nil) .nil) (.cons (.ifs (.cmp .eq (.ix (.var 0) (.lit (.int 0))) (.lit (.str "show"))) (.cons (.ret (.bin .add (.call "core_expression_rows" (.cons (.ix (.var 0) (.lit (.int 1))) .nil)) (.tup (.cons (.tup (.cons (.lit (.str "show")) .nil)) .nil)))) .nil) .nil) (.cons (.ifs (.cmp .eq (.ix (.var 0) (.lit (.int 0))) (.lit (.str "set"))) (.cons (.ret (.bin .add (.call "core_expression_rows" (.cons (.ix (.var 0) (.lit (.int 2))) .nil)) (.tup (.cons (.tup (.cons (.lit (.str "keep")) (.cons (.ix (.var 0) (.lit (.int 1))) .nil))) .nil)))) .nil) .nil) (.cons (.ret (.bin .add (.bin .add (.call "core_expression_rows" (.cons (.ix (.var 0) (.lit (.int 2))) .nil)) (.call "core_expression_rows" (.cons (.ix (.var 0) (.lit (.int 3))) .nil))) (.tup (.cons (.tup (.cons (.lit (.str "pair")) .nil)) (.cons (.tup (.cons (.lit (.str "keep")) (.cons (.ix (.var 0) (.lit (.int 1))) .nil))) .nil))))) .nil))))⟩
def c_places_for_command : Fn := ⟨1, 1, (.cons (.ifs (.cmp .eq (.ix (.var 0) (.lit (.int 0))) (.lit (.str "hear"))) (.cons (.ret (.lit (.int 1))) .nil) .nil) (.cons (.ifs (.cmp .eq (.ix (.var 0) (.lit (.int 0))) (.lit (.str "pair"))) (.cons (.ret (.b2 .max (.call "places_for_expression" (.cons (.ix (.var 0) (.lit (.int 2))) .nil)) (.bin .add (.lit (.int 1)) (.call "places_for_expression" (.cons (.ix (.var 0) (.lit (.int 3))) .nil))))) .nil) .nil) (.cons (.ret (.call "places_for_expression" (.cons (.ix (.var 0) (.neg (.lit (.int 1)))) .nil))) .nil)))⟩
def c_length_of_jump : Fn := ⟨1, 1, (.cons (.ret (.ite (.cmp .eq (.ix (.var 0) (.lit (.int 0))) (.lit (.str "test"))) (.bin .add (.b1 .len (.call "core_expression_rows" (.cons (.ix (.var 0) (.lit (.int 1))) .nil))) (.lit (.int 2))) (.lit (.int 1)))) .nil)⟩
def c__law_rows : Fn := ⟨1, 3, (.cons (.ifs (.cmp .eq (.ix (.var 0) (.lit (.int 0))) (.lit (.str "number"))) (.cons (.ret (.lst (.cons (.tup (.cons (.lit (.str "push")) (.cons (.ix (.var 0) (.lit (.int 1))) .nil))) .nil))) .nil) .nil) (.cons (.ifs (.cmp .eq (.ix (.var 0) (.lit (.int 0))) (.lit (.str "of"))) (.cons (.ret (.lst (.cons (.tup (.cons (.lit (.str "load")) (.cons (.ix (.var 0) (.lit (.int 1))) .nil))) .nil))) .nil) .nil) (.cons (.asg (.nm 1) (.lst .nil)) (.cons (.for_ (.nm 2) (.seq (.sl (.var 0) (.so (.lit (.int 1))) .no)) (.cons (.asg (.nm 1) (.bin .add (.var 1) (.call "_law_rows" (.cons (.var 2) .nil)))) .nil)) (.cons (.ret (.bin .add (.var 1) (.lst (.cons (.tup (.cons (.ix (.var 0) (.lit (.int 0))) .nil)) .nil)))) .nil)))))⟩
def c__law_command_rows : Fn := ⟨1, 2, (.cons (.ifs (.cmp .eq (.ix (.var 0) (.lit (.int 0))) (.lit (.str "hear"))) (.cons (.ret (.lst (.cons (.tup (.cons (.lit (.str "hear")) .nil)) (.cons (.tup (.cons (.lit (.str "keep")) (.cons (.ix (.var 0) (.lit (.int 1))) .nil))) .nil)))) .nil) .nil) (.cons (.ifs (.cmp .eq (.ix (.var 0) (.lit (.int 0))) (.lit (.str "show"))) (.cons (.ret (.bin .add (.call "_law_rows" (.cons (.ix (.var 0) (.lit (.int 1))) .nil)) (.lst (.cons (.tup (.cons (.lit (.str "show")) .nil)) .nil)))) .nil) .nil) (.cons (.asg (.nm 1) (.call "_law_rows" (.cons (.ix (.var 0) (.lit (.int 2))) .nil))) (.cons (.ifs (.cmp .eq (.ix (.var 0) (.lit (.int 0))) (.lit (.str "pair"))) (.cons (.asg (.nm 1) (.bin .add (.bin .add (.var 1) (.call "_law_rows" (.cons (.ix (.var 0) (.lit (.int 3))) .nil))) (.lst (.cons (.tup (.cons (.lit (.str "pair")) .nil)) .nil)))) .nil) .nil) (.cons (.ret (.bin .add (.var 1) (.lst (.cons (.tup (.cons (.lit (.str "keep")) (.cons (.ix (.var 0) (.lit (.int 1))) .nil))) .nil)))) .nil)))))⟩
section
variable {P : Prog} {n : Nat} {h : AH} {Q : D → AH → Prop} {X : Xc} {half many : Nat}
theorem expr_rows_i (hf : P.fn "core_expression_rows" = some c_core_expression_rows) : ∀ (e : CE) {k : Nat} {h : AH} {Q : D → AH → Prop} {X : Xc}, e.Ok half many → e.dep ≤ k → e.rows.length ≤ 100000 → Q (.tup (rwL e.rows)) h → wC P (n + k) "core_expression_rows" [e.d] h Q X
  | .num m, 0, _, _, _, _, hk, _, _ => absurd hk (by simp [CE.dep])
  | .of m, 0, _, _, _, _, hk, _, _ => absurd hk (by simp [CE.dep])
  | .un s a, 0, _, _, _, _, hk, _, _ => absurd hk (by simp [CE.dep])
  | .bi s a b, 0, _, _, _, _, hk, _, _ => absurd hk (by simp [CE.dep])
  | .num m, k + 1, h, Q, X, ok, hk, hl, q => by
    refine wC_i hf rfl ?_
    simp [c_core_expression_rows, List.replicate, CE.d, n1, n17]
    exact someQ_i q
  | .of m, k + 1, h, Q, X, ok, hk, hl, q => by
    refine wC_i hf rfl ?_
    simp [c_core_expression_rows, List.replicate, CE.d, n1, n2, n18]
    exact someQ_i q
  | .un s a, k + 1, h, Q, X, ok, hk, hl, q => by
    obtain ⟨ok1, ok2⟩ := ok
    obtain ⟨e1, e2⟩ := un_ne ok1
    have hk' : a.dep ≤ k := by simp [CE.dep] at hk; omega
    have hl' : a.rows.length ≤ 100000 := by simp [CE.rows] at hl; omega
    refine wC_i hf rfl ?_
    simp [c_core_expression_rows, List.replicate, CE.d, n1, n2, e1, e2, cut1]
    refine for_cons ?_
    simp
    refine expr_rows_i hf a ok2 hk' hl' ?_
    have l1 : a.rows.length ≤ 16777216 := by omega
    have l2 : a.rows.length + 1 ≤ 16777216 := by omega
    simp [l1]
    refine for_nil ?_
    simp [l2]
    refine someQ_i ?_
    have e : rwL (CE.un s a).rows = rwL a.rows ++ [.tup [.str (nm s)]] := by simp [CE.rows, rwL, rw1]
    rw [e] at q
    exact q
  | .bi s a b, k + 1, h, Q, X, ok, hk, hl, q => by
    obtain ⟨ok1, ok2, ok3⟩ := ok
    obtain ⟨e1, e2⟩ := bn_ne ok1
    have hk' : a.dep ≤ k ∧ b.dep ≤ k := by simp [CE.dep] at hk; omega
    have hl' : a.rows.length + b.rows.length + 1 ≤ 100000 := by simp [CE.rows] at hl; omega
    refine wC_i hf rfl ?_
    simp [c_core_expression_rows, List.replicate, CE.d, n1, n2, e1, e2, cut1]
    refine for_cons ?_
    simp
    refine expr_rows_i hf a ok2 hk'.1 (by omega) ?_
    have l1 : a.rows.length ≤ 16777216 := by omega
    have l2 : a.rows.length + b.rows.length ≤ 16777216 := by omega
    have l3 : a.rows.length + b.rows.length + 1 ≤ 16777216 := by omega
    simp [l1]
    refine for_cons ?_
    simp
    refine expr_rows_i hf b ok3 hk'.2 (by omega) ?_
    simp [l2]
    refine for_nil ?_
    simp [l3]
    refine someQ_i ?_
    have e : rwL (CE.bi s a b).rows = rwL a.rows ++ (rwL b.rows ++ [.tup [.str (nm s)]]) := by simp [CE.rows, rwL, rw1]
    rw [e] at q
    exact q
theorem law_rows_i (hf : P.fn "_law_rows" = some c__law_rows) : ∀ (e : CE) {k : Nat} {h : AH} {Q : D → AH → Prop} {X : Xc}, e.Ok half many → e.dep ≤ k → e.rows.length ≤ 100000 → (∀ a h', Sub h h' → h a = none → h' a = some (.lst (rwL e.rows)) → Q (.loc a) h') → wC P (n + k) "_law_rows" [e.d] h Q X
  | .num m, 0, _, _, _, _, hk, _, _ => absurd hk (by simp [CE.dep])
  | .of m, 0, _, _, _, _, hk, _, _ => absurd hk (by simp [CE.dep])
  | .un s a, 0, _, _, _, _, hk, _, _ => absurd hk (by simp [CE.dep])
  | .bi s a b, 0, _, _, _, _, hk, _, _ => absurd hk (by simp [CE.dep])
  | .num m, k + 1, h, Q, X, ok, hk, hl, q => by
    refine wC_i hf rfl ?_
    simp [c__law_rows, List.replicate, CE.d, n1, n17]
    exact fun a na => someQ_i (q a _ (sub_put na) na put_self)
  | .of m, k + 1, h, Q, X, ok, hk, hl, q => by
    refine wC_i hf rfl ?_
    simp [c__law_rows, List.replicate, CE.d, n1, n2, n18]
    exact fun a na => someQ_i (q a _ (sub_put na) na put_self)
  | .un s a, k + 1, h, Q, X, ok, hk, hl, q => by
    obtain ⟨ok1, ok2⟩ := ok
    obtain ⟨e1, e2⟩ := un_ne ok1
    have hk' : a.dep ≤ k := by simp [CE.dep] at hk; omega
    have hl' : a.rows.length ≤ 100000 := by simp [CE.rows] at hl; omega
    refine wC_i hf rfl ?_
    simp [c__law_rows, List.replicate, CE.d, n1, n2, e1, e2, cut1]
    intro u nu
    refine for_cons ?_
    simp
    refine law_rows_i hf a ok2 hk' hl' fun v h1 s1 nv hv => ?_
    have l1 : ([] : List D).length + (rwL a.rows).length ≤ 16777216 := by simp; omega
    rw [o_addll (s1 u _ put_self) hv l1]
    simp
    intro w nw
    refine for_nil ?_
    have l2 : a.rows.length + 1 ≤ 16777216 := by omega
    simp [l2]
    intro y ny
    have sb : Sub h h1 := (sub_put nu).trans s1
    refine someQ_i (q y _ ((sb.new nw).new ny) ?_ ?_)
    · exact (sb.new nw).free ny
    · rw [put_self]
      simp [CE.rows, rwL, rw1]
  | .bi s a b, k + 1, h, Q, X, ok, hk, hl, q => by
    obtain ⟨ok1, ok2, ok3⟩ := ok
    obtain ⟨e1, e2⟩ := bn_ne ok1
    have hk' : a.dep ≤ k ∧ b.dep ≤ k := by simp [CE.dep] at hk; omega
    have hl' : a.rows.length + b.rows.length + 1 ≤ 100000 := by simp [CE.rows] at hl; omega
    refine wC_i hf rfl ?_
    simp [c__law_rows, List.replicate, CE.d, n1, n2, e1, e2, cut1]
    intro u nu
    refine for_cons ?_
    simp
    refine law_rows_i hf a ok2 hk'.1 (by omega) fun v h1 s1 nv hv => ?_
    have l1 : ([] : List D).length + (rwL a.rows).length ≤ 16777216 := by simp; omega
    rw [o_addll (s1 u _ put_self) hv l1]
    simp
    intro w nw
    refine for_cons ?_
    simp
    refine law_rows_i hf b ok3 hk'.2 (by omega) fun v2 h2 s2 nv2 hv2 => ?_
    have l2 : (rwL a.rows).length + (rwL b.rows).length ≤ 16777216 := by simp; omega
    rw [o_addll (s2 w _ put_self) hv2 l2]
    simp
    intro x nx
    refine for_nil ?_
    have l3 : a.rows.length + b.rows.length + 1 ≤ 16777216 := by omega
    simp [l3]
    intro y ny
    have sb : Sub h h2 := (((sub_put nu).trans s1).new nw).trans s2
    refine someQ_i (q y _ ((sb.new nx).new ny) ((sb.new nx).free ny) ?_)
    rw [put_self]
    simp [CE.rows, rwL, rw1]
theorem places_i (hf : P.fn "places_for_expression" = some c_places_for_expression) : ∀ (e : CE) {k : Nat} {h : AH} {Q : D → AH → Prop} {X : Xc}, e.Ok half many → e.dep ≤ k → Q (.int e.pl) h → wC P (n + k) "places_for_expression" [e.d] h Q X
  | .num m, 0, _, _, _, _, hk, _ => absurd hk (by simp [CE.dep])
  | .of m, 0, _, _, _, _, hk, _ => absurd hk (by simp [CE.dep])
  | .un s a, 0, _, _, _, _, hk, _ => absurd hk (by simp [CE.dep])
  | .bi s a b, 0, _, _, _, _, hk, _ => absurd hk (by simp [CE.dep])
  | .num m, k + 1, h, Q, X, ok, hk, q => by
    refine wC_i hf rfl ?_
    simp [c_places_for_expression, List.replicate, CE.d, n1, n2]
    exact someQ_i q
  | .of m, k + 1, h, Q, X, ok, hk, q => by
    refine wC_i hf rfl ?_
    simp [c_places_for_expression, List.replicate, CE.d, n1, n2]
    exact someQ_i q
  | .un s a, k + 1, h, Q, X, ok, hk, q => by
    obtain ⟨ok1, ok2⟩ := ok
    obtain ⟨e1, e2⟩ := un_ne ok1
    have e1' : ¬ Nm.number = s := fun z => e1 z.symm
    have e2' : ¬ Nm.of = s := fun z => e2 z.symm
    have hk' : a.dep ≤ k := by simp [CE.dep] at hk; omega
    have s2 : small62 2 = true := by decide
    have s1 : small62 1 = true := by decide
    refine wC_i hf rfl ?_
    simp [c_places_for_expression, List.replicate, CE.d, n1, n2, e1', e2', s1, s2]
    have er : rngL 1 1 = [.int 1] := rfl
    rw [er]
    refine for_cons ?_
    simp
    refine places_i hf a ok2 hk' ?_
    have := pl_pos a
    simp
    refine for_nil ?_
    have z : (0 : Int) < (a.pl : Int) := by omega
    simp [z]
    try rw [if_pos (by omega)]
    exact someQ_i q
  | .bi s a b, k + 1, h, Q, X, ok, hk, q => by
    obtain ⟨ok1, ok2, ok3⟩ := ok
    obtain ⟨e1, e2⟩ := bn_ne ok1
    have e1' : ¬ Nm.number = s := fun z => e1 z.symm
    have e2' : ¬ Nm.of = s := fun z => e2 z.symm
    have hk' : a.dep ≤ k ∧ b.dep ≤ k := by simp [CE.dep] at hk; omega
    have s3 : small62 3 = true := by decide
    have s1 : small62 1 = true := by decide
    refine wC_i hf rfl ?_
    simp [c_places_for_expression, List.replicate, CE.d, n1, n2, e1', e2', s1, s3]
    have er : rngL 1 2 = [.int 1, .int 2] := rfl
    rw [er]
    refine for_cons ?_
    simp
    refine places_i hf a ok2 hk'.1 ?_
    have h1 := pl_pos a
    have h2 := pl_pos b
    simp
    refine for_cons ?_
    simp
    refine places_i hf b ok3 hk'.2 ?_
    simp
    refine for_nil ?_
    simp
    refine someQ_i ?_
    have e : (if (if (0 : Int) < (a.pl : Int) then (a.pl : Int) else 0) < 1 + (b.pl : Int) then 1 + (b.pl : Int) else if (0 : Int) < (a.pl : Int) then (a.pl : Int) else 0) = ((CE.bi s a b).pl : Int) := by
      show _ = ((max a.pl (1 + b.pl) : Nat) : Int)
      rw [if_pos (show (0 : Int) < (a.pl : Int) by omega)]
      split <;> omega
    simp only [Int.natCast_pos] at e ⊢
    first | (rw [e]; exact q) | (simp only [show 0 < a.pl by omega, if_true] at e ⊢; rw [e]; exact q)
end
end Cor
end Py
namespace Py
open PySem (Str)
namespace Cor
/-! ### the greatest, the sum -/
def mxN (xs : List Nat) : Nat := xs.foldl max 0
theorem foldl_max (xs : List Nat) (i : Nat) : xs.foldl max i = max i (mxN xs) := by
  induction xs
      generalizing i with
  | nil => simp [mxN]
  | cons x r ih =>
    rw [List.foldl_cons, ih, show mxN (x :: r) = r.foldl max (max 0 x) from rfl, ih]
    omega
theorem mxN_cons (x : Nat) (r : List Nat) : mxN (x :: r) = max x (mxN r) := by
  show r.foldl max (max 0 x) = _
  rw [foldl_max]
  omega
theorem mxN_app (xs ys : List Nat) : mxN (xs ++ ys) = max (mxN xs) (mxN ys) := by
  induction xs with
  | nil => simp [mxN]
  | cons x r ih => rw [List.cons_append, mxN_cons, mxN_cons, ih]; omega
theorem maxI_nat (x : Nat) (r : List Nat) : maxI ((x :: r).map fun (y : Nat) => (y : Int)) = some ((mxN (x :: r) : Nat) : Int) := by
  have key : ∀ (r : List Nat) (x : Nat), (r.map fun (y : Nat) => (y : Int)).foldl (fun m y => if m < y then y else m) (x : Int) = ((max x (mxN r) : Nat) : Int) := by
    intro r
    induction r with
    | nil => intro x; simp [mxN]
    | cons y r ih =>
      intro x
      rw [List.map_cons, List.foldl_cons]
      have e : (if (x : Int) < (y : Int) then (y : Int) else (x : Int)) = ((max x y : Nat) : Int) := by split <;> omega
      rw [e, ih, mxN_cons]
      congr 1
      omega
  show some _ = _
  rw [key, mxN_cons]
theorem n_maxo {x : Nat} {r : List Nat} {h : AH} : b1D .max (.o (.lst (nL (x :: r)))) h = some (.v (.int (mxN (x :: r)))) := by
  show ((intsL (nL (x :: r))).bind maxI).map _ = _
  rw [← nL_iL, intsL_iL, Option.bind_some, maxI_nat]
  rfl
theorem sum_nat (xs : List Nat) : (xs.map fun (x : Nat) => (x : Int)).sum = ((xs.sum : Nat) : Int) := by
  induction xs with
  | nil => rfl
  | cons x r ih => rw [List.map_cons, List.sum_cons, ih, List.sum_cons]; omega
theorem n_suml {a : Nat} {xs : List Nat} {h : AH} (ha : h a = some (.lst (nL xs))) : b1D .sum (.v (.loc a)) h = some (.v (.int (xs.sum : Nat))) := by
  simp only [b1D, l_loc ha]
  rw [← nL_iL, intsL_iL, Option.map_some]
  simp only [sum_nat]
theorem n_sumo {xs : List Nat} {h : AH} : b1D .sum (.o (.lst (nL xs))) h = some (.v (.int (xs.sum : Nat))) := by
  show (intsL (nL xs)).map _ = _
  rw [← nL_iL, intsL_iL, Option.map_some]
  simp only [sum_nat]
/-! ### commands, jumps, blocks -/
inductive Cmd | hear (v : Nat) | shw (e : CE) | set (v : Nat) (e : CE) | pair (v : Nat) (a b : CE)
def Cmd.d : Cmd → D
  | .hear v => .tup [.str (nm .hear), .int v]
  | .shw e => .tup [.str (nm .show), e.d]
  | .set v e => .tup [.str (nm .set), .int v, e.d]
  | .pair v a b => .tup [.str (nm .pair), .int v, a.d, b.d]
def Cmd.rows : Cmd → List Row
  | .hear v => [(.hear, none), (.keep, some v)]
  | .shw e => e.rows ++ [(.show, none)]
  | .set v e => e.rows ++ [(.keep, some v)]
  | .pair v a b => a.rows ++ b.rows ++ [(.pair, none), (.keep, some v)]
def Cmd.pl : Cmd → Nat
  | .hear _ => 1
  | .shw e => e.pl
  | .set _ e => e.pl
  | .pair _ a b => max a.pl (1 + b.pl)
/-- right, and of at most so many levels -/
def EOk (half many k : Nat) (e : CE) : Prop := e.Ok half many ∧ e.dep ≤ k
def Cmd.Ok (half many k : Nat) : Cmd → Prop
  | .hear v => v < many
  | .shw e => EOk half many k e
  | .set v e => v < many ∧ EOk half many k e
  | .pair v a b => v < many ∧ EOk half many k a ∧ EOk half many k b
inductive Jmp | goto (b : Nat) | halt | test (e : CE) (b c : Nat)
def Jmp.d : Jmp → D
  | .goto b => .tup [.str (nm .goto), .int b]
  | .halt => .tup [.str (nm .halt)]
  | .test e b c => .tup [.str (nm .test), e.d, .int b, .int c]
def Jmp.rows (ad : Nat → Nat) : Jmp → List Row
  | .goto b => [(.jump, some (ad b))]
  | .halt => [(.halt, none)]
  | .test e b c => e.rows ++ [(.unless, some (ad c)), (.jump, some (ad b))]
def Jmp.len : Jmp → Nat
  | .goto _ => 1
  | .halt => 1
  | .test e _ _ => e.rows.length + 2
def Jmp.pl : Jmp → Nat
  | .test e _ _ => e.pl
  | _ => 1
def Jmp.Ok (half many k size : Nat) : Jmp → Prop
  | .goto b => b < size
  | .halt => True
  | .test e b c => EOk half many k e ∧ b < size ∧ c < size
theorem jrows_len (ad : Nat → Nat) : ∀ j : Jmp, (j.rows ad).length = j.len
  | .goto _ => rfl
  | .halt => rfl
  | .test e _ _ => by simp [Jmp.rows, Jmp.len]
abbrev Blk := List Cmd × Jmp
def bD (b : Blk) : D := .tup [.tup (b.1.map Cmd.d), b.2.d]
def lens (b : Blk) : List Nat := (b.1.map fun c => c.rows.length) ++ [b.2.len]
def bLen (b : Blk) : Nat := (lens b).sum
def bPl (b : Blk) : Nat := mxN ((b.1.map Cmd.pl) ++ [b.2.pl])
structure BOk (half many k size : Nat) (b : Blk) : Prop where
  c : ∀ c ∈ b.1, c.Ok half many k
  j : b.2.Ok half many k size
  n : b.1.length ≤ 100
structure Pgm where
  many : Nat
  bs : List Blk
def Pgm.d (p : Pgm) : D := .tup [.int p.many, .tup (p.bs.map bD)]
structure POk (half k : Nat) (p : Pgm) : Prop where
  b : ∀ b ∈ p.bs, BOk half p.many k p.bs.length b
  s : 0 < p.bs.length
  n : p.bs.length ≤ 100
  k : k ≤ 8
@[simp] theorem pgm0 {p : Pgm} {h : AH} : ixD (.v p.d) (.v (.int 0)) h = some (.int p.many) := by simp [Pgm.d]
@[simp] theorem pgm1 {p : Pgm} {h : AH} : ixD (.v p.d) (.v (.int 1)) h = some (.tup (p.bs.map bD)) := by simp [Pgm.d]
@[simp] theorem blk0 {b : Blk} {h : AH} : ixD (.v (bD b)) (.v (.int 0)) h = some (.tup (b.1.map Cmd.d)) := by simp [bD]
@[simp] theorem blk1 {b : Blk} {h : AH} : ixD (.v (bD b)) (.v (.int 1)) h = some b.2.d := by simp [bD]
@[simp] theorem blkS {b : Blk} {h : AH} : sqV (.v (bD b)) h = some [.tup (b.1.map Cmd.d), b.2.d] := rfl
def addr (bs : List Blk) (i : Nat) : Nat := ((bs.take i).map bLen).sum
def adrs (bs : List Blk) (i : Nat) : List Nat := (List.range (i + 1)).map (addr bs)
theorem adrs_len {bs : List Blk} {i : Nat} : (adrs bs i).length = i + 1 := by simp [adrs]
theorem addr_s {bs : List Blk} {i : Nat} {b : Blk} (h : bs[i]? = some b) : addr bs (i + 1) = addr bs i + bLen b := by
  unfold addr
  rw [take_snoc h, List.map_append, List.sum_append]
  simp
theorem adrs_s {bs : List Blk} {i : Nat} : adrs bs (i + 1) = adrs bs i ++ [addr bs (i + 1)] := by simp [adrs, List.range_succ]
theorem adrs_last {bs : List Blk} {i : Nat} : atI (nL (adrs bs i)) (-1) = some (.int (addr bs i)) := by
  have e : nL (adrs bs i) = nL ((List.range i).map (addr bs)) ++ [.int (addr bs i)] := by simp [adrs, List.range_succ, nL]
  rw [e, at_last]
theorem adrs_get {bs : List Blk} {n i : Nat} (h : i < n + 1) : gn (adrs bs n) i = addr bs i := by simp [gn, adrs, h]
theorem elen {half many k : Nat} {e : CE} (h : EOk half many k e) (hk : k ≤ 8) : e.rows.length ≤ 256 := by
  have h1 := rows_len e
  have h2 : 2 ^ e.dep ≤ 2 ^ 8 := Nat.pow_le_pow_right (by decide) (Nat.le_trans h.2 hk)
  omega
theorem clen {half many k : Nat} {c : Cmd} (h : c.Ok half many k) (hk : k ≤ 8) : c.rows.length ≤ 600 := by
  cases c with
  | hear v => simp [Cmd.rows]
  | shw e => have := elen h hk; simp [Cmd.rows]; omega
  | set v e => have := elen h.2 hk; simp [Cmd.rows]; omega
  | pair v a b => have := elen h.2.1 hk; have := elen h.2.2 hk; simp [Cmd.rows]; omega
def c_lengths_in_block : Fn := ⟨1, 3, (.cons (.ret (.bin .add (.comp (.nm 2) (.seq (.ix (.var 0) (.lit (.int 0)))) [1, 2] (.b1 .len (.call "core_command_rows" (.cons (.var 2) .nil)))) (.lst (.cons (.call "length_of_jump" (.cons (.ix (.var 0) (.lit (.int 1))) .nil)) .nil)))) .nil)⟩
def c_core_block_addresses : Fn := ⟨1, 3, (.cons (.asg (.nm 1) (.lst (.cons (.lit (.int 0)) .nil))) (.cons (.for_ (.nm 2) (.seq (.ix (.var 0) (.lit (.int 1)))) (.cons (.expr (.mt .append (.var 1) (.cons (.bin .add (.ix (.var 1) (.neg (.lit (.int 1)))) (.b1 .sum (.call "lengths_in_block" (.cons (.var 2) .nil)))) .nil))) .nil)) (.cons (.ret (.var 1)) .nil)))⟩
def c_core_address : Fn := ⟨3, 3, (.cons (.ret (.bin .add (.ix (.call "core_block_addresses" (.cons (.var 0) .nil)) (.var 1)) (.b1 .sum (.sl (.call "lengths_in_block" (.cons (.ix (.ix (.var 0) (.lit (.int 1))) (.var 1)) .nil)) .no (.so (.var 2)))))) .nil)⟩
def c_core_jump_rows : Fn := ⟨2, 2, (.cons (.ifs (.cmp .eq (.ix (.var 0) (.lit (.int 0))) (.lit (.str "goto"))) (.cons (.ret (.tup (.cons (.tup (.cons (.lit (.str "jump")) (.cons (.ix (.var 1) (.ix (.var 0) (.lit (.int 1)))) .nil))) .nil))) .nil) .nil) (.cons (.ifs (.cmp .eq (.ix (.var 0) (.lit (.int 0))) (.lit (.str "halt"))) (.cons (.ret (.tup (.cons (.tup (.cons (.lit (.str "halt")) .nil)) .nil))) .nil) .nil) (.cons (.ret (.bin .add (.call "core_expression_rows" (.cons (.ix (.var 0) (.lit (.int 1))) .nil)) (.tup (.cons (.tup (.cons (.lit (.str "unless")) (.cons (.ix (.var 1) (.ix (.var 0) (.lit (.int 3)))) .nil))) (.cons (.tup (.cons (.lit (.str "jump")) (.cons (.ix (.var 1) (.ix (.var 0) (.lit (.int 2)))) .nil))) .nil))))) .nil)))⟩
def c_places_for_block : Fn := ⟨1, 6, (.cons (.asg (.tp (.cons (.nm 1) (.cons (.nm 2) .nil))) (.var 0)) (.cons (.asg (.nm 3) (.comp (.nm 5) (.seq (.var 1)) [4, 5] (.call "places_for_command" (.cons (.var 5) .nil)))) (.cons (.ret (.b1 .max (.bin .add (.var 3) (.lst (.cons (.ite (.cmp .eq (.ix (.var 2) (.lit (.int 0))) (.lit (.str "test"))) (.call "places_for_expression" (.cons (.ix (.var 2) (.lit (.int 1))) .nil)) (.lit (.int 1))) .nil))))) .nil)))⟩
def c_core_rows : Fn := ⟨1, 6, (.cons (.asg (.nm 1) (.call "core_block_addresses" (.cons (.var 0) .nil))) (.cons (.asg (.nm 2) (.tup .nil)) (.cons (.for_ (.tp (.cons (.nm 3) (.cons (.nm 4) .nil))) (.seq (.ix (.var 0) (.lit (.int 1)))) (.cons (.for_ (.nm 5) (.seq (.var 3)) (.cons (.asg (.nm 2) (.bin .add (.var 2) (.call "core_command_rows" (.cons (.var 5) .nil)))) .nil)) (.cons (.asg (.nm 2) (.bin .add (.var 2) (.call "core_jump_rows" (.cons (.var 4) (.cons (.var 1) .nil))))) .nil))) (.cons (.ret (.var 2)) .nil))))⟩
def c_compiled_core : Fn := ⟨2, 8, (.cons (.asg (.tp (.cons (.nm 2) (.cons (.nm 3) (.cons (.nm 4) .nil)))) (.var 1)) (.cons (.asg (.nm 5) (.b1 .max (.comp (.nm 7) (.seq (.ix (.var 0) (.lit (.int 1)))) [6, 7] (.call "places_for_block" (.cons (.var 7) .nil))))) (.cons (.ret (.tup (.cons (.var 2) (.cons (.var 4) (.cons (.var 5) (.cons (.ix (.var 0) (.lit (.int 0))) (.cons (.var 3) (.cons (.call "core_rows" (.cons (.var 0) .nil)) .nil)))))))) .nil)))⟩
def c__law_jump_rows : Fn := ⟨2, 2, (.cons (.ifs (.cmp .eq (.ix (.var 0) (.lit (.int 0))) (.lit (.str "goto"))) (.cons (.ret (.lst (.cons (.tup (.cons (.lit (.str "jump")) (.cons (.ix (.var 1) (.ix (.var 0) (.lit (.int 1)))) .nil))) .nil))) .nil) .nil) (.cons (.ifs (.cmp .eq (.ix (.var 0) (.lit (.int 0))) (.lit (.str "halt"))) (.cons (.ret (.lst (.cons (.tup (.cons (.lit (.str "halt")) .nil)) .nil))) .nil) .nil) (.cons (.ret (.bin .add (.call "_law_rows" (.cons (.ix (.var 0) (.lit (.int 1))) .nil)) (.lst (.cons (.tup (.cons (.lit (.str "unless")) (.cons (.ix (.var 1) (.ix (.var 0) (.lit (.int 3)))) .nil))) (.cons (.tup (.cons (.lit (.str "jump")) (.cons (.ix (.var 1) (.ix (.var 0) (.lit (.int 2)))) .nil))) .nil))))) .nil)))⟩
def c__law_begins : Fn := ⟨1, 9, (.cons (.asg (.nm 1) (.b1 .len (.ix (.var 0) (.lit (.int 1))))) (.cons (.asg (.nm 2) (.lst .nil)) (.cons (.asg (.nm 3) (.lst .nil)) (.cons (.asg (.nm 4) (.lit (.int 0))) (.cons (.for_ (.tp (.cons (.nm 5) (.cons (.nm 6) .nil))) (.seq (.ix (.var 0) (.lit (.int 1)))) (.cons (.expr (.mt .append (.var 2) (.cons (.var 4) .nil))) (.cons (.asg (.nm 7) (.lst .nil)) (.cons (.for_ (.nm 8) (.seq (.var 5)) (.cons (.expr (.mt .append (.var 7) (.cons (.var 4) .nil))) (.cons (.asg (.nm 4) (.bin .add (.var 4) (.b1 .len (.call "_law_command_rows" (.cons (.var 8) .nil))))) .nil))) (.cons (.expr (.mt .append (.var 7) (.cons (.var 4) .nil))) (.cons (.expr (.mt .append (.var 3) (.cons (.b1 .tup (.var 7)) .nil))) (.cons (.asg (.nm 4) (.bin .add (.var 4) (.b1 .len (.call "_law_jump_rows" (.cons (.var 6) (.cons (.bin .mul (.lst (.cons (.lit (.int 0)) .nil)) (.var 1)) .nil)))))) .nil))))))) (.cons (.ret (.tup (.cons (.var 2) (.cons (.b1 .tup (.var 3)) .nil)))) .nil))))))⟩
def c__law_deepest : Fn := ⟨1, 4, (.cons (.asg (.nm 1) (.lit (.int 0))) (.cons (.asg (.nm 2) (.lit (.int 1))) (.cons (.for_ (.nm 3) (.seq (.var 0)) (.cons (.ifs (.cmp .inn (.ix (.var 3) (.lit (.int 0))) (.tup (.cons (.lit (.str "push")) (.cons (.lit (.str "load")) (.cons (.lit (.str "hear")) .nil))))) (.cons (.asg (.nm 1) (.bin .add (.var 1) (.lit (.int 1)))) .nil) .nil) (.cons (.ifs (.cmp .inn (.ix (.var 3) (.lit (.int 0))) (.tup (.cons (.lit (.str "plus")) (.cons (.lit (.str "minus")) (.cons (.lit (.str "less")) (.cons (.lit (.str "same")) (.cons (.lit (.str "pair")) (.cons (.lit (.str "keep")) (.cons (.lit (.str "show")) (.cons (.lit (.str "unless")) .nil)))))))))) (.cons (.asg (.nm 1) (.bin .sub (.var 1) (.lit (.int 1)))) .nil) .nil) (.cons (.asg (.nm 2) (.b2 .max (.var 2) (.var 1))) .nil)))) (.cons (.ret (.var 2)) .nil))))⟩
section
variable {P : Prog} {n : Nat} {h : AH} {Q : D → AH → Prop} {X : Xc} {half many k size : Nat}
theorem command_rows_i (hf : P.fn "core_command_rows" = some c_core_command_rows) (hf1 : P.fn "core_expression_rows" = some c_core_expression_rows) {c : Cmd} (ok : c.Ok half many k) (hk : k ≤ 8) (q : Q (.tup (rwL c.rows)) h) : wC P (n + k + 1) "core_command_rows" [c.d] h Q X := by
  refine wC_i hf rfl ?_
  cases c with
  | hear v =>
    simp [c_core_command_rows, List.replicate, Cmd.d, n10, n19]
    exact someQ_i (by simpa [Cmd.rows, rwL, rw1] using q)
  | shw e =>
    have l := elen ok hk
    simp [c_core_command_rows, List.replicate, Cmd.d, n10, n11, n19]
    refine expr_rows_i hf1 e ok.1 ok.2 (by omega) ?_
    have l2 : e.rows.length + 1 ≤ 16777216 := by omega
    simp [l2]
    exact someQ_i (by simpa [Cmd.rows, rwL, rw1] using q)
  | set v e =>
    have l := elen ok.2 hk
    simp [c_core_command_rows, List.replicate, Cmd.d, n10, n11, n13, n19]
    refine expr_rows_i hf1 e ok.2.1 ok.2.2 (by omega) ?_
    have l2 : e.rows.length + 1 ≤ 16777216 := by omega
    simp [l2]
    exact someQ_i (by simpa [Cmd.rows, rwL, rw1] using q)
  | pair v a b =>
    have l := elen ok.2.1 hk
    have l' := elen ok.2.2 hk
    simp [c_core_command_rows, List.replicate, Cmd.d, n10, n11, n12, n13, n19]
    refine expr_rows_i hf1 a ok.2.1.1 ok.2.1.2 (by omega) ?_
    try simp
    refine expr_rows_i hf1 b ok.2.2.1 ok.2.2.2 (by omega) ?_
    have l2 : a.rows.length + b.rows.length ≤ 16777216 := by omega
    have l3 : a.rows.length + b.rows.length + 1 + 1 ≤ 16777216 := by omega
    have l4 : a.rows.length + b.rows.length + 2 ≤ 16777216 := by omega
    simp [l2, l3, l4]
    exact someQ_i (by simpa [Cmd.rows, rwL, rw1] using q)
theorem law_command_rows_i (hf : P.fn "_law_command_rows" = some c__law_command_rows) (hf1 : P.fn "_law_rows" = some c__law_rows) {c : Cmd} (ok : c.Ok half many k) (hk : k ≤ 8) (q : ∀ a h', Sub h h' → h a = none → h' a = some (.lst (rwL c.rows)) → Q (.loc a) h') : wC P (n + k + 1) "_law_command_rows" [c.d] h Q X := by
  refine wC_i hf rfl ?_
  cases c with
  | hear v =>
    simp [c__law_command_rows, List.replicate, Cmd.d, n10, n19]
    exact fun a na => someQ_i (q a _ (sub_put na) na (by rw [put_self]; simp [Cmd.rows, rwL, rw1]))
  | shw e =>
    have l := elen ok hk
    simp [c__law_command_rows, List.replicate, Cmd.d, n10, n11, n19]
    refine law_rows_i hf1 e ok.1 ok.2 (by omega) fun a h1 s1 na ha => ?_
    have l2 : (rwL e.rows).length + [D.tup [D.str (nm .show)]].length ≤ 16777216 := by simp; omega
    rw [o_addlo ha l2]
    simp
    exact fun b nb => someQ_i (q b _ (s1.new nb) (s1.free nb) (by rw [put_self]; simp [Cmd.rows, rwL, rw1]))
  | set v e =>
    have l := elen ok.2 hk
    simp [c__law_command_rows, List.replicate, Cmd.d, n10, n11, n12, n13, n19]
    refine law_rows_i hf1 e ok.2.1 ok.2.2 (by omega) fun a h1 s1 na ha => ?_
    have l2 : (rwL e.rows).length + [D.tup [D.str (nm .keep), D.int v]].length ≤ 16777216 := by simp; omega
    try simp
    rw [o_addlo ha l2]
    simp
    exact fun b nb => someQ_i (q b _ (s1.new nb) (s1.free nb) (by rw [put_self]; simp [Cmd.rows, rwL, rw1]))
  | pair v a b =>
    have l := elen ok.2.1 hk
    have l' := elen ok.2.2 hk
    simp [c__law_command_rows, List.replicate, Cmd.d, n10, n11, n12, n13, n19]
    refine law_rows_i hf1 a ok.2.1.1 ok.2.1.2 (by omega) fun u h1 s1 nu hu => ?_
    try simp
    refine law_rows_i hf1 b ok.2.2.1 ok.2.2.2 (by omega) fun v' h2 s2 nv hv => ?_
    have l2 : (rwL a.rows).length + (rwL b.rows).length ≤ 16777216 := by simp; omega
    rw [o_addll (s2 u _ hu) hv l2]
    have l3 : a.rows.length + b.rows.length + 1 ≤ 16777216 := by omega
    simp [l3]
    intro w nw
    have l4 : (rwL a.rows ++ (rwL b.rows ++ [D.tup [D.str (nm .pair)]])).length + [D.tup [D.str (nm .keep), D.int v]].length ≤ 16777216 := by simp; omega
    rw [o_addlo put_self l4]
    simp
    have sb : Sub h (put h2 w (.lst (rwL a.rows ++ (rwL b.rows ++ [D.tup [D.str (nm .pair)]])))) := (s1.trans s2).new nw
    exact fun y ny => someQ_i (q y _ (sb.new ny) (sb.free ny) (by rw [put_self]; simp [Cmd.rows, rwL, rw1]))
theorem places_cmd_i (hf : P.fn "places_for_command" = some c_places_for_command) (hf1 : P.fn "places_for_expression" = some c_places_for_expression) {c : Cmd} (ok : c.Ok half many k) (q : Q (.int c.pl) h) : wC P (n + k + 1) "places_for_command" [c.d] h Q X := by
  refine wC_i hf rfl ?_
  cases c with
  | hear v =>
    simp [c_places_for_command, List.replicate, Cmd.d, n10]
    exact someQ_i q
  | shw e =>
    have e1 : atI [D.str (nm .show), e.d] (-1) = some e.d := at_last [D.str (nm .show)] e.d
    simp [c_places_for_command, List.replicate, Cmd.d, n10, n12, e1]
    exact places_i hf1 e ok.1 ok.2 (someQ_i q)
  | set v e =>
    have e1 : atI [D.str (nm .set), D.int v, e.d] (-1) = some e.d := at_last [D.str (nm .set), D.int v] e.d
    simp [c_places_for_command, List.replicate, Cmd.d, n10, n12, e1]
    exact places_i hf1 e ok.2.1 ok.2.2 (someQ_i q)
  | pair v a b =>
    simp [c_places_for_command, List.replicate, Cmd.d, n10, n12]
    refine places_i hf1 a ok.2.1.1 ok.2.1.2 ?_
    try simp
    refine places_i hf1 b ok.2.2.1 ok.2.2.2 ?_
    simp
    refine someQ_i ?_
    have e : (if (a.pl : Int) < 1 + (b.pl : Int) then 1 + (b.pl : Int) else (a.pl : Int)) = ((Cmd.pair v a b).pl : Int) := by
      show _ = ((max a.pl (1 + b.pl) : Nat) : Int)
      split <;> omega
    rw [e]
    exact q
theorem len_jump_i (hf : P.fn "length_of_jump" = some c_length_of_jump) (hf1 : P.fn "core_expression_rows" = some c_core_expression_rows) {j : Jmp} (ok : j.Ok half many k size) (hk : k ≤ 8) (q : Q (.int j.len) h) : wC P (n + k + 1) "length_of_jump" [j.d] h Q X := by
  refine wC_i hf rfl ?_
  cases j with
  | goto b =>
    simp [c_length_of_jump, List.replicate, Jmp.d, n16]
    exact someQ_i q
  | halt =>
    simp [c_length_of_jump, List.replicate, Jmp.d, n16]
    exact someQ_i q
  | test e b c =>
    have l := elen ok.1 hk
    simp [c_length_of_jump, List.replicate, Jmp.d, n16]
    refine expr_rows_i hf1 e ok.1.1 ok.1.2 (by omega) ?_
    simp
    exact someQ_i (by simpa [Jmp.len] using q)
theorem jump_rows_i (hf : P.fn "core_jump_rows" = some c_core_jump_rows) (hf1 : P.fn "core_expression_rows" = some c_core_expression_rows) {j : Jmp} (ok : j.Ok half many k size) (hk : k ≤ 8) {a : Nat} {ads : List Nat} (ha : h a = some (.lst (nL ads))) (hs : size ≤ ads.length) (q : Q (.tup (rwL (j.rows (gn ads)))) h) : wC P (n + k + 1) "core_jump_rows" [j.d, .loc a] h Q X := by
  refine wC_i hf rfl ?_
  cases j with
  | goto b =>
    simp only [Jmp.Ok] at ok
    simp [c_core_jump_rows, List.replicate, Jmp.d, n14, n20, ha, nL_at (xs := ads) (i := b) (by omega)]
    exact someQ_i (by simpa [Jmp.rows, rwL, rw1] using q)
  | halt =>
    simp [c_core_jump_rows, List.replicate, Jmp.d, n14, n15]
    exact someQ_i (by simpa [Jmp.rows, rwL, rw1] using q)
  | test e b c =>
    have l := elen ok.1 hk
    have ob := ok.2.1
    have oc := ok.2.2
    simp [c_core_jump_rows, List.replicate, Jmp.d, n14, n15, n20, n21]
    refine expr_rows_i hf1 e ok.1.1 ok.1.2 (by omega) ?_
    have l2 : e.rows.length + 2 ≤ 16777216 := by omega
    have l3 : e.rows.length + 1 + 1 ≤ 16777216 := by omega
    simp [ha, nL_at (xs := ads) (i := b) (by omega), nL_at (xs := ads) (i := c) (by omega), l2, l3]
    exact someQ_i (by simpa [Jmp.rows, rwL, rw1] using q)
theorem law_jump_rows_i (hf : P.fn "_law_jump_rows" = some c__law_jump_rows) (hf1 : P.fn "_law_rows" = some c__law_rows) {j : Jmp} (ok : j.Ok half many k size) (hk : k ≤ 8) {a : Nat} {ads : List Nat} (ha : h a = some (.lst (nL ads))) (hs : size ≤ ads.length)
    (q : ∀ b h', Sub h h' → h b = none → h' b = some (.lst (rwL (j.rows (gn ads)))) → Q (.loc b) h') : wC P (n + k + 1) "_law_jump_rows" [j.d, .loc a] h Q X := by
  refine wC_i hf rfl ?_
  cases j with
  | goto b =>
    simp only [Jmp.Ok] at ok
    simp [c__law_jump_rows, List.replicate, Jmp.d, n14, n20, ha, nL_at (xs := ads) (i := b) (by omega)]
    exact fun u nu => someQ_i (q u _ (sub_put nu) nu (by rw [put_self]; simp [Jmp.rows, rwL, rw1]))
  | halt =>
    simp [c__law_jump_rows, List.replicate, Jmp.d, n14, n15]
    exact fun u nu => someQ_i (q u _ (sub_put nu) nu (by rw [put_self]; simp [Jmp.rows, rwL, rw1]))
  | test e b c =>
    have l := elen ok.1 hk
    have ob := ok.2.1
    have oc := ok.2.2
    simp [c__law_jump_rows, List.replicate, Jmp.d, n14, n15, n20, n21]
    refine law_rows_i hf1 e ok.1.1 ok.1.2 (by omega) fun u h1 s1 nu hu => ?_
    have l2 : e.rows.length + 2 ≤ 16777216 := by omega
    have l3 : e.rows.length + 1 + 1 ≤ 16777216 := by omega
    simp [s1 a _ ha, nL_at (xs := ads) (i := b) (by omega), nL_at (xs := ads) (i := c) (by omega), hu, l2, l3]
    exact fun y ny => someQ_i (q y _ (s1.new ny) (s1.free ny) (by rw [put_self]; simp [Jmp.rows, rwL, rw1]))
end
end Cor
end Py
namespace Py
open PySem (Str)
/-- a comprehension over rows of our own -/
theorem comp_g {α : Type} {P : Prog} {n : Nat} {t : Tg} {own : List Nat} {e : Ex} {env : Env} {s : Src} {h : AH} {Q : List D → AH → Prop} (g r : α → D) (xs : List α) (hs0 : s.items = xs.map g) (hc : s.chk h) (hl : xs.length ≤ 16777216)
    (hs : ∀ a ∈ xs, ∀ k : D → AH → Prop, k (r a) h → wTg t (g a) (wipe env own) h fun e2 h3 => wX (wC P n) P.gl e e2 h3 (fun x h4 => rv x h4 k) noX) (hq : Q (xs.map r) h) : CompG (wC P n) P.gl t own e env s h Q := by
  refine comp_by (fun i acc h' => h = h' ∧ acc = (xs.take i).map r) ⟨rfl, by simp⟩ (fun i acc h' _ z => z.1 ▸ hc) ?_ ?_
  · rintro i x acc h' N hx ⟨rfl, rfl⟩ hN
    rw [hs0, List.getElem?_map, Option.map_eq_some_iff] at hx
    obtain ⟨a, ha, rfl⟩ := hx
    refine hs a (List.mem_of_getElem? ha) _ ⟨?_, hN _ _ ⟨rfl, ?_⟩⟩
    · have := (List.getElem?_eq_some_iff.mp ha).1
      rw [List.length_map, List.length_take]; omega
    · rw [take_snoc ha]; simp
  · rintro acc h' ⟨rfl, rfl⟩
    rw [hs0, List.length_map, List.take_length]
    exact hq
namespace Cor

/-! ### at any level that is enough -/
section
variable {P : Prog} {L : Nat} {h : AH} {Q : D → AH → Prop} {X : Xc} {half many k size : Nat}
theorem expr_rows_L (hL : k ≤ L) (hf : P.fn "core_expression_rows" = some c_core_expression_rows) {e : CE} (ok : EOk half many k e) (hk : k ≤ 8) (q : Q (.tup (rwL e.rows)) h) : wC P L "core_expression_rows" [e.d] h Q X := by
  have := expr_rows_i (P := P) (n := 0) (half := half) (many := many) hf e (k := L) (h := h) (Q := Q) (X := X) ok.1 (Nat.le_trans ok.2 hL) (by have := elen ok hk; omega) q
  rwa [Nat.zero_add] at this
theorem law_rows_L (hL : k ≤ L) (hf : P.fn "_law_rows" = some c__law_rows) {e : CE} (ok : EOk half many k e) (hk : k ≤ 8) (q : ∀ a h', Sub h h' → h a = none → h' a = some (.lst (rwL e.rows)) → Q (.loc a) h') : wC P L "_law_rows" [e.d] h Q X := by
  have := law_rows_i (P := P) (n := 0) (half := half) (many := many) hf e (k := L) (h := h) (Q := Q) (X := X) ok.1 (Nat.le_trans ok.2 hL) (by have := elen ok hk; omega) q
  rwa [Nat.zero_add] at this
theorem places_L (hL : k ≤ L) (hf : P.fn "places_for_expression" = some c_places_for_expression) {e : CE} (ok : EOk half many k e) (q : Q (.int e.pl) h) : wC P L "places_for_expression" [e.d] h Q X := by
  have := places_i (P := P) (n := 0) (half := half) (many := many) hf e (k := L) (h := h) (Q := Q) (X := X) ok.1 (Nat.le_trans ok.2 hL) q
  rwa [Nat.zero_add] at this
theorem command_rows_L (hL : k + 1 ≤ L) (hf : P.fn "core_command_rows" = some c_core_command_rows) (hf1 : P.fn "core_expression_rows" = some c_core_expression_rows) {c : Cmd} (ok : c.Ok half many k) (hk : k ≤ 8) (q : Q (.tup (rwL c.rows)) h) : wC P L "core_command_rows" [c.d] h Q X := by
  obtain ⟨n, rfl⟩ : ∃ n, L = n + k + 1 := ⟨L - k - 1, by omega⟩
  exact command_rows_i hf hf1 ok hk q
theorem law_command_rows_L (hL : k + 1 ≤ L) (hf : P.fn "_law_command_rows" = some c__law_command_rows) (hf1 : P.fn "_law_rows" = some c__law_rows) {c : Cmd} (ok : c.Ok half many k) (hk : k ≤ 8) (q : ∀ a h', Sub h h' → h a = none → h' a = some (.lst (rwL c.rows)) → Q (.loc a) h') : wC P L "_law_command_rows" [c.d] h Q X := by
  obtain ⟨n, rfl⟩ : ∃ n, L = n + k + 1 := ⟨L - k - 1, by omega⟩
  exact law_command_rows_i hf hf1 ok hk q
theorem places_cmd_L (hL : k + 1 ≤ L) (hf : P.fn "places_for_command" = some c_places_for_command) (hf1 : P.fn "places_for_expression" = some c_places_for_expression) {c : Cmd} (ok : c.Ok half many k) (q : Q (.int c.pl) h) : wC P L "places_for_command" [c.d] h Q X := by
  obtain ⟨n, rfl⟩ : ∃ n, L = n + k + 1 := ⟨L - k - 1, by omega⟩
  exact places_cmd_i hf hf1 ok q
theorem len_jump_L (hL : k + 1 ≤ L) (hf : P.fn "length_of_jump" = some c_length_of_jump) (hf1 : P.fn "core_expression_rows" = some c_core_expression_rows) {j : Jmp} (ok : j.Ok half many k size) (hk : k ≤ 8) (q : Q (.int j.len) h) : wC P L "length_of_jump" [j.d] h Q X := by
  obtain ⟨n, rfl⟩ : ∃ n, L = n + k + 1 := ⟨L - k - 1, by omega⟩
  exact len_jump_i hf hf1 ok hk q
theorem jump_rows_L (hL : k + 1 ≤ L) (hf : P.fn "core_jump_rows" = some c_core_jump_rows) (hf1 : P.fn "core_expression_rows" = some c_core_expression_rows) {j : Jmp} (ok : j.Ok half many k size) (hk : k ≤ 8) {a : Nat} {ads : List Nat} (ha : h a = some (.lst (nL ads))) (hs : size ≤ ads.length) (q : Q (.tup (rwL (j.rows (gn ads)))) h) : wC P L "core_jump_rows" [j.d, .loc a] h Q X := by
  obtain ⟨n, rfl⟩ : ∃ n, L = n + k + 1 := ⟨L - k - 1, by omega⟩
  exact jump_rows_i hf hf1 ok hk ha hs q
theorem law_jump_rows_L (hL : k + 1 ≤ L) (hf : P.fn "_law_jump_rows" = some c__law_jump_rows) (hf1 : P.fn "_law_rows" = some c__law_rows) {j : Jmp} (ok : j.Ok half many k size) (hk : k ≤ 8) {a : Nat} {ads : List Nat} (ha : h a = some (.lst (nL ads))) (hs : size ≤ ads.length)
    (q : ∀ b h', Sub h h' → h b = none → h' b = some (.lst (rwL (j.rows (gn ads)))) → Q (.loc b) h') : wC P L "_law_jump_rows" [j.d, .loc a] h Q X := by
  obtain ⟨n, rfl⟩ : ∃ n, L = n + k + 1 := ⟨L - k - 1, by omega⟩
  exact law_jump_rows_i hf hf1 ok hk ha hs q
end
/-- all rows -/
def bRows (ad : Nat → Nat) (b : Blk) : List Row := b.1.flatMap Cmd.rows ++ b.2.rows ad
def pRows (bs : List Blk) (ad : Nat → Nat) : List Row := bs.flatMap (bRows ad)
def Pgm.pl (p : Pgm) : Nat := mxN (p.bs.map bPl)
theorem blen_bound {half many k size : Nat} {b : Blk} (ok : BOk half many k size b) (hk : k ≤ 8) : bLen b ≤ 61000 ∧ (lens b).length = b.1.length + 1 := by
  constructor
  · unfold bLen lens
    rw [List.sum_append]
    have key : ∀ cs : List Cmd, (∀ c ∈ cs, c.Ok half many k) → (cs.map fun c => c.rows.length).sum ≤ cs.length * 600 := by
      intro cs
      induction cs with
      | nil => intro _; simp
      | cons c r ih =>
        intro h
        have h1 := clen (h c (by simp)) hk
        have h2 := ih fun x hx => h x (List.mem_cons_of_mem _ hx)
        simp only [List.map_cons,
            List.sum_cons, List.length_cons]
        omega
    have h1 := key b.1 ok.c
    have h2 := ok.n
    have h3 : b.2.len ≤ 300 := by
      have := ok.j
      cases e : b.2 with
      | goto _ => simp [Jmp.len]
      | halt => simp [Jmp.len]
      | test e' _ _ =>
        rw [e] at this
        have := elen this.1 hk
        simp [Jmp.len]
        omega
    simp
    omega
  · simp [lens]
theorem brows_len {ad : Nat → Nat} {b : Blk} : (bRows ad b).length = bLen b := by
  unfold bRows bLen lens
  rw [List.length_append, List.sum_append, jrows_len]
  simp [List.length_flatMap]
theorem prows_len {ad : Nat → Nat} : ∀ bs : List Blk, (pRows bs ad).length = (bs.map bLen).sum
  | [] => rfl
  | b :: r => by
    unfold pRows
    rw [List.flatMap_cons, List.length_append, brows_len, List.map_cons, List.sum_cons]
    congr 1
    exact prows_len r
theorem addr_all {bs : List Blk} : addr bs bs.length = (bs.map bLen).sum := by unfold addr; rw [List.take_length]
theorem addr_le {half k : Nat} {p : Pgm} (ok : POk half k p) (i : Nat) : addr p.bs i ≤ 6100000 := by
  have hk := ok.k
  have key : ∀ bs : List Blk, (∀ b ∈ bs, b ∈ p.bs) → (bs.map bLen).sum ≤ bs.length * 61000 := by
    intro bs
    induction bs with
    | nil => intro _; simp
    | cons b r ih =>
      intro h
      have h1 := (blen_bound (ok.b b (h b (by simp))) hk).1
      have h2 := ih fun x hx => h x (List.mem_cons_of_mem _ hx)
      simp only [List.map_cons,
          List.sum_cons, List.length_cons]
      omega
  have h1 := key (p.bs.take i) fun b hb => List.mem_of_mem_take hb
  have h2 := ok.n
  rw [List.length_take] at h1
  unfold addr
  omega
section
variable {P : Prog} {L : Nat} {h : AH} {Q : D → AH → Prop} {X : Xc} {half many k size : Nat}
structure CC (P : Prog) : Prop where
  er : P.fn "core_expression_rows" = some c_core_expression_rows
  pe : P.fn "places_for_expression" = some c_places_for_expression
  cr : P.fn "core_command_rows" = some c_core_command_rows
  pc : P.fn "places_for_command" = some c_places_for_command
  lj : P.fn "length_of_jump" = some c_length_of_jump
  lb : P.fn "lengths_in_block" = some c_lengths_in_block
  ba : P.fn "core_block_addresses" = some c_core_block_addresses
  jr : P.fn "core_jump_rows" = some c_core_jump_rows
  pb : P.fn "places_for_block" = some c_places_for_block
  rw : P.fn "core_rows" = some c_core_rows
  co : P.fn "compiled_core" = some c_compiled_core
structure CA (P : Prog) : Prop extends CC P where
  ca : P.fn "core_address" = some c_core_address
theorem lens_i (hL : k + 2 ≤ L) (C : CC P) {b : Blk} (ok : BOk half many k size b) (hk : k ≤ 8) (q : ∀ a, h a = none → Q (.loc a) (put h a (.lst (nL (lens b))))) : wC P L "lengths_in_block" [bD b] h Q X := by
  obtain ⟨m, rfl⟩ : ∃ m, L = m + 1 := ⟨L - 1, by omega⟩
  refine wC_i C.lb rfl ?_
  have hn := ok.n
  simp [c_lengths_in_block, List.replicate]
  refine comp_g Cmd.d (fun c => .int c.rows.length) b.1 (by simp) trivial (by omega) (fun c hc z hz => ?_) ?_
  · simp [wipe]
    refine command_rows_L (by omega) C.cr C.er (ok.c c hc) hk ?_
    simp
    exact hz
  · try simp
    refine len_jump_L (by omega) C.lj C.er ok.j hk ?_
    have l1 : b.1.length + 1 ≤ 16777216 := by omega
    simp [l1]
    intro a na
    refine someQ_i ?_
    have e : (b.1.map fun c => D.int c.rows.length) ++ [.int b.2.len] = nL (lens b) := by simp [lens, nL, Function.comp_def]
    rw [e]
    exact q a na
theorem addrs_i (hL : k + 3 ≤ L) (C : CC P) {p : Pgm} (ok : POk half k p) (q : ∀ a h', Sub h h' → h a = none → h' a = some (.lst (nL (adrs p.bs p.bs.length))) → Q (.loc a) h') : wC P L "core_block_addresses" [p.d] h Q X := by
  obtain ⟨m, rfl⟩ : ∃ m, L = m + 1 := ⟨L - 1, by omega⟩
  refine wC_i C.ba rfl ?_
  have hn := ok.n
  simp [c_core_block_addresses, List.replicate]
  intro a na
  refine for_f (fun i env h' => Sub h h' ∧ h' a = some (.lst (nL (adrs p.bs i))) ∧ ∃ o, env = [some p.d, some (.loc a), o]) ⟨sub_put na, by rw [put_self]; rfl, none, rfl⟩ ?_ ?_
  · rintro i x env h' N hx ⟨sb, ha, o, rfl⟩ hN
    rw [List.getElem?_map, Option.map_eq_some_iff] at hx
    obtain ⟨b, hb, rfl⟩ := hx
    have hi := (List.getElem?_eq_some_iff.mp hb).1
    have l1 : (nL (adrs p.bs i)).length < 16777216 := by rw [nL_len, adrs_len]; omega
    simp [ha, adrs_last]
    refine lens_i (by omega) C (ok.b b (List.mem_of_getElem? hb)) ok.k fun u nu => ?_
    have ua : u ≠ a := fun e => by rw [e, ha] at nu; cases nu
    simp [n_suml (put_self (h := h') (a := u))]
    rw [m_app (xs := nL (adrs p.bs i)) (by rw [put_ne ua.symm]; exact ha) l1]
    simp
    refine hN _ _ ⟨(sb.new nu).put na, ?_, _, rfl⟩
    rw [put_self, adrs_s, addr_s hb]
    have e : (lens b).sum = bLen b := rfl
    rw [e]
    simp [nL]
  · rintro env h' ⟨sb, ha, o, rfl⟩
    rw [List.length_map] at ha
    simp
    exact someQ_i (q a h' sb na ha)
theorem nL_cut {xs : List Nat} {j : Nat} (h : j ≤ xs.length) : cut (nL xs) none (some (j : Int)) = nL (xs.take j) := by
  rw [cut_take (by rw [nL_len]; exact h)]
  simp [nL]
theorem address_i (hL : k + 4 ≤ L) (C : CA P) {p : Pgm} (ok : POk half k p) {i j : Nat} {b : Blk} (hb : p.bs[i]? = some b) (hj : j ≤ b.1.length) (q : Q (.int ((addr p.bs i + ((lens b).take j).sum : Nat) : Int)) h) : wC P L "core_address" [p.d, .int i, .int j] h Q X := by
  obtain ⟨m, rfl⟩ : ∃ m, L = m + 1 := ⟨L - 1, by omega⟩
  refine wC_i C.ca rfl ?_
  have hi := (List.getElem?_eq_some_iff.mp hb).1
  have bo := ok.b b (List.mem_of_getElem? hb)
  simp [c_core_address, List.replicate]
  refine addrs_i (by omega) C.toCC ok fun a h1 s1 na ha => ?_
  have e1 : atI (p.bs.map bD) (i : Int) = some (bD b) := atN (by simp [hb])
  simp [ha, nL_at (xs := adrs p.bs p.bs.length) (i := i) (by rw [adrs_len]; omega), adrs_get (bs := p.bs) (n := p.bs.length) (i := i) (by omega), e1]
  refine lens_i (by omega) C.toCC bo ok.k fun u nu => ?_
  have ll := (blen_bound bo ok.k).2
  simp [nL_cut (xs := lens b) (j := j) (by omega), n_sumo]
  refine someQ_s (s1.new nu) ?_
  have e : (addr p.bs i : Int) + (((lens b).take j).sum : Int) = ((addr p.bs i + ((lens b).take j).sum : Nat) : Int) := by omega
  rw [e]
  exact q
theorem places_blk_i (hL : k + 2 ≤ L) (C : CC P) {b : Blk} (ok : BOk half many k size b) (q : Q (.int (bPl b)) h) : wC P L "places_for_block" [bD b] h Q X := by
  obtain ⟨m, rfl⟩ : ∃ m, L = m + 1 := ⟨L - 1, by omega⟩
  refine wC_i C.pb rfl ?_
  have hn := ok.n
  simp [-v_rB, c_places_for_block, List.replicate]
  rw [v_rB]
  simp [-v_rB]
  refine comp_g Cmd.d (fun c => .int c.pl) b.1 (by simp) trivial (by omega) (fun c hc z hz => ?_) ?_
  · simp [wipe]
    refine places_cmd_L (by omega) C.pc C.pe (ok.c c hc) ?_
    try simp
    exact hz
  try simp [-v_rB]
  intro a na
  rw [v_rB]
  have l1 : b.1.length + 1 ≤ 16777216 := by omega
  have key : ∀ pj : Nat, pj = b.2.pl → gd (b1D .max (.o (.lst ((b.1.map fun c => D.int c.pl) ++ [.int pj]))) (put h a (.lst (b.1.map fun c => D.int c.pl)))) (fun r => rv r (put h a (.lst (b.1.map fun c => D.int c.pl))) (someQ Q)) := fun pj e => by
    subst e
    have e2 : (b.1.map fun c => D.int c.pl) ++ [.int b.2.pl] = nL ((b.1.map Cmd.pl) ++ [b.2.pl]) := by simp [nL, Function.comp_def]
    rw [e2]
    cases e3 : (b.1.map Cmd.pl) ++ [b.2.pl] with
    | nil => simp at e3
    | cons x r =>
      rw [n_maxo, ← e3]
      simp
      exact someQ_s (sub_put na) q
  have hj := ok.j
  cases e : b.2 with
  | goto x =>
    simp [Jmp.d, n16, l1]
    exact key 1 (by rw [e]; rfl)
  | halt =>
    simp [Jmp.d, n16, l1]
    exact key 1 (by rw [e]; rfl)
  | test x y z =>
    rw [e] at hj
    simp [Jmp.d, n16]
    refine places_L (by omega) C.pe hj.1 ?_
    simp [l1]
    exact key x.pl (by rw [e]; rfl)
theorem rows_i (hL : k + 4 ≤ L) (C : CC P) {p : Pgm} (ok : POk half k p) (q : Q (.tup (rwL (pRows p.bs (addr p.bs)))) h) : wC P L "core_rows" [p.d] h Q X := by
  obtain ⟨m, rfl⟩ : ∃ m, L = m + 1 := ⟨L - 1, by omega⟩
  refine wC_i C.rw rfl ?_
  have hn := ok.n
  simp [-v_rB, c_core_rows, List.replicate]
  refine addrs_i (by omega) C ok fun a h1 s1 na ha => ?_
  rw [v_rB]
  simp [-v_rB]
  rw [v_rB]
  simp [-v_rB]
  have cap : ∀ i : Nat, (pRows (p.bs.take i) (gn (adrs p.bs p.bs.length))).length ≤ 6100000 := fun i => by
    rw [prows_len]
    exact addr_le ok i
  refine for_f (fun i env h' => h1 = h' ∧ ∃ o3 o4 o5, env = [some p.d, some (.loc a), some (.tup (rwL (pRows (p.bs.take i) (gn (adrs p.bs p.bs.length))))), o3, o4, o5]) ⟨rfl, none, none, none, rfl⟩ ?_ ?_
  · rintro i x env h' N hx ⟨rfl, o3, o4, o5, rfl⟩ hN
    rw [List.getElem?_map, Option.map_eq_some_iff] at hx
    obtain ⟨b, hb, rfl⟩ := hx
    have bo := ok.b b (List.mem_of_getElem? hb)
    have bl := (blen_bound bo ok.k).1
    have cp := cap i
    have eS : pRows (p.bs.take (i + 1)) (gn (adrs p.bs p.bs.length)) = pRows (p.bs.take i) (gn (adrs p.bs p.bs.length)) ++ (b.1.flatMap Cmd.rows ++ b.2.rows (gn (adrs p.bs p.bs.length))) := by
      rw [take_snoc hb]
      simp [pRows, bRows]
    generalize pRows (p.bs.take i) (gn (adrs p.bs p.bs.length)) = R at *
    have fl : (b.1.flatMap Cmd.rows).length + b.2.len = bLen b := by
      rw [← brows_len (ad := fun _ => 0)]
      simp [bRows, jrows_len]
    have fj : ∀ j, ((b.1.take j).flatMap Cmd.rows).length ≤ (b.1.flatMap Cmd.rows).length := fun j => by
      have : b.1.flatMap Cmd.rows = (b.1.take j).flatMap Cmd.rows ++ (b.1.drop j).flatMap Cmd.rows := by rw [← List.flatMap_append, List.take_append_drop]
      rw [this, List.length_append]
      omega
    simp [-v_rB]
    refine for_f (fun j env h' => h1 = h' ∧ ∃ o5, env = [some p.d, some (.loc a), some (.tup (rwL (R ++ (b.1.take j).flatMap Cmd.rows))), some (.tup (b.1.map Cmd.d)), some b.2.d, o5]) ⟨rfl, o5, by simp⟩ ?_ ?_
    · rintro j x env h' N2 hx ⟨rfl, o5, rfl⟩ hN2
      rw [List.getElem?_map, Option.map_eq_some_iff] at hx
      obtain ⟨c, hc, rfl⟩ := hx
      simp
      refine command_rows_L (by omega) C.cr C.er (bo.c c (List.mem_of_getElem? hc)) ok.k ?_
      have l0 := fj (j + 1)
      rw [take_snoc hc, List.flatMap_append, List.length_append] at l0
      have l1 : (rwL (R ++ (b.1.take j).flatMap Cmd.rows)).length + (rwL c.rows).length ≤ 16777216 := by
        have e1 : ([c].flatMap Cmd.rows).length = c.rows.length := by simp
        rw [e1] at l0
        rw [rwL_len, rwL_len, List.length_append]
        omega
      rw [o_addt l1]
      simp
      refine hN2 _ _ ⟨rfl, some c.d, ?_⟩
      rw [take_snoc hc, rwL_app]
      simp
    · rintro env h' ⟨rfl, o5, rfl⟩
      rw [List.length_map,
          List.take_length]
      simp
      refine jump_rows_L (ads := adrs p.bs p.bs.length) (by omega) C.jr C.er bo.j ok.k ha (by rw [adrs_len]; omega) ?_
      have l1 : (rwL (R ++ b.1.flatMap Cmd.rows)).length + (rwL (b.2.rows (gn (adrs p.bs p.bs.length)))).length ≤ 16777216 := by
        rw [rwL_len, rwL_len, List.length_append, jrows_len]
        omega
      rw [o_addt l1]
      simp
      refine hN _ _ ⟨rfl, some (.tup (b.1.map Cmd.d)), some b.2.d, o5, ?_⟩
      rw [eS, rwL_app]
      simp
  · rintro env h' ⟨rfl, o3, o4, o5, rfl⟩
    rw [List.length_map,
        List.take_length]
    simp
    refine someQ_s s1 ?_
    have e : pRows p.bs (gn (adrs p.bs p.bs.length)) = pRows p.bs (addr p.bs) := by
      have key : ∀ bs : List Blk, (∀ b ∈ bs, b ∈ p.bs) → pRows bs (gn (adrs p.bs p.bs.length)) = pRows bs (addr p.bs) := by
        intro bs
        induction bs with
        | nil => intro _; rfl
        | cons b r ih =>
          intro hm
          have bo := (ok.b b (hm b (by simp))).j
          unfold pRows at ih ⊢
          rw [List.flatMap_cons, List.flatMap_cons, ih fun x hx => hm x (List.mem_cons_of_mem _ hx)]
          congr 1
          unfold bRows
          congr 1
          cases ej : b.2 with
          | goto x =>
            rw [ej] at bo
            simp only [Jmp.Ok] at bo
            simp [Jmp.rows, adrs_get (bs := p.bs) (n := p.bs.length) (i := x) (by omega)]
          | halt => rfl
          | test x y z =>
            rw [ej] at bo
            have b1 := bo.2.1
            have b2 := bo.2.2
            simp [Jmp.rows, adrs_get (bs := p.bs) (n := p.bs.length) (i := y) (by omega), adrs_get (bs := p.bs) (n := p.bs.length) (i := z) (by omega)]
      exact key p.bs fun _ h => h
    rw [e]
    exact q
theorem compiled_i (hL : k + 5 ≤ L) (C : CC P) {p : Pgm} (ok : POk half k p) {w c l : Int} (q : Q (.tup [.int w, .int l, .int p.pl, .int p.many, .int c, .tup (rwL (pRows p.bs (addr p.bs)))]) h) : wC P L "compiled_core" [p.d, .tup [.int w, .int c, .int l]] h Q X := by
  obtain ⟨m, rfl⟩ : ∃ m, L = m + 1 := ⟨L - 1, by omega⟩
  refine wC_i C.co rfl ?_
  have hn := ok.n
  simp [-v_rB, c_compiled_core, List.replicate]
  rw [v_rB]
  simp [-v_rB]
  refine comp_g bD (fun b => .int (bPl b)) p.bs (by simp) trivial (by omega) (fun b hb z hz => ?_) ?_
  · simp [wipe]
    refine places_blk_i (by omega) C (ok.b b hb) ?_
    try simp
    exact hz
  have e2 : (p.bs.map fun b => D.int (bPl b)) = nL (p.bs.map bPl) := by simp [nL, Function.comp_def]
  rw [e2]
  cases e3 : p.bs.map bPl with
  | nil =>
    have h1 := ok.s
    have h2 := congrArg List.length e3
    rw [List.length_map, List.length_nil] at h2
    omega
  | cons x r =>
    rw [n_maxo, ← e3]
    try simp [-v_rB]
    rw [v_rB]
    try simp [-v_rB]
    refine rows_i (by omega) C ok ?_
    try simp
    exact someQ_i q
end
end Cor
end Py
namespace Py
open PySem (Str)
/-! ### bits and gates -/
def c_bits_of_word : Fn := ⟨2, 4, (.cons (.asg (.nm 2) (.lst .nil)) (.cons (.for_ (.nm 3) (.rng1 (.var 1)) (.cons (.expr (.mt .append (.var 2) (.cons (.bin .mod (.var 0) (.lit (.int 2))) .nil))) (.cons (.asg (.nm 0) (.bin .fdiv (.var 0) (.lit (.int 2)))) .nil))) (.cons (.ret (.b1 .tup (.var 2))) .nil)))⟩
def c_first_gate : Fn := ⟨1, 1, (.cons (.ret (.bin .add (.bin .add (.lit (.int 2)) (.ix (.var 0) (.lit (.int 0)))) (.b1 .len (.ix (.var 0) (.lit (.int 1)))))) .nil)⟩
def c_wires_of : Fn := ⟨1, 1, (.cons (.ret (.bin .add (.call "first_gate" (.cons (.var 0) .nil)) (.b1 .len (.ix (.var 0) (.lit (.int 2)))))) .nil)⟩
def c_bits_with_gates : Fn := ⟨2, 4, (.cons (.asg (.nm 0) (.b1 .lst (.var 0))) (.cons (.for_ (.tp (.cons (.nm 2) (.cons (.nm 3) .nil))) (.seq (.var 1)) (.cons (.expr (.mt .append (.var 0) (.cons (.bin .sub (.lit (.int 1)) (.bin .mul (.ix (.var 0) (.var 2)) (.ix (.var 0) (.var 3)))) .nil))) .nil)) (.cons (.ret (.b1 .tup (.var 0))) .nil)))⟩
def c_told_wires : Fn := ⟨3, 3, (.cons (.ret (.bin .add (.bin .add (.tup (.cons (.lit (.int 0)) (.cons (.lit (.int 1)) .nil))) (.call "bits_of_word" (.cons (.var 2) (.cons (.ix (.var 0) (.lit (.int 0))) .nil)))) (.var 1))) .nil)⟩
def c_wire_bits : Fn := ⟨3, 3, (.cons (.ret (.call "bits_with_gates" (.cons (.call "told_wires" (.cons (.var 0) (.cons (.var 1) (.cons (.var 2) .nil)))) (.cons (.ix (.var 0) (.lit (.int 2))) .nil)))) .nil)⟩
def c_step_of_gates : Fn := ⟨3, 7, (.cons (.asg (.nm 3) (.call "wire_bits" (.cons (.var 0) (.cons (.var 1) (.cons (.var 2) .nil))))) (.cons (.ret (.b1 .tup (.comp (.tp (.cons (.nm 5) (.cons (.nm 6) .nil))) (.seq (.ix (.var 0) (.lit (.int 1)))) [4, 5, 6] (.ix (.var 3) (.var 6))))) .nil))⟩
def c_begin_of_gates : Fn := ⟨1, 4, (.cons (.ret (.b1 .tup (.comp (.tp (.cons (.nm 2) (.cons (.nm 3) .nil))) (.seq (.ix (.var 0) (.lit (.int 1)))) [1, 2, 3] (.var 2)))) .nil)⟩
def c__law_bits : Fn := ⟨2, 4, (.cons (.asg (.nm 2) (.lst .nil)) (.cons (.for_ (.nm 3) (.rng1 (.var 1)) (.cons (.expr (.mt .append (.var 2) (.cons (.bin .mod (.b1 .int (.var 0)) (.lit (.int 2))) .nil))) (.cons (.asg (.nm 0) (.bin .fdiv (.var 0) (.lit (.int 2)))) .nil))) (.cons (.ret (.b1 .tup (.var 2))) .nil)))⟩
def c__law_wires : Fn := ⟨3, 6, (.cons (.asg (.nm 3) (.bin .add (.bin .add (.lst (.cons (.lit (.int 0)) (.cons (.lit (.int 1)) .nil))) (.b1 .lst (.call "_law_bits" (.cons (.var 2) (.cons (.ix (.var 0) (.lit (.int 0))) .nil))))) (.b1 .lst (.var 1)))) (.cons (.for_ (.tp (.cons (.nm 4) (.cons (.nm 5) .nil))) (.seq (.ix (.var 0) (.lit (.int 2)))) (.cons (.expr (.mt .append (.var 3) (.cons (.ite (.and (.cmp .eq (.ix (.var 3) (.var 4)) (.lit (.int 1))) (.cmp .eq (.ix (.var 3) (.var 5)) (.lit (.int 1)))) (.lit (.int 0)) (.lit (.int 1))) .nil))) .nil)) (.cons (.ret (.var 3)) .nil)))⟩
/-- the low bits of a word -/
def bow : Nat → Int → List Int
  | 0, _ => []
  | n + 1, w => w % 2 :: bow n (w / 2)
theorem bow_len : ∀ (n : Nat) (w : Int), (bow n w).length = n
  | 0, _ => rfl
  | n + 1, w => by rw [bow, List.length_cons, bow_len n]
theorem bow_app : ∀ (n : Nat) (w : Int), bow (n + 1) w = bow n w ++ [w / 2 ^ n % 2]
  | 0, w => by simp [bow]
  | n + 1, w => by
    rw [bow, bow_app n (w / 2), bow]
    simp
    rw [Int.ediv_ediv_of_nonneg (by decide), Int.pow_succ, Int.mul_comm]
theorem bow_step (n : Nat) (w : Int) : w / 2 ^ n / 2 = w / 2 ^ (n + 1) := by
  rw [Int.ediv_ediv_of_nonneg (Int.pow_nonneg (by decide)), Int.pow_succ]
theorem bow_bit : ∀ (n : Nat) (w : Int), ∀ b ∈ bow n w, b = 0 ∨ b = 1
  | 0, _, b, h => by cases h
  | n + 1, w, b, h => by
    rw [bow, List.mem_cons] at h
    rcases h with rfl | h
    · omega
    · exact bow_bit n _ b h
theorem bits_of_word_i {P : Prog} (hf : P.fn "bits_of_word" = some c_bits_of_word) {n k : Nat} {w : Int} {h : AH} {Q : D → AH → Prop} {X : Xc} (hk : k ≤ 16777216) (q : Q (.tup (iL (bow k w))) h) : wC P (n + 1) "bits_of_word" [.int w, .int k] h Q X := by
  have hw : small62 (k : Int) = true := by simp [small62]; omega
  refine wC_i hf rfl ?_
  simp [c_bits_of_word, List.replicate, hw]
  intro a na
  refine for_f (fun i env h' => h' = put h a (.lst (iL (bow i w))) ∧ ∃ o, env = [some (.int (w / 2 ^ i)), some (.int k), some (.loc a), o]) ⟨rfl, none, by simp⟩ ?_ ?_
  · rintro i x env h' N hx ⟨rfl, o, rfl⟩ hN
    obtain ⟨hi, rfl⟩ := rngL_at hx
    have hi' : i < 16777216 := by omega
    simp [mtChk, ltV, ob, mtD, mLs, binD, intOp, iL_len, bow_len, hi']
    exact hN _ _ ⟨by rw [bow_app]; simp [iL], some (.int i), by rw [bow_step]⟩
  · rintro env h' ⟨rfl, o, rfl⟩
    simp [b1D, sqV, lsV, ob]
    exact someQ_s (sub_put na) q
theorem law_bits_i {P : Prog} (hf : P.fn "_law_bits" = some c__law_bits) {n k : Nat} {w : Int} {h : AH} {Q : D → AH → Prop} {X : Xc} (hk : k ≤ 16777216) (q : Q (.tup (iL (bow k w))) h) : wC P (n + 1) "_law_bits" [.int w, .int k] h Q X := by
  have hw : small62 (k : Int) = true := by simp [small62]; omega
  refine wC_i hf rfl ?_
  simp [c__law_bits, List.replicate, hw]
  intro a na
  refine for_f (fun i env h' => h' = put h a (.lst (iL (bow i w))) ∧ ∃ o, env = [some (.int (w / 2 ^ i)), some (.int k), some (.loc a), o]) ⟨rfl, none, by simp⟩ ?_ ?_
  · rintro i x env h' N hx ⟨rfl, o, rfl⟩ hN
    obtain ⟨hi, rfl⟩ := rngL_at hx
    have hi' : i < 16777216 := by omega
    simp [mtChk, ltV, ob, mtD, mLs, binD, intOp, iL_len, bow_len, hi', b1D]
    exact hN _ _ ⟨by rw [bow_app]; simp [iL], some (.int i), by rw [bow_step]⟩
  · rintro env h' ⟨rfl, o, rfl⟩
    simp [b1D, sqV, lsV, ob]
    exact someQ_s (sub_put na) q
/-! gates -/
abbrev Gate := Nat × Nat
def gD (gs : List Gate) : List D := gs.map fun g => .tup [.int g.1, .int g.2]
/-- the bit at a place -/
def gt (bs : List Int) (i : Nat) : Int := bs[i]?.getD 0
def nand (bs : List Int) (g : Gate) : Int := 1 - gt bs g.1 * gt bs g.2
def gw (bs : List Int) : List Gate → List Int
  | [] => bs
  | g :: r => gw (bs ++ [nand bs g]) r
theorem gw_len : ∀ (gs : List Gate) (bs : List Int), (gw bs gs).length = bs.length + gs.length
  | [], bs => rfl
  | g :: r, bs => by rw [gw, gw_len r]; simp; omega
theorem gw_snoc : ∀ (gs : List Gate) (bs : List Int) (g : Gate), gw bs (gs ++ [g]) = gw bs gs ++ [nand (gw bs gs) g]
  | [], bs, g => rfl
  | x :: r, bs, g => by rw [List.cons_append, gw, gw_snoc r, gw]
/-- each gate leads from wires ahead of it -/
def Wf (first : Nat) (gs : List Gate) : Prop := ∀ (k : Nat) (g : Gate), gs[k]? = some g → g.1 < first + k ∧ g.2 < first + k
def Bits (bs : List Int) : Prop := ∀ b ∈ bs, b = 0 ∨ b = 1
theorem Bits.get {bs : List Int} (h : Bits bs) {i : Nat} (hi : i < bs.length) : gt bs i = 0 ∨ gt bs i = 1 := by
  unfold gt
  rw [List.getElem?_eq_getElem hi]
  exact h _ (List.getElem_mem hi)
theorem Bits.get0 {bs : List Int} (h : Bits bs) (i : Nat) : gt bs i = 0 ∨ gt bs i = 1 := by
  by_cases hi : i < bs.length
  · exact h.get hi
  · left
    unfold gt
    rw [List.getElem?_eq_none
        (by omega)]
    rfl
theorem gt_lt {bs : List Int} (h : Bits bs) (i : Nat) : -18446744073709551616 < gt bs i ∧ gt bs i < 18446744073709551616 := by
  rcases h.get0 i with e | e <;> rw [e] <;> decide
theorem nand_bit {bs : List Int} (h : Bits bs) (g : Gate) : nand bs g = 0 ∨ nand bs g = 1 := by
  unfold nand
  rcases h.get0 g.1 with e | e <;> rcases h.get0 g.2 with e2 | e2 <;> rw [e, e2] <;> decide
theorem nand_if {bs : List Int} (h : Bits bs) (g : Gate) : (if gt bs g.1 = 1 ∧ gt bs g.2 = 1 then (0 : Int) else 1) = nand bs g := by
  unfold nand
  rcases h.get0 g.1 with e | e <;> rcases h.get0 g.2 with e2 | e2 <;> rw [e, e2] <;> decide
theorem Bits.app {bs cs : List Int} (h : Bits bs) (h' : Bits cs) : Bits (bs ++ cs) := fun b hb => (List.mem_append.mp hb).elim (h b) (h' b)
theorem gw_bits : ∀ (gs : List Gate) (bs : List Int), Bits bs → Bits (gw bs gs)
  | [], bs, h => h
  | g :: r, bs, h => gw_bits r _ (h.app fun b hb => by rw [List.mem_singleton.mp hb]; exact nand_bit h g)
theorem iL_getD {bs : List Int} {i : Nat} (hi : i < bs.length) : atI (iL bs) (i : Int) = some (.int (gt bs i)) := by
  simp [atI, ixN, iL, hi, gt]
theorem gD_at {gs : List Gate} {i : Nat} {x : D} (h : (gD gs)[i]? = some x) : ∃ g, gs[i]? = some g ∧ x = .tup [.int g.1, .int g.2] := by
  simp only [gD, List.getElem?_map, Option.map_eq_some_iff] at h
  obtain ⟨g, h1, h2⟩ := h
  exact ⟨g, h1, h2.symm⟩
theorem bits_with_gates_i {P : Prog} (hf : P.fn "bits_with_gates" = some c_bits_with_gates) {n : Nat} {bs : List Int} {gs : List Gate} {h : AH} {Q : D → AH → Prop} {X : Xc} (hB : Bits bs) (hw : Wf bs.length gs) (hl : bs.length + gs.length ≤ 16777216) (q : Q (.tup (iL (gw bs gs))) h) :
    wC P (n + 1) "bits_with_gates" [.tup (iL bs), .tup (gD gs)] h Q X := by
  refine wC_i hf rfl ?_
  simp [c_bits_with_gates, List.replicate, b1D, sqV, srcOf]
  intro a na
  refine for_f (fun i env h' => h' = put h a (.lst (iL (gw bs (gs.take i)))) ∧ ∃ o o2, env = [some (.loc a), some (.tup (gD gs)), o, o2]) ⟨rfl, none, none, rfl⟩ ?_ ?_
  · rintro i x env h' N hx ⟨rfl, o, o2, rfl⟩ hN
    obtain ⟨g, hg, rfl⟩ := gD_at hx
    obtain ⟨g1, g2⟩ := hw i g hg
    have hi : i < gs.length := (List.getElem?_eq_some_iff.mp hg).1
    have e : (gw bs (gs.take i)).length = bs.length + i := by rw [gw_len, List.length_take]; omega
    have a1 := iL_getD (bs := gw bs (gs.take i)) (i := g.1) (by omega)
    have a2 := iL_getD (bs := gw bs (gs.take i)) (i := g.2) (by omega)
    have b1 : (gw bs (gs.take i)).length < 16777216 := by omega
    have m1 := gt_lt (gw_bits (gs.take i) bs hB) g.1
    simp [sqV, mtChk, ltV, ob, mtD, mLs, binD, intOp, iL_len, ixD, lsV, a1, a2, mulD, mulOk, m1, b1]
    exact hN _ _ ⟨by rw [take_snoc hg, gw_snoc]; simp [iL, nand], _, _, rfl⟩
  · rintro env h' ⟨rfl, o, o2, rfl⟩
    simp [b1D, sqV, lsV, ob, gD]
    exact someQ_s (sub_put na) q
end Py
namespace Py
open PySem (Str)
def c_power_of_two : Fn := ⟨1, 3, (.cons (.asg (.nm 1) (.lit (.int 1))) (.cons (.for_ (.nm 2) (.rng1 (.var 0)) (.cons (.asg (.nm 1) (.bin .mul (.lit (.int 2)) (.var 1))) .nil)) (.cons (.ret (.var 1)) .nil)))⟩
def c_half_of_wide : Fn := ⟨1, 1, (.cons (.ret (.call "power_of_two" (.cons (.bin .sub (.var 0) (.lit (.int 1))) .nil))) .nil)⟩
def c_is_reference : Fn := ⟨2, 2, (.cons (.ret (.cmp .ge (.var 0) (.call "half_of_wide" (.cons (.var 1) .nil)))) .nil)⟩
def c_cell_of : Fn := ⟨2, 2, (.cons (.ret (.bin .sub (.var 0) (.call "half_of_wide" (.cons (.var 1) .nil)))) .nil)⟩
def c_cells_among : Fn := ⟨2, 4, (.cons (.asg (.nm 2) (.lst .nil)) (.cons (.for_ (.nm 3) (.seq (.var 0)) (.cons (.ifs (.and (.call "is_reference" (.cons (.var 3) (.cons (.var 1) .nil))) (.cmp .nin (.call "cell_of" (.cons (.var 3) (.cons (.var 1) .nil))) (.var 2))) (.cons (.expr (.mt .append (.var 2) (.cons (.call "cell_of" (.cons (.var 3) (.cons (.var 1) .nil))) .nil))) .nil) .nil) .nil)) (.cons (.ret (.var 2)) .nil)))⟩
def c_items_of_cell : Fn := ⟨2, 2, (.cons (.ret (.ite (.isc false (.ix (.var 0) (.var 1)) .non) (.tup .nil) (.ix (.var 0) (.var 1)))) .nil)⟩
def c_cells_found : Fn := ⟨3, 6, (.cons (.asg (.nm 3) (.call "cells_among" (.cons (.var 1) (.cons (.var 2) .nil)))) (.cons (.asg (.nm 4) (.lit (.int 0))) (.cons (.whl (.cmp .lt (.var 4) (.b1 .len (.var 3))) (.cons (.for_ (.nm 5) (.seq (.call "cells_among" (.cons (.call "items_of_cell" (.cons (.var 0) (.cons (.ix (.var 3) (.var 4)) .nil))) (.cons (.var 2) .nil)))) (.cons (.ifs (.cmp .nin (.var 5) (.var 3)) (.cons (.expr (.mt .append (.var 3) (.cons (.var 5) .nil))) .nil) .nil) .nil)) (.cons (.aug 4 .add (.lit (.int 1))) .nil))) (.cons (.ret (.var 3)) .nil))))⟩
def c_cells_come_to : Fn := ⟨3, 3, (.cons (.ret (.b1 .tup (.b1 .sorted (.call "cells_found" (.cons (.var 0) (.cons (.var 1) (.cons (.var 2) .nil))))))) .nil)⟩
def c_judge_come_to : Fn := ⟨4, 7, (.cons (.ifs (.not (.b1 .all (.comp (.nm 5) (.seq (.var 2)) [4, 5] (.chain .le .lt (.lit (.int 0)) (.var 5) (.b1 .len (.var 0)))))) (.cons (.ret (.lit (.bl false))) .nil) .nil) (.cons (.ifs (.not (.b1 .all (.comp (.nm 5) (.seq (.call "cells_among" (.cons (.var 1) (.cons (.var 3) .nil)))) [4, 5] (.cmp .inn (.var 5) (.var 2))))) (.cons (.ret (.lit (.bl false))) .nil) .nil) (.cons (.ret (.b1 .all (.comp2 (.nm 5) (.seq (.var 2)) [4, 5, 6] (.nm 6) (.seq (.call "cells_among" (.cons (.call "items_of_cell" (.cons (.var 0) (.cons (.var 5) .nil))) (.cons (.var 3) .nil)))) [6] (.cmp .inn (.var 6) (.var 2))))) .nil)))⟩
/-! ### words -/
section
variable {P : Prog} {n : Nat} {h : AH} {Q : D → AH → Prop} {X : Xc}
theorem power_of_two_i (hf : P.fn "power_of_two" = some c_power_of_two) {w : Nat} (hw : w ≤ 1000000) (q : Q (.int ((2 ^ w : Nat) : Int)) h) : wC P (n + 1) "power_of_two" [.int w] h Q X := by
  have s1 : small62 (w : Int) = true := by simp [small62]; omega
  have m2 : ml 2 := ml_of (by decide) (by decide)
  refine wC_i hf rfl ?_
  simp [c_power_of_two, List.replicate, s1]
  refine for_f (fun i env h' => h = h' ∧ ∃ o, env = [some (.int w), some (.int (2 ^ i)), o]) ⟨rfl, none, by simp⟩ ?_ ?_
  · rintro i x env h' N hx ⟨rfl, o, rfl⟩ hN
    simp [m2, two_pow]
    exact hN _ _ ⟨rfl, _, rfl⟩
  · rintro env h' ⟨rfl, o, rfl⟩
    simp
    exact someQ_i (by simpa using q)
def hf2 (wide : Nat) : Nat := 2 ^ (wide - 1)
theorem half_of_wide_i (hf : P.fn "half_of_wide" = some c_half_of_wide) (hf1 : P.fn "power_of_two" = some c_power_of_two) {w : Nat} (h1 : 1 ≤ w) (hw : w ≤ 1000000) (q : Q (.int (hf2 w)) h) : wC P (n + 2) "half_of_wide" [.int w] h Q X := by
  refine wC_i hf rfl ?_
  have e : (w : Int) - 1 = ((w - 1 : Nat) : Int) := by omega
  simp [c_half_of_wide, e]
  exact power_of_two_i hf1 (by omega) (someQ_i q)
theorem is_reference_i (hf : P.fn "is_reference" = some c_is_reference) (hf0 : P.fn "half_of_wide" = some c_half_of_wide) (hf1 : P.fn "power_of_two" = some c_power_of_two) {v w : Nat} (h1 : 1 ≤ w) (hw : w ≤ 1000000) (q : Q (.bl (decide (hf2 w ≤ v))) h) : wC P (n + 3) "is_reference" [.int v, .int w] h Q X := by
  refine wC_i hf rfl ?_
  simp [c_is_reference]
  refine half_of_wide_i hf0 hf1 h1 hw ?_
  simp
  exact someQ_i q
theorem cell_of_i (hf : P.fn "cell_of" = some c_cell_of) (hf0 : P.fn "half_of_wide" = some c_half_of_wide) (hf1 : P.fn "power_of_two" = some c_power_of_two) {v w : Nat} (h1 : 1 ≤ w) (hw : w ≤ 1000000) (hv : hf2 w ≤ v) (q : Q (.int ((v - hf2 w : Nat) : Int)) h) : wC P (n + 3) "cell_of" [.int v, .int w] h Q X := by
  refine wC_i hf rfl ?_
  simp [c_cell_of]
  refine half_of_wide_i hf0 hf1 h1 hw ?_
  have e : (v : Int) - (hf2 w : Int) = ((v - hf2 w : Nat) : Int) := by omega
  simp [e]
  exact someQ_i q
end
/-! ### cells -/
/-- one more, if it is not there -/
def ins1 (xs : List Nat) (x : Nat) : List Nat := if x ∈ xs then xs else xs ++ [x]
def insL (xs ys : List Nat) : List Nat := ys.foldl ins1 xs
theorem ins1_mem {xs : List Nat} {x y : Nat} : y ∈ ins1 xs x ↔ y ∈ xs ∨ y = x := by
  unfold ins1
  split
  · rename_i h
    exact ⟨.inl, fun z => z.elim id fun e => e ▸ h⟩
  · simp
theorem insL_mem {y : Nat} : ∀ {ys xs : List Nat}, y ∈ insL xs ys ↔ y ∈ xs ∨ y ∈ ys
  | [], xs => by simp [insL]
  | x :: ys, xs => by
    show y ∈ insL (ins1 xs x) ys ↔ _
    rw [insL_mem (ys := ys), ins1_mem, List.mem_cons, or_assoc]
theorem ins1_nd {xs : List Nat} {x : Nat} (h : xs.Nodup) : (ins1 xs x).Nodup := by
  unfold ins1
  split
  · exact h
  · rename_i z
    rw [List.nodup_append]
    exact ⟨h, by simp, fun a ha b hb e => by rw [List.mem_singleton.mp hb] at e; exact z (e ▸ ha)⟩
theorem insL_nd : ∀ {ys xs : List Nat}, xs.Nodup → (insL xs ys).Nodup
  | [], xs, h => h
  | y :: ys, xs, h => insL_nd (ys := ys) (ins1_nd h)
theorem ins1_pre {xs : List Nat} {x : Nat} : ∃ e, ins1 xs x = xs ++ e := by
  unfold ins1
  split
  · exact ⟨[], by simp⟩
  · exact ⟨_, rfl⟩
theorem insL_pre : ∀ {ys xs : List Nat}, ∃ e, insL xs ys = xs ++ e
  | [], xs => ⟨[], by simp [insL]⟩
  | y :: ys, xs => by
    obtain ⟨e1, h1⟩ := ins1_pre (xs := xs) (x := y)
    obtain ⟨e2, h2⟩ := insL_pre (ys := ys) (xs := ins1 xs y)
    refine ⟨e1 ++ e2, ?_⟩
    show insL (ins1 xs y) ys = _
    rw [h2, h1, List.append_assoc]
theorem insL_snoc {xs ys : List Nat} {y : Nat} : insL xs (ys ++ [y]) = ins1 (insL xs ys) y := by simp [insL]
theorem ins1_in {xs : List Nat} {x : Nat} (h : x ∈ xs) : ins1 xs x = xs := by unfold ins1; rw [if_pos h]
theorem insL_in : ∀ {ys xs : List Nat}, (∀ y ∈ ys, y ∈ xs) → insL xs ys = xs
  | [], xs, _ => rfl
  | y :: ys, xs, h => by
    show insL (ins1 xs y) ys = xs
    rw [ins1_in (h y (by simp))]
    exact insL_in fun z hz => h z (List.mem_cons_of_mem _ hz)
/-- each once or not: alike behind others -/
theorem insL_dd : ∀ {ys zs xs : List Nat}, insL xs (insL zs ys) = insL (insL xs zs) ys
  | [], zs, xs => rfl
  | y :: ys, zs, xs => by
    show insL xs (insL (ins1 zs y) ys) = insL (ins1 (insL xs zs) y) ys
    rw [insL_dd (ys := ys)]
    congr 1
    unfold ins1
    split
    · rename_i h
      rw [if_pos (insL_mem.mpr (.inr h))]
    · rw [insL_snoc]
      rfl
theorem insL_len {B : Nat} : ∀ {ys xs : List Nat}, (insL xs ys).length ≤ xs.length + ys.length
  | [], xs => Nat.le_refl _
  | y :: ys, xs => by
    have := insL_len (B := B) (ys := ys) (xs := ins1 xs y)
    have h2 : (ins1 xs y).length ≤ xs.length + 1 := by unfold ins1; split <;> simp
    show (insL (ins1 xs y) ys).length ≤ _
    simp only [List.length_cons]
    omega
theorem nd_len : ∀ {B : Nat} {xs : List Nat}, xs.Nodup → (∀ x ∈ xs, x < B) → xs.length ≤ B := by
  intro B xs nd hb
  have := List.Nodup.length_le_of_subset nd (l₂ := List.range B) fun x hx => List.mem_range.mpr (hb x hx)
  simpa using this
/-- the references among some values -/
def refs (half : Nat) (vs : List Nat) : List Nat := vs.filterMap fun v => if half ≤ v then some (v - half) else none
def itm : Option (Nat × Nat) → List Nat
  | none => []
  | some (a, b) => [a, b]
def cD : Option (Nat × Nat) → D
  | none => .non
  | some (a, b) => .tup [.int a, .int b]
abbrev Cs := List (Option (Nat × Nat))
def csD (cs : Cs) : List D := cs.map cD
@[simp] theorem csD_len {cs : Cs} : (csD cs).length = cs.length := by simp [csD]
def itms (cs : Cs) (c : Nat) : List Nat := itm (cs[c]?.getD none)
theorem csD_at {cs : Cs} {c : Nat} (h : c < cs.length) : atI (csD cs) (c : Int) = some (cD (cs[c]?.getD none)) := atN (by simp [csD, h])
theorem refs_snoc {half v : Nat} {vs : List Nat} : refs half (vs ++ [v]) = refs half vs ++ if half ≤ v then [v - half] else [] := by
  unfold refs
  rw [List.filterMap_append]
  congr 1
  by_cases h : half ≤ v <;> simp [h]
theorem refs_len {half : Nat} {vs : List Nat} : (refs half vs).length ≤ vs.length := List.length_filterMap_le _ _
theorem itm_len {o : Option (Nat × Nat)} : (itm o).length ≤ 2 := by
  cases o with
  | none => simp [itm]
  | some p => simp [itm]
structure Cel (P : Prog) : Prop where
  p2 : P.fn "power_of_two" = some c_power_of_two
  half : P.fn "half_of_wide" = some c_half_of_wide
  isr : P.fn "is_reference" = some c_is_reference
  co : P.fn "cell_of" = some c_cell_of
  ca : P.fn "cells_among" = some c_cells_among
  ioc : P.fn "items_of_cell" = some c_items_of_cell
  cf : P.fn "cells_found" = some c_cells_found
  cct : P.fn "cells_come_to" = some c_cells_come_to
section
variable {P : Prog} {n : Nat} {h : AH} {Q : D → AH → Prop} {X : Xc} {w : Nat} {cs : Cs}
theorem cells_among_i (C : Cel P) (h1 : 1 ≤ w) (hw : w ≤ 1000000) {vs : List Nat} (hv : vs.length ≤ 100000) (q : ∀ a, h a = none → Q (.loc a) (put h a (.lst (nL (insL [] (refs (hf2 w) vs)))))) : wC P (n + 4) "cells_among" [.tup (nL vs), .int w] h Q X := by
  refine wC_i C.ca rfl ?_
  simp [c_cells_among, List.replicate]
  intro a na
  refine for_f (fun i env h' => h' = put h a (.lst (nL (insL [] (refs (hf2 w) (vs.take i))))) ∧ ∃ o, env = [some (.tup (nL vs)), some (.int w), some (.loc a), o]) ⟨rfl, none, rfl⟩ ?_ ?_
  · rintro i x env h' N hx ⟨rfl, o, rfl⟩ hN
    obtain ⟨v, hvi, rfl⟩ : ∃ v, vs[i]? = some v ∧ x = .int (v : Nat) := by
      simp only [nL, List.getElem?_map, Option.map_eq_some_iff] at hx
      obtain ⟨v, a, b⟩ := hx
      exact ⟨v, a, b.symm⟩
    have et := refs_snoc (half := hf2 w) (v := v) (vs := vs.take i)
    rw [← take_snoc hvi] at et
    have len : (insL [] (refs (hf2 w) (vs.take i))).length < 16777216 := by
      have l1 := insL_len (B := 0) (xs := []) (ys := refs (hf2 w) (vs.take i))
      have l2 := refs_len (half := hf2 w) (vs := vs.take i)
      rw [List.length_take] at l2
      simp only [List.length_nil] at l1
      omega
    simp only [v_cons, v_ifs, v_and, v_call, v_esc, v_esn, v_var, v_lkS, v_lk0, gd_some, rv_v, v_tnm, List.set_cons_succ, List.set_cons_zero]
    refine is_reference_i C.isr C.half C.p2 h1 hw ?_
    by_cases z : hf2 w ≤ v
    · rw [if_pos z] at et
      simp [z]
      refine cell_of_i C.co C.half C.p2 h1 hw z ?_
      simp only [gd_some, k_ninNl (put_self (h := h) (a := a))]
      have es := insL_snoc (xs := []) (ys := refs (hf2 w) (vs.take i)) (y := v - hf2 w)
      rw [← et] at es
      by_cases m : v - hf2 w ∈ insL [] (refs (hf2 w) (vs.take i))
      · simp [m]
        exact hN _ _ ⟨by rw [es, ins1_in m], _, rfl⟩
      · simp [m]
        refine cell_of_i C.co C.half C.p2 h1 hw z ?_
        simp [len]
        exact hN _ _ ⟨by rw [es, ins1, if_neg m, nL_snoc], _, rfl⟩
    · rw [if_neg z, List.append_nil] at et
      simp [z]
      exact hN _ _ ⟨by rw [et], _, rfl⟩
  · rintro env h' ⟨rfl, o, rfl⟩
    simp
    exact someQ_i (by simpa using q a na)
theorem items_of_cell_i (C : Cel P) {c : Nat} (hc : c < cs.length) (q : Q (.tup (nL (itms cs c))) h) : wC P (n + 1) "items_of_cell" [.tup (csD cs), .int c] h Q X := by
  refine wC_i C.ioc rfl ?_
  simp [c_items_of_cell, csD_at hc]
  unfold itms at q
  cases e : cs[c]?.getD none with
  | none =>
    rw [e] at q
    simp [cD]
    exact someQ_i (by simpa [itm, nL] using q)
  | some p =>
    rw [e] at q
    simp [cD]
    exact someQ_i (by simpa [itm, nL] using q)
/-! ### what is found -/
def step1 (half : Nat) (cs : Cs) (found : List Nat) (k : Nat) : List Nat := if k < found.length then insL found (refs half (itms cs (gn found k))) else found
def bfs (half : Nat) (cs : Cs) (vs : List Nat) : Nat → List Nat
  | 0 => insL [] (refs half vs)
  | k + 1 => step1 half cs (bfs half cs vs k) k
/-- references among values and in cells lead to cells that are not free -/
structure Wc (half : Nat) (cs : Cs) (vs : List Nat) : Prop where
  v : ∀ c ∈ refs half vs, c < cs.length ∧ cs[c]?.getD none ≠ none
  c : ∀ k, k < cs.length → ∀ c ∈ refs half (itms cs k), c < cs.length ∧ cs[c]?.getD none ≠ none
  lv : vs.length ≤ 1000
  lc : cs.length ≤ 1000
section
variable {half : Nat} {vs : List Nat}
theorem bfs_ok (W : Wc half cs vs) : ∀ k, (bfs half cs vs k).Nodup ∧ ∀ c ∈ bfs half cs vs k, c < cs.length ∧ cs[c]?.getD none ≠ none
  | 0 => ⟨insL_nd List.nodup_nil, fun c hc => by
    rcases insL_mem.mp hc with h | h
    · cases h
    · exact W.v c h⟩
  | k + 1 => by
    obtain ⟨nd, ok⟩ := bfs_ok W k
    unfold bfs step1
    split
    · rename_i hk
      refine ⟨insL_nd nd, fun c hc => ?_⟩
      rcases insL_mem.mp hc with h | h
      · exact ok c h
      · rw [gn_get hk] at h
        exact W.c _ (ok _ (List.getElem_mem hk)).1 c h
    · exact ⟨nd, ok⟩
theorem bfs_len (W : Wc half cs vs) (k : Nat) : (bfs half cs vs k).length ≤ cs.length := nd_len (bfs_ok W k).1 fun x hx => ((bfs_ok W k).2 x hx).1
theorem bfs_stay {m : Nat} (h : (bfs half cs vs m).length ≤ m) : ∀ j, bfs half cs vs (m + j) = bfs half cs vs m
  | 0 => rfl
  | j + 1 => by
    show step1 half cs (bfs half cs vs (m + j)) (m + j) = _
    rw [bfs_stay h j]
    unfold step1
    rw [if_neg (by omega)]
def fin (half : Nat) (cs : Cs) (vs : List Nat) : List Nat := bfs half cs vs cs.length
theorem bfs_fin (W : Wc half cs vs) {m : Nat} (h : (bfs half cs vs m).length ≤ m) : bfs half cs vs m = fin half cs vs := by
  unfold fin
  have hn := bfs_len W cs.length
  by_cases hm : m ≤ cs.length
  · obtain ⟨j, e⟩ := Nat.exists_eq_add_of_le hm
    rw [e, bfs_stay h]
  · obtain ⟨j, e⟩ := Nat.exists_eq_add_of_le (show cs.length ≤ m by omega)
    rw [e, bfs_stay hn]
end
theorem cells_found_i (C : Cel P) (h1 : 1 ≤ w) (hw : w ≤ 1000000) {vs : List Nat} (W : Wc (hf2 w) cs vs) (q : ∀ a h', Sub h h' → h a = none → h' a = some (.lst (nL (fin (hf2 w) cs vs))) → Q (.loc a) h') : wC P (n + 5) "cells_found" [.tup (csD cs), .tup (nL vs), .int w] h Q X := by
  have lv := W.lv
  have lc := W.lc
  refine wC_i C.cf rfl ?_
  simp only [c_cells_found, v_start, List.replicate, List.length_cons, List.length_nil, List.map_cons, List.map_nil, List.cons_append, List.nil_append]
  simp only [v_cons, v_asg, v_call, v_esc, v_esn, v_var, v_lkS, v_lk0, gd_some, rv_v, v_tnm, List.set_cons_succ, List.set_cons_zero, v_nx, v_rB, v_lit]
  refine cells_among_i C h1 hw (by omega) fun a na => ?_
  refine whl_i (fun m env h' => ∃ k o5, m = cs.length + 1 - k ∧ k ≤ (bfs (hf2 w) cs vs k).length ∧ Sub h h' ∧ h' a = some (.lst (nL (bfs (hf2 w) cs vs k))) ∧ env = [some (.tup (csD cs)), some (.tup (nL vs)), some (.int w), some (.loc a), some (.int (k : Nat)), o5]) (cs.length + 1) ?_ ?_
  · exact ⟨0, none, rfl, Nat.zero_le _, sub_put na, put_self, rfl⟩
  · rintro m env h' N ⟨k, o5, rfl, kl, sb, ha, rfl⟩ hN
    have bl := bfs_len W k
    by_cases hk : k < (bfs (hf2 w) cs vs k).length
    · obtain ⟨nd, ok⟩ := bfs_ok W k
      have hc := (ok _ (List.getElem_mem hk)).1
      have hc' : gn (bfs (hf2 w) cs vs k) k < cs.length := by rw [gn_get hk]; exact hc
      have st : bfs (hf2 w) cs vs (k + 1) = insL (bfs (hf2 w) cs vs k) (insL [] (refs (hf2 w) (itms cs (gn (bfs (hf2 w) cs vs k) k)))) := by
        show step1 _ _ _ _ = _
        unfold step1
        rw [if_pos hk, insL_dd]
        rfl
      simp [ha, hk, nL_at hk]
      refine items_of_cell_i C hc' ?_
      try simp
      have il : (itms cs (gn (bfs (hf2 w) cs vs k) k)).length ≤ 2 := itm_len
      refine cells_among_i C h1 hw (by omega) fun b nb => ?_
      have ba : b ≠ a := fun e => by rw [e, ha] at nb; cases nb
      have lin : (insL [] (refs (hf2 w) (itms cs (gn (bfs (hf2 w) cs vs k) k)))).length ≤ 2 := by
        have l1 := insL_len (B := 0) (xs := []) (ys := refs (hf2 w) (itms cs (gn (bfs (hf2 w) cs vs k) k)))
        have l2 := refs_len (half := hf2 w) (vs := itms cs (gn (bfs (hf2 w) cs vs k) k))
        simp only [List.length_nil] at l1
        omega
      generalize insL [] (refs (hf2 w) (itms cs (gn (bfs (hf2 w) cs vs k) k))) = ys at *
      have len : ∀ i, (insL (bfs (hf2 w) cs vs k) (ys.take i)).length < 16777216 := fun i => by
        have l1 := insL_len (B := 0) (xs := bfs (hf2 w) cs vs k) (ys := ys.take i)
        rw [List.length_take] at l1
        omega
      simp
      refine for_l (fun i env h'' => Sub h h'' ∧ h'' b = some (.lst (nL ys)) ∧ h'' a = some (.lst (nL (insL (bfs (hf2 w) cs vs k) (ys.take i)))) ∧ ∃ o5, env = [some (.tup (csD cs)), some (.tup (nL vs)), some (.int w), some (.loc a), some (.int (k : Nat)), o5]) ⟨sb.new nb, put_self, by rw [put_ne ba.symm]; exact ha, _, rfl⟩ (fun i e h _ z => z.2.1) ?_ ?_
      · rintro i x env h'' N2 hx ⟨sb2, hb, ha2, o5, rfl⟩ hN2
        obtain ⟨y, hy, rfl⟩ : ∃ y, ys[i]? = some y ∧ x = .int (y : Nat) := by
          simp only [nL, List.getElem?_map, Option.map_eq_some_iff] at hx
          obtain ⟨v, a, b⟩ := hx
          exact ⟨v, a, b.symm⟩
        have es : insL (bfs (hf2 w) cs vs k) (ys.take (i + 1)) = ins1 (insL (bfs (hf2 w) cs vs k) (ys.take i)) y := by rw [take_snoc hy, insL_snoc]
        simp [k_ninNl ha2]
        by_cases m : y ∈ insL (bfs (hf2 w) cs vs k) (ys.take i)
        · simp [m]
          exact hN2 _ _ ⟨sb2, hb, by rw [es, ins1_in m]; exact ha2, _, rfl⟩
        · simp [m, ha2, len i]
          refine hN2 _ _ ⟨?_, by rw [put_ne ba]; exact hb, by rw [put_self, es, ins1, if_neg m, nL_snoc], _, rfl⟩
          exact sb2.put na
      · rintro env h'' ⟨sb2, hb, ha2, o5, rfl⟩
        rw [nL_len, List.take_length, ← st] at ha2
        simp
        refine hN (cs.length + 1 - (k + 1)) _ _ (by omega) ⟨k + 1, _, rfl, ?_, sb2, ha2, rfl⟩
        obtain ⟨e, he⟩ := insL_pre (xs := bfs (hf2 w) cs vs k) (ys := ys)
        rw [st, he, List.length_append]
        omega
    · simp [ha, hk]
      rw [bfs_fin W (by omega)] at ha
      exact someQ_i (q a h' sb na ha)
theorem cells_come_to_i (C : Cel P) (h1 : 1 ≤ w) (hw : w ≤ 1000000) {vs : List Nat} (W : Wc (hf2 w) cs vs) (q : Q (.tup (iL (sortI ((fin (hf2 w) cs vs).map fun (x : Nat) => (x : Int))))) h) : wC P (n + 6) "cells_come_to" [.tup (csD cs), .tup (nL vs), .int w] h Q X := by
  refine wC_i C.cct rfl ?_
  simp [c_cells_come_to]
  refine cells_found_i C h1 hw W fun a h' sb na ha => ?_
  rw [← nL_iL] at ha
  simp [n_sortl ha]
  exact someQ_s sb q
end
end Py
namespace Py
open PySem (Str)
namespace Cod
/-! ### names of commands -/
inductive Cn | put | plusput | take | keep | takeby | keepby | plus | minus | less | same | go | unless | goby | hear | show_ | halt | puts
  deriving DecidableEq
def cn : Cn → Str
  | .put => "put" | .plusput => "plusput" | .take => "take" | .keep => "keep" | .takeby => "takeby" | .keepby => "keepby" | .plus => "plus" | .minus => "minus" | .less => "less" | .same => "same" | .go => "go" | .unless => "unless" | .goby => "goby" | .hear => "hear" | .show_ => "show" | .halt => "halt" | .puts => "puts"
def cnK (s : Str) : Nat := s.cps.toList.foldl (fun a c => a * 1000 + c) 0
def cnI : Cn → Nat := fun a => cnK (cn a)
def nmL : List Cn := [.put, .plusput, .take, .keep, .takeby, .keepby, .plus, .minus, .less, .same, .go, .unless, .goby, .hear, .show_, .halt]
def allCn : List Cn := nmL ++ [.puts]
theorem cn_find : ∀ a : Cn, (allCn.find? fun n => cnI n == cnI a) = some a := by
  intro a
  cases a <;> decide +kernel
theorem cn_inj : ∀ a b : Cn, cn a = cn b → a = b := by
  intro a b h
  have e : cnI a = cnI b := by unfold cnI; rw [h]
  have h1 := cn_find a
  rw [e, cn_find b] at h1
  exact (Option.some.inj
      h1).symm
@[simp] theorem cn_eq {a b : Cn} : cn a = cn b ↔ a = b := ⟨cn_inj a b, fun h => h ▸ rfl⟩
theorem cn_pu (a : Cn) : (cn a).cps.all (· < 0x110000) = true := by cases a <;> decide +kernel
@[simp] theorem pu_cn {n : Nat} {a : Cn} : pu n (.str (cn a)) = true := by
  unfold pu
  cases n <;> exact cn_pu a
@[simp] theorem eqv_cn {a b : Cn} : eqv (.str (cn a)) (.str (cn b)) = decide (a = b) := by
  show (cn a == cn b) = _
  by_cases h : a = b
  · subst h; simp
  · have : ¬ cn a = cn b := fun z => h (cn_inj a b z)
    simp [h, this]
@[simp] theorem k_cn {a b : Cn} {h : AH} : cmpD .eq (.v (.str (cn a))) (.v (.str (cn b))) h = some (decide (a = b)) := by
  rw [k_eqs]
  congr 1
  exact decide_eq_decide.mpr cn_eq
def nsD (xs : List Cn) : List D := xs.map fun c => .str (cn c)
theorem ns_pu (xs : List Cn) : (nsD xs).all (pu 40) = true := by
  rw [List.all_eq_true]
  intro x hx
  obtain ⟨c, _, rfl⟩ := List.mem_map.mp hx
  exact pu_cn
theorem ns_any (a : Cn) (xs : List Cn) : (nsD xs).any (fun z => eqv z (.str (cn a))) = decide (a ∈ xs) := by
  unfold nsD
  rw [List.any_map, Bool.eq_iff_iff]
  simp only [List.any_eq_true, Function.comp, eqv_cn, decide_eq_true_eq]
  exact ⟨fun ⟨x, hx, e⟩ => e ▸ hx, fun h => ⟨a, h, rfl⟩⟩
theorem in_ns {a : Cn} {xs : List Cn} {h : AH} : cmpD .inn (.v (.str (cn a))) (.v (.tup (nsD xs))) h = some (decide (a ∈ xs)) := by
  show inD (.v (.str (cn a))) (.v (.tup (nsD xs))) h = _
  unfold inD
  simp [ns_pu, ns_any]
theorem in_nl {a : Cn} {xs : List Cn} {h : AH} : cmpD .inn (.v (.str (cn a))) (.o (.lst (nsD xs))) h = some (decide (a ∈ xs)) := by
  show inD (.v (.str (cn a))) (.o (.lst (nsD xs))) h = _
  unfold inD
  have : sqV (.o (.lst (nsD xs))) h = some (nsD xs) := rfl
  simp [this, ns_pu, ns_any]
def wL : List Cn := [.put, .plusput]
def gL : List Cn := [.go, .unless, .goby]
def aL : List Cn := [.hear, .show_, .halt]
/-! ### how many bits -/
def lbc (c : Nat) : Nat := ((List.range 20).find? fun b => decide (c ≤ 2 ^ b)).getD 20
theorem lbc_ok {c : Nat} (h : c ≤ 2 ^ 19) : c ≤ 2 ^ lbc c ∧ lbc c ≤ 19 ∧ ∀ b, b < lbc c → 2 ^ b < c := by
  unfold lbc
  cases e : (List.range 20).find? fun b => decide (c ≤ 2 ^ b) with
  | none =>
    rw [List.find?_eq_none] at e
    exact absurd (decide_eq_true h) (e 19 (by simp))
  | some b =>
    rw [List.find?_range_eq_some] at e
    obtain ⟨e1, e2, e3⟩ := e
    rw [List.mem_range] at e2
    refine ⟨of_decide_eq_true e1, by simp; omega, fun x hx => ?_⟩
    have := e3 x hx
    simpa using this
def plc (c : Nat) : Nat := max 1 (lbc c)
theorem plc_ok {c : Nat} (h : c ≤ 2 ^ 17) : c ≤ 2 ^ plc c ∧ plc c ≤ 17 ∧ 1 ≤ plc c ∧ ∀ b, 1 ≤ b → (2 ^ b < c ↔ b < plc c) := by
  obtain ⟨l1, l2, l3⟩ := lbc_ok (Nat.le_trans h (by decide))
  have l17 : lbc c ≤ 17 := by
    refine Classical.byContradiction fun z => ?_
    have := l3 17 (by omega)
    omega
  have p1 : c ≤ 2 ^ plc c := Nat.le_trans l1 (Nat.pow_le_pow_right (by decide) (by unfold plc; omega))
  refine ⟨p1, by unfold plc; omega, by unfold plc; omega, fun b hb => ⟨fun z => ?_, fun z => l3 b (by unfold plc at z; omega)⟩⟩
  refine Classical.byContradiction fun w => ?_
  have := Nat.pow_le_pow_right (show 0 < 2 by decide) (show plc c ≤ b by omega)
  omega
/-- how many numbers may stand behind a name -/
def numb (w ws cnt : Nat) (c : Cn) : Nat := if c ∈ wL then 2 ^ w else if c ∈ gL then 2 ^ plc cnt else if c ∈ aL then 1 else ws
def c_bits_for_count : Fn := ⟨1, 2, (.cons (.asg (.nm 1) (.lit (.int 0))) (.cons (.whl (.cmp .le (.call "power_of_two" (.cons (.var 1) .nil)) (.var 0)) (.cons (.aug 1 .add (.lit (.int 1))) .nil)) (.cons (.ret (.var 1)) .nil)))⟩
def c_command_names : Fn := ⟨0, 0, (.cons (.ret (.glo "NAMES")) .nil)⟩
def c_places_for : Fn := ⟨1, 1, (.cons (.ret (.b2 .max (.call "bits_for_count" (.cons (.bin .sub (.var 0) (.lit (.int 1))) .nil)) (.lit (.int 1)))) .nil)⟩
def c_places_of_code : Fn := ⟨1, 1, (.cons (.ret (.call "places_for" (.cons (.b1 .len (.ix (.var 0) (.lit (.int 3)))) .nil))) .nil)⟩
def c_numbers_by_sizes : Fn := ⟨4, 4, (.cons (.ifs (.cmp .inn (.var 3) (.glo "WORDS")) (.cons (.ret (.call "power_of_two" (.cons (.var 0) .nil))) .nil) .nil) (.cons (.ifs (.cmp .inn (.var 3) (.glo "GOING")) (.cons (.ret (.call "power_of_two" (.cons (.call "places_for" (.cons (.var 2) .nil)) .nil))) .nil) .nil) (.cons (.ret (.ite (.cmp .inn (.var 3) (.glo "ALONE")) (.lit (.int 1)) (.var 1))) .nil)))⟩
def c_numbers_for : Fn := ⟨2, 2, (.cons (.ret (.call "numbers_by_sizes" (.cons (.ix (.var 0) (.lit (.int 0))) (.cons (.ix (.var 0) (.lit (.int 2))) (.cons (.b1 .len (.ix (.var 0) (.lit (.int 3)))) (.cons (.var 1) .nil)))))) .nil)⟩
def c_are_sizes_right : Fn := ⟨1, 5, (.cons (.asg (.tp (.cons (.nm 1) (.cons (.nm 2) (.cons (.nm 3) (.cons (.nm 4) .nil))))) (.var 0)) (.cons (.ifs (.or (.not (.chain .le .le (.lit (.int 2)) (.var 1) (.lit (.int 8)))) (.not (.chain .le .le (.lit (.int 0)) (.var 2) (.var 1)))) (.cons (.ret (.lit (.bl false))) .nil) .nil) (.cons (.ret (.and (.chain .le .le (.lit (.int 1)) (.var 3) (.call "power_of_two" (.cons (.var 1) .nil))) (.chain .le .le (.lit (.int 1)) (.b1 .len (.var 4)) (.glo "MOST_COMMANDS")))) .nil)))⟩
def c_is_command_right : Fn := ⟨2, 4, (.cons (.asg (.tp (.cons (.nm 2) (.cons (.nm 3) .nil))) (.var 1)) (.cons (.ret (.and (.cmp .inn (.var 2) (.glo "NAMES")) (.chain .le .lt (.lit (.int 0)) (.var 3) (.call "numbers_for" (.cons (.var 0) (.cons (.var 2) .nil)))))) .nil))⟩
def c_check_code : Fn := ⟨1, 3, (.cons (.ifs (.or (.not (.call "are_sizes_right" (.cons (.var 0) .nil))) (.not (.b1 .all (.comp (.nm 2) (.seq (.ix (.var 0) (.lit (.int 3)))) [1, 2] (.call "is_command_right" (.cons (.var 0) (.cons (.var 2) .nil))))))) (.cons (.rais "InvalidCode") .nil) .nil) .nil)⟩
def c_place_behind : Fn := ⟨2, 2, (.cons (.ret (.bin .mod (.bin .add (.var 1) (.lit (.int 1))) (.call "power_of_two" (.cons (.call "places_of_code" (.cons (.var 0) .nil)) .nil)))) .nil)⟩
def c_ways_of_command : Fn := ⟨2, 7, (.cons (.ifs (.cmp .ge (.var 1) (.b1 .len (.ix (.var 0) (.lit (.int 3))))) (.cons (.ret (.tup (.cons (.var 1) .nil))) .nil) .nil) (.cons (.asg (.tp (.cons (.nm 2) (.cons (.nm 3) .nil))) (.ix (.ix (.var 0) (.lit (.int 3))) (.var 1))) (.cons (.ifs (.cmp .eq (.var 2) (.lit (.str "halt"))) (.cons (.ret (.tup (.cons (.var 1) .nil))) .nil) .nil) (.cons (.ifs (.cmp .eq (.var 2) (.lit (.str "go"))) (.cons (.ret (.tup (.cons (.var 3) .nil))) .nil) .nil) (.cons (.ifs (.cmp .eq (.var 2) (.lit (.str "goby"))) (.cons (.asg (.nm 4) (.b2 .min (.call "power_of_two" (.cons (.ix (.var 0) (.lit (.int 0))) .nil)) (.call "power_of_two" (.cons (.call "places_of_code" (.cons (.var 0) .nil)) .nil)))) (.cons (.ret (.b1 .tup (.b1 .sorted (.comp (.nm 6) (.rng1 (.var 4)) [5, 6] (.bin .mod (.bin .add (.var 3) (.var 6)) (.call "power_of_two" (.cons (.call "places_of_code" (.cons (.var 0) .nil)) .nil))))))) .nil)) .nil) (.cons (.ifs (.cmp .eq (.var 2) (.lit (.str "unless"))) (.cons (.ret (.b1 .tup (.b1 .sset (.lst (.cons (.var 3) (.cons (.call "place_behind" (.cons (.var 0) (.cons (.var 1) .nil))) .nil)))))) .nil) .nil) (.cons (.ret (.tup (.cons (.call "place_behind" (.cons (.var 0) (.cons (.var 1) .nil))) .nil))) .nil)))))))⟩
def c__law_names : Fn := ⟨0, 0, (.cons (.ret (.tup (.cons (.lit (.str "put")) (.cons (.lit (.str "plusput")) (.cons (.lit (.str "take")) (.cons (.lit (.str "keep")) (.cons (.lit (.str "takeby")) (.cons (.lit (.str "keepby")) (.cons (.lit (.str "plus")) (.cons (.lit (.str "minus")) (.cons (.lit (.str "less")) (.cons (.lit (.str "same")) (.cons (.lit (.str "go")) (.cons (.lit (.str "unless")) (.cons (.lit (.str "goby")) (.cons (.lit (.str "hear")) (.cons (.lit (.str "show")) (.cons (.lit (.str "halt")) .nil)))))))))))))))))) .nil)⟩
def c__law_places : Fn := ⟨1, 3, (.cons (.asg (.nm 1) (.lit (.int 1))) (.cons (.for_ (.nm 2) (.rng1 (.lit (.int 16))) (.cons (.ifs (.cmp .lt (.call "_law_power" (.cons (.var 1) .nil)) (.var 0)) (.cons (.asg (.nm 1) (.bin .add (.var 1) (.lit (.int 1)))) .nil) .nil) .nil)) (.cons (.ret (.var 1)) .nil)))⟩
def c__law_numbers : Fn := ⟨4, 4, (.cons (.ifs (.cmp .inn (.var 3) (.lst (.cons (.lit (.str "put")) (.cons (.lit (.str "plusput")) .nil)))) (.cons (.ret (.call "_law_power" (.cons (.var 0) .nil))) .nil) .nil) (.cons (.ifs (.cmp .inn (.var 3) (.lst (.cons (.lit (.str "go")) (.cons (.lit (.str "unless")) (.cons (.lit (.str "goby")) .nil))))) (.cons (.ret (.call "_law_power" (.cons (.call "_law_places" (.cons (.var 2) .nil)) .nil))) .nil) .nil) (.cons (.ifs (.cmp .inn (.var 3) (.lst (.cons (.lit (.str "hear")) (.cons (.lit (.str "show")) (.cons (.lit (.str "halt")) .nil))))) (.cons (.ret (.lit (.int 1))) .nil) .nil) (.cons (.ret (.var 1)) .nil))))⟩
def c__law_code : Fn := ⟨4, 7, (.cons (.asg (.nm 4) (.lst .nil)) (.cons (.for_ (.nm 5) (.rng1 (.var 3)) (.cons (.asg (.nm 6) (.ix (.call "_law_names" .nil) (.call "_law_take" (.cons (.var 0) (.cons (.lit (.int 16)) .nil))))) (.cons (.ifs (.and (.cmp .eq (.var 6) (.lit (.str "halt"))) (.cmp .gt (.call "_law_take" (.cons (.var 0) (.cons (.lit (.int 3)) .nil))) (.lit (.int 0)))) (.cons (.asg (.nm 6) (.lit (.str "show"))) .nil) .nil) (.cons (.ifs (.and (.cmp .eq (.var 6) (.lit (.str "go"))) (.cmp .eq (.call "_law_take" (.cons (.var 0) (.cons (.lit (.int 2)) .nil))) (.lit (.int 0)))) (.cons (.asg (.nm 6) (.lit (.str "keep"))) .nil) .nil) (.cons (.expr (.mt .append (.var 4) (.cons (.tup (.cons (.var 6) (.cons (.call "_law_take" (.cons (.var 0) (.cons (.call "_law_numbers" (.cons (.var 1) (.cons (.var 2) (.cons (.var 3) (.cons (.var 6) .nil))))) .nil))) .nil))) .nil))) .nil))))) (.cons (.ret (.tup (.cons (.var 1) (.cons (.call "_law_take" (.cons (.var 0) (.cons (.bin .add (.var 1) (.lit (.int 1))) .nil))) (.cons (.var 2) (.cons (.b1 .tup (.var 4)) .nil)))))) .nil)))⟩
def c__law_word_at : Fn := ⟨2, 2, (.cons (.ifs (.cmp .lt (.var 1) (.b1 .len (.var 0))) (.cons (.ret (.ix (.var 0) (.var 1))) .nil) .nil) (.cons (.ret (.lit (.int 0))) .nil))⟩
def c__law_hand : Fn := ⟨6, 8, (.cons (.asg (.nm 6) (.call "_law_power" (.cons (.ix (.var 0) (.lit (.int 0))) .nil))) (.cons (.asg (.nm 7) (.call "_law_word_at" (.cons (.var 4) (.cons (.var 2) .nil)))) (.cons (.ifs (.cmp .eq (.var 1) (.lit (.str "put"))) (.cons (.ret (.var 2)) .nil) .nil) (.cons (.ifs (.cmp .eq (.var 1) (.lit (.str "plusput"))) (.cons (.ret (.bin .mod (.b1 .int (.bin .add (.var 3) (.var 2))) (.var 6))) .nil) .nil) (.cons (.ifs (.cmp .eq (.var 1) (.lit (.str "take"))) (.cons (.ret (.var 7)) .nil) .nil) (.cons (.ifs (.cmp .eq (.var 1) (.lit (.str "takeby"))) (.cons (.ret (.call "_law_word_at" (.cons (.var 4) (.cons (.var 7) .nil)))) .nil) .nil) (.cons (.ifs (.cmp .eq (.var 1) (.lit (.str "plus"))) (.cons (.ret (.bin .mod (.b1 .int (.bin .add (.var 3) (.var 7))) (.var 6))) .nil) .nil) (.cons (.ifs (.cmp .eq (.var 1) (.lit (.str "minus"))) (.cons (.ret (.bin .mod (.b1 .int (.bin .add (.bin .sub (.var 3) (.var 7)) (.var 6))) (.var 6))) .nil) .nil) (.cons (.ifs (.cmp .eq (.var 1) (.lit (.str "less"))) (.cons (.ret (.b1 .int (.cmp .lt (.var 3) (.var 7)))) .nil) .nil) (.cons (.ifs (.cmp .eq (.var 1) (.lit (.str "same"))) (.cons (.ret (.b1 .int (.cmp .eq (.var 3) (.var 7)))) .nil) .nil) (.cons (.ifs (.cmp .eq (.var 1) (.lit (.str "hear"))) (.cons (.ret (.bin .mod (.b1 .int (.var 5)) (.call "_law_power" (.cons (.bin .sub (.ix (.var 0) (.lit (.int 0))) (.lit (.int 1))) .nil)))) .nil) .nil) (.cons (.ret (.var 3)) .nil))))))))))))⟩
def c__law_step : Fn := ⟨3, 15, (.cons (.asg (.tp (.cons (.nm 3) (.cons (.nm 4) (.cons (.nm 5) (.cons (.nm 6) .nil))))) (.var 1)) (.cons (.ifs (.or (.cmp .ge (.var 3) (.b1 .len (.ix (.var 0) (.lit (.int 3))))) (.cmp .eq (.ix (.ix (.ix (.var 0) (.lit (.int 3))) (.var 3)) (.lit (.int 0))) (.lit (.str "halt")))) (.cons (.ret (.var 1)) .nil) .nil) (.cons (.asg (.tp (.cons (.nm 7) (.cons (.nm 8) .nil))) (.ix (.ix (.var 0) (.lit (.int 3))) (.var 3))) (.cons (.asg (.nm 9) (.call "_law_power" (.cons (.call "_law_places" (.cons (.b1 .len (.ix (.var 0) (.lit (.int 3)))) .nil)) .nil))) (.cons (.asg (.nm 10) (.bin .mod (.b1 .int (.bin .add (.var 3) (.lit (.int 1)))) (.var 9))) (.cons (.ifs (.or (.cmp .eq (.var 7) (.lit (.str "go"))) (.and (.cmp .eq (.var 7) (.lit (.str "unless"))) (.cmp .eq (.var 4) (.lit (.int 0))))) (.cons (.asg (.nm 10) (.var 8)) .nil) .nil) (.cons (.ifs (.cmp .eq (.var 7) (.lit (.str "goby"))) (.cons (.asg (.nm 10) (.bin .mod (.b1 .int (.bin .add (.var 8) (.var 4))) (.var 9))) .nil) .nil) (.cons (.asg (.nm 11) (.neg (.lit (.int 1)))) (.cons (.ifs (.cmp .eq (.var 7) (.lit (.str "keep"))) (.cons (.asg (.nm 11) (.var 8)) .nil) .nil) (.cons (.ifs (.cmp .eq (.var 7) (.lit (.str "keepby"))) (.cons (.asg (.nm 11) (.ix (.var 5) (.var 8))) .nil) .nil) (.cons (.asg (.nm 12) (.b1 .tup (.comp (.nm 14) (.rng1 (.b1 .len (.var 5))) [13, 14] (.ite (.cmp .eq (.var 14) (.var 11)) (.var 4) (.ix (.var 5) (.var 14)))))) (.cons (.ifs (.cmp .eq (.var 7) (.lit (.str "show"))) (.cons (.asg (.nm 6) (.call "_law_bits" (.cons (.var 4) (.cons (.ix (.var 0) (.lit (.int 1))) .nil)))) .nil) .nil) (.cons (.ret (.tup (.cons (.var 10) (.cons (.call "_law_hand" (.cons (.var 0) (.cons (.var 7) (.cons (.var 8) (.cons (.var 4) (.cons (.var 5) (.cons (.var 2) .nil))))))) (.cons (.var 12) (.cons (.var 6) .nil)))))) .nil)))))))))))))⟩
def c__law_is_refused : Fn := ⟨1, 1, (.cons (.tryx (.cons (.expr (.call "check_code" (.cons (.var 0) .nil))) .nil) "InvalidCode" (.bl true)) (.cons (.ret (.lit (.bl false))) .nil))⟩
def c__law_are_refused : Fn := ⟨3, 14, (.cons (.asg (.tp (.cons (.nm 3) (.cons (.nm 4) (.cons (.nm 5) (.cons (.nm 6) .nil))))) (.var 1)) (.cons (.asg (.nm 7) (.b1 .abs (.var 2))) (.cons (.asg (.nm 8) (.lst (.cons (.tup (.cons (.bin .sub (.lit (.int 1)) (.var 7)) (.cons (.var 4) (.cons (.var 5) (.cons (.var 6) .nil))))) (.cons (.tup (.cons (.bin .add (.lit (.int 9)) (.var 7)) (.cons (.var 4) (.cons (.var 5) (.cons (.var 6) .nil))))) (.cons (.tup (.cons (.var 3) (.cons (.bin .add (.bin .add (.var 3) (.lit (.int 1))) (.var 7)) (.cons (.var 5) (.cons (.var 6) .nil))))) (.cons (.tup (.cons (.var 3) (.cons (.bin .sub (.neg (.lit (.int 1))) (.var 7)) (.cons (.var 5) (.cons (.var 6) .nil))))) .nil)))))) (.cons (.asg (.nm 8) (.bin .add (.var 8) (.lst (.cons (.tup (.cons (.var 3) (.cons (.var 4) (.cons (.bin .sub (.lit (.int 0)) (.var 7)) (.cons (.var 6) .nil))))) (.cons (.tup (.cons (.var 3) (.cons (.var 4) (.cons (.bin .add (.bin .add (.call "_law_power" (.cons (.var 3) .nil)) (.lit (.int 1))) (.var 7)) (.cons (.var 6) .nil))))) (.cons (.tup (.cons (.var 3) (.cons (.var 4) (.cons (.var 5) (.cons (.tup .nil) .nil))))) .nil)))))) (.cons (.asg (.nm 9) (.call "_law_take" (.cons (.var 0) (.cons (.b1 .len (.var 6)) .nil)))) (.cons (.for_ (.nm 10) (.seq (.call "_law_names" .nil)) (.cons (.for_ (.nm 11) (.seq (.lst (.cons (.bin .sub (.neg (.lit (.int 1))) (.var 7)) (.cons (.bin .add (.call "_law_numbers" (.cons (.var 3) (.cons (.var 5) (.cons (.b1 .len (.var 6)) (.cons (.var 10) .nil))))) (.var 7)) .nil)))) (.cons (.expr (.mt .append (.var 8) (.cons (.tup (.cons (.var 3) (.cons (.var 4) (.cons (.var 5) (.cons (.bin .add (.bin .add (.sl (.var 6) .no (.so (.var 9))) (.tup (.cons (.tup (.cons (.var 10) (.cons (.var 11) .nil))) .nil))) (.sl (.var 6) (.so (.bin .add (.var 9) (.lit (.int 1)))) .no)) .nil))))) .nil))) .nil)) .nil)) (.cons (.expr (.mt .append (.var 8) (.cons (.tup (.cons (.var 3) (.cons (.var 4) (.cons (.var 5) (.cons (.bin .add (.bin .add (.sl (.var 6) .no (.so (.var 9))) (.tup (.cons (.tup (.cons (.lit (.str "puts")) (.cons (.lit (.int 0)) .nil))) .nil))) (.sl (.var 6) (.so (.bin .add (.var 9) (.lit (.int 1)))) .no)) .nil))))) .nil))) (.cons (.ret (.cmp .eq (.b1 .len (.compi (.nm 13) (.seq (.var 8)) [12, 13] (.not (.call "_law_is_refused" (.cons (.var 13) .nil))) (.var 13))) (.lit (.int 0)))) .nil))))))))⟩
def c__law_is_told : Fn := ⟨3, 16, (.cons (.asg (.tp (.cons (.nm 3) (.cons (.nm 4) (.cons (.nm 5) (.cons (.nm 6) .nil))))) (.var 1)) (.cons (.asg (.nm 7) (.b1 .len (.var 6))) (.cons (.ifs (.or (.isc true (.call "check_code" (.cons (.var 1) .nil)) .non) (.or (.not (.call "_law_are_refused" (.cons (.var 0) (.cons (.var 1) (.cons (.var 2) .nil))))) (.not (.call "_law_same" (.cons (.call "places_of_code" (.cons (.var 1) .nil)) (.cons (.call "_law_places" (.cons (.var 7) .nil)) .nil)))))) (.cons (.ret (.lit (.bl false))) .nil) .nil) (.cons (.for_ (.nm 8) (.seq (.call "_law_names" .nil)) (.cons (.ifs (.not (.call "_law_same" (.cons (.call "numbers_for" (.cons (.var 1) (.cons (.var 8) .nil))) (.cons (.call "_law_numbers" (.cons (.var 3) (.cons (.var 5) (.cons (.var 7) (.cons (.var 8) .nil))))) .nil)))) (.cons (.ret (.lit (.bl false))) .nil) .nil) .nil)) (.cons (.asg (.nm 9) (.b1 .tup (.comp (.nm 14) (.rng1 (.var 5)) [13, 14] (.call "_law_take" (.cons (.var 0) (.cons (.call "_law_power" (.cons (.var 3) .nil)) .nil)))))) (.cons (.for_ (.nm 10) (.rng1 (.call "_law_power" (.cons (.call "_law_places" (.cons (.var 7) .nil)) .nil))) (.cons (.asg (.nm 11) (.comp (.nm 15) (.rng1 (.call "_law_power" (.cons (.var 3) .nil))) [13, 15] (.ix (.call "_law_step" (.cons (.var 1) (.cons (.tup (.cons (.var 10) (.cons (.var 15) (.cons (.var 9) (.cons (.bin .mul (.tup (.cons (.lit (.int 0)) .nil)) (.var 4)) .nil))))) (.cons (.lit (.int 0)) .nil)))) (.lit (.int 0))))) (.cons (.asg (.nm 12) (.b1 .tup (.b1 .sset (.var 11)))) (.cons (.ifs (.not (.call "_law_same" (.cons (.tup (.cons (.call "ways_of_command" (.cons (.var 1) (.cons (.var 10) .nil))) (.cons (.call "ways_of_command" (.cons (.var 1) (.cons (.var 10) .nil))) .nil))) (.cons (.tup (.cons (.var 12) (.cons (.var 12) .nil))) .nil)))) (.cons (.ret (.lit (.bl false))) .nil) .nil) .nil)))) (.cons (.ret (.lit (.bl true))) .nil)))))))⟩
def c_law : Fn := ⟨1, 8, (.cons (.asg (.nm 1) (.call "_law_draws" (.cons (.var 0) (.cons (.lit (.int 160)) .nil)))) (.cons (.asg (.nm 2) (.call "_law_cell" (.cons (.var 0) .nil))) (.cons (.asg (.nm 3) (.bin .add (.lit (.int 2)) (.call "_law_take" (.cons (.var 1) (.cons (.lit (.int 4)) .nil))))) (.cons (.asg (.nm 4) (.bin .add (.lit (.int 1)) (.call "_law_take" (.cons (.var 1) (.cons (.b2 .min (.lit (.int 9)) (.call "_law_power" (.cons (.var 3) .nil))) .nil))))) (.cons (.ifs (.not (.call "_law_is_told" (.cons (.var 1) (.cons (.call "_law_code" (.cons (.var 1) (.cons (.var 3) (.cons (.var 4) (.cons (.bin .add (.lit (.int 1)) (.call "_law_take" (.cons (.var 1) (.cons (.lit (.int 12)) .nil)))) .nil))))) (.cons (.var 2) .nil))))) (.cons (.ret (.lit (.bl false))) .nil) .nil) (.cons (.asg (.nm 5) (.tup (.cons (.lit (.int 2)) (.cons (.lit (.int 0)) (.cons (.lit (.int 1)) (.cons (.tup (.cons (.tup (.cons (.lit (.str "goby")) (.cons (.lit (.int 3)) .nil))) (.cons (.tup (.cons (.lit (.str "unless")) (.cons (.lit (.int 0)) .nil))) (.cons (.tup (.cons (.lit (.str "go")) (.cons (.lit (.int 3)) .nil))) .nil)))) .nil)))))) (.cons (.asg (.nm 6) (.tup (.cons (.call "places_of_code" (.cons (.var 5) .nil)) (.cons (.call "ways_of_command" (.cons (.var 5) (.cons (.lit (.int 0)) .nil))) (.cons (.call "ways_of_command" (.cons (.var 5) (.cons (.lit (.int 1)) .nil))) (.cons (.call "ways_of_command" (.cons (.var 5) (.cons (.lit (.int 2)) .nil))) (.cons (.call "ways_of_command" (.cons (.var 5) (.cons (.lit (.int 3)) .nil))) .nil))))))) (.cons (.ifs (.not (.call "_law_same" (.cons (.var 6) (.cons (.tup (.cons (.lit (.int 2)) (.cons (.tup (.cons (.lit (.int 0)) (.cons (.lit (.int 1)) (.cons (.lit (.int 2)) (.cons (.lit (.int 3)) .nil))))) (.cons (.tup (.cons (.lit (.int 0)) (.cons (.lit (.int 2)) .nil))) (.cons (.tup (.cons (.lit (.int 3)) .nil)) (.cons (.tup (.cons (.lit (.int 3)) .nil)) .nil)))))) .nil)))) (.cons (.ret (.lit (.bl false))) .nil) .nil) (.cons (.asg (.nm 7) (.tup (.cons (.lit (.int 8)) (.cons (.lit (.int 8)) (.cons (.lit (.int 256)) (.cons (.tup (.cons (.tup (.cons (.lit (.str "keep")) (.cons (.lit (.int 255)) .nil))) .nil)) .nil)))))) (.cons (.ifs (.not (.call "_law_same" (.cons (.tup (.cons (.call "command_names" .nil) (.cons (.call "places_of_code" (.cons (.var 7) .nil)) (.cons (.call "ways_of_command" (.cons (.var 7) (.cons (.lit (.int 0)) .nil))) (.cons (.call "ways_of_command" (.cons (.var 7) (.cons (.lit (.int 1)) .nil))) .nil))))) (.cons (.tup (.cons (.call "_law_names" .nil) (.cons (.lit (.int 1)) (.cons (.tup (.cons (.lit (.int 1)) .nil)) (.cons (.tup (.cons (.lit (.int 1)) .nil)) .nil))))) .nil)))) (.cons (.ret (.lit (.bl false))) .nil) .nil) (.cons (.ret (.and (.call "_law_is_told" (.cons (.var 1) (.cons (.var 5) (.cons (.var 2) .nil)))) (.and (.call "_law_is_refused" (.cons (.tup (.cons (.lit (.int 2)) (.cons (.lit (.int 0)) (.cons (.lit (.int 1)) (.cons (.tup (.cons (.tup (.cons (.lit (.str "goby")) (.cons (.lit (.int 4)) .nil))) .nil)) .nil))))) .nil)) (.isc false (.call "check_code" (.cons (.tup (.cons (.lit (.int 2)) (.cons (.lit (.int 2)) (.cons (.lit (.int 4)) (.cons (.tup (.cons (.tup (.cons (.lit (.str "go")) (.cons (.lit (.int 1)) .nil))) .nil)) .nil))))) .nil)) .non)))) .nil)))))))))))⟩
end Cod
end Py
namespace Py
open PySem (Str)
namespace Cod
structure TC (P : Prog) : Prop where
  p2 : P.fn "power_of_two" = some c_power_of_two
  bf : P.fn "bits_for_count" = some c_bits_for_count
  cm : P.fn "command_names" = some c_command_names
  pf : P.fn "places_for" = some c_places_for
  po : P.fn "places_of_code" = some c_places_of_code
  ns : P.fn "numbers_by_sizes" = some c_numbers_by_sizes
  nf : P.fn "numbers_for" = some c_numbers_for
  sz : P.fn "are_sizes_right" = some c_are_sizes_right
  cr : P.fn "is_command_right" = some c_is_command_right
  ck : P.fn "check_code" = some c_check_code
  pb : P.fn "place_behind" = some c_place_behind
  wy : P.fn "ways_of_command" = some c_ways_of_command
  gN : P.gl "NAMES" = some (.tup (nsD nmL))
  gW : P.gl "WORDS" = some (.tup (nsD wL))
  gG : P.gl "GOING" = some (.tup (nsD gL))
  gA : P.gl "ALONE" = some (.tup (nsD aL))
  gM : P.gl "MOST_COMMANDS" = some (.int 65535)
abbrev Cm := Cn × Int
def csD (cs : List Cm) : List D := cs.map fun c => .tup [.str (cn c.1), .int c.2]
@[simp] theorem csD_len {cs : List Cm} : (csD cs).length = cs.length := by simp [csD]
def cdD (w sh ws : Int) (cs : List Cm) : D := .tup [.int w, .int sh, .int ws, .tup (csD cs)]
/-- a right code -/
structure CR (w sh ws : Int) (cs : List Cm) : Prop where
  w2 : 2 ≤ w
  w8 : w ≤ 8
  s0 : 0 ≤ sh
  sw : sh ≤ w
  m0 : 1 ≤ ws
  mw : ws ≤ 2 ^ w.toNat
  c0 : 1 ≤ cs.length
  cz : cs.length ≤ 65535
  cs : ∀ c ∈ cs, c.1 ∈ nmL ∧ 0 ≤ c.2 ∧ c.2 < numb w.toNat ws.toNat cs.length c.1
section
variable {P : Prog} {L : Nat} {h : AH} {Q : D → AH → Prop} {X : Xc}
theorem p2_i (hL : 1 ≤ L) (T : TC P) {w : Nat} (hw : w ≤ 1000000) (q : Q (.int ((2 ^ w : Nat) : Int)) h) : wC P L "power_of_two" [.int w] h Q X := by
  obtain ⟨n, rfl⟩ : ∃ n, L = n + 1 := ⟨L - 1, by omega⟩
  exact power_of_two_i T.p2 hw q
theorem bfc_i (hL : 2 ≤ L) (T : TC P) {m : Nat} (hm : m < 2 ^ 17) (q : Q (.int (lbc (m + 1) : Nat)) h) : wC P L "bits_for_count" [.int m] h Q X := by
  obtain ⟨n, rfl⟩ : ∃ n, L = n + 1 := ⟨L - 1, by omega⟩
  obtain ⟨l1, l2, l3⟩ := lbc_ok (c := m + 1) (by omega)
  refine wC_i T.bf rfl ?_
  simp [c_bits_for_count, List.replicate]
  refine whl_i (fun k env h' => h' = h ∧ ∃ b : Nat, k = 20 - b ∧ b ≤ lbc (m + 1) ∧ env = [some (.int m), some (.int b)]) 20 ⟨rfl, 0, rfl, by omega, rfl⟩ ?_
  rintro k env h' N ⟨rfl, b, rfl, hb, rfl⟩ hN
  simp
  refine p2_i (by omega) T (by omega) ?_
  by_cases z : 2 ^ b ≤ m
  · have z2 : ((2 ^ b : Nat) : Int) ≤ (m : Int) := by omega
    have lt : b < lbc (m + 1) := by
      refine Classical.byContradiction fun w => ?_
      have : b = lbc (m + 1) := by omega
      rw [← this] at l1
      omega
    simp only [Int.natCast_pow] at z2 ⊢
    simp at z2
    simp [z2]
    exact hN _ _ _ (show 20 - (b + 1) < 20 - b by omega) ⟨rfl, b + 1, rfl, by omega, by simp⟩
  · have z2 : ¬ ((2 ^ b : Nat) : Int) ≤ (m : Int) := by omega
    have eb : b = lbc (m + 1) := by
      refine Classical.byContradiction fun w => ?_
      have := l3 b (by omega)
      omega
    simp only [Int.natCast_pow] at z2 ⊢
    simp at z2
    have z3 : ¬ ((2 : Int) ^ b ≤ (m : Int)) := by omega
    simp [z3]
    rw [eb]
    exact someQ_i q
theorem plf_i (hL : 3 ≤ L) (T : TC P) {c : Nat} (h1 : 1 ≤ c) (hc : c ≤ 65536) (q : Q (.int (plc c : Nat)) h) : wC P L "places_for" [.int c] h Q X := by
  obtain ⟨n, rfl⟩ : ∃ n, L = n + 1 := ⟨L - 1, by omega⟩
  have e : (c : Int) - 1 = ((c - 1 : Nat) : Int) := by omega
  refine wC_i T.pf rfl ?_
  simp [c_places_for, List.replicate]
  rw [e]
  refine bfc_i (by omega) T (by omega) ?_
  rw [show c - 1 + 1 = c by omega]
  have e2 : (if (lbc c : Int) < 1 then (1 : Int) else (lbc c : Int)) = ((plc c : Nat) : Int) := by unfold plc; split <;> omega
  simp [b2D, e2]
  exact someQ_i q
theorem plo_i (hL : 4 ≤ L) (T : TC P) {w sh ws : Int} {cs : List Cm} (h1 : 1 ≤ cs.length) (hc : cs.length ≤ 65536) (q : Q (.int (plc cs.length : Nat)) h) : wC P L "places_of_code" [cdD w sh ws cs] h Q X := by
  obtain ⟨n, rfl⟩ : ∃ n, L = n + 1 := ⟨L - 1, by omega⟩
  have e3 : ∀ a b c d : D, atI [a, b, c, d] 3 = some d := fun _ _ _ _ => rfl
  refine wC_i T.po rfl ?_
  simp [c_places_of_code, List.replicate, cdD, e3]
  refine plf_i (by omega) T h1 hc ?_
  exact someQ_i q
theorem nbs_i (hL : 4 ≤ L) (T : TC P) {w ws cnt : Nat} {c : Cn} (hw : w ≤ 1000) (h1 : 1 ≤ cnt) (hc : cnt ≤ 65536) (q : Q (.int (numb w ws cnt c : Nat)) h) : wC P L "numbers_by_sizes" [.int w, .int ws, .int cnt, .str (cn c)] h Q X := by
  obtain ⟨n, rfl⟩ : ∃ n, L = n + 1 := ⟨L - 1, by omega⟩
  obtain ⟨_, pz, _, _⟩ := plc_ok (c := cnt) (Nat.le_trans hc (by decide))
  refine wC_i T.ns rfl ?_
  simp [c_numbers_by_sizes, List.replicate, T.gW, T.gG, T.gA, in_ns]
  unfold numb at q
  by_cases z1 : c ∈ wL
  · rw [if_pos z1] at q
    simp [z1]
    exact p2_i (by omega) T (by omega) (someQ_i q)
  · rw [if_neg z1] at q
    by_cases z2 : c ∈ gL
    · rw [if_pos z2] at q
      simp [z1, z2]
      refine plf_i (by omega) T h1 hc ?_
      try simp
      exact p2_i (by omega) T (by omega) (someQ_i q)
    · rw [if_neg z2] at q
      by_cases z3 : c ∈ aL
      · rw [if_pos z3] at q
        simp [z1, z2, z3]
        exact someQ_i q
      · rw [if_neg z3] at q
        simp [z1, z2, z3]
        exact someQ_i q
theorem nfr_i (hL : 5 ≤ L) (T : TC P) {w ws : Nat} {sh : Int} {cs : List Cm} {c : Cn} (hw : w ≤ 1000) (h1 : 1 ≤ cs.length) (hc : cs.length ≤ 65536) (q : Q (.int (numb w ws cs.length c : Nat)) h) : wC P L "numbers_for" [cdD w sh ws cs, .str (cn c)] h Q X := by
  obtain ⟨n, rfl⟩ : ∃ n, L = n + 1 := ⟨L - 1, by omega⟩
  have e3 : ∀ a b c d : D, atI [a, b, c, d] 3 = some d := fun _ _ _ _ => rfl
  have e2 : ∀ a b c d : D, atI [a, b, c, d] 2 = some c := fun _ _ _ _ => rfl
  have e0 : ∀ a b c d : D, atI [a, b, c, d] 0 = some a := fun _ _ _ _ => rfl
  refine wC_i T.nf rfl ?_
  simp [c_numbers_for, List.replicate, cdD, e3, e2, e0]
  exact nbs_i (by omega) T hw h1 hc (someQ_i q)
def szB (w sh ws : Int) (n : Nat) : Bool := decide (2 ≤ w ∧ w ≤ 8 ∧ 0 ≤ sh ∧ sh ≤ w) && decide (1 ≤ ws ∧ ws ≤ 2 ^ w.toNat ∧ 1 ≤ n ∧ n ≤ 65535)
theorem szr_i (hL : 2 ≤ L) (T : TC P) {w sh ws : Int} {cs : List Cm} (q : Q (.bl (szB w sh ws cs.length)) h) : wC P L "are_sizes_right" [cdD w sh ws cs] h Q X := by
  obtain ⟨n, rfl⟩ : ∃ n, L = n + 1 := ⟨L - 1, by omega⟩
  refine wC_i T.sz rfl ?_
  simp [c_are_sizes_right, List.replicate, cdD]
  unfold szB at q
  by_cases z : 2 ≤ w ∧ w ≤ 8 ∧ 0 ≤ sh ∧ sh ≤ w
  · rw [decide_eq_true z, Bool.true_and] at q
    obtain ⟨z1, z2, z3, z4⟩ := z
    obtain ⟨k, rfl⟩ := Int.eq_ofNat_of_zero_le (show 0 ≤ w by omega)
    simp [z1, z2, z3, z4]
    by_cases y1 : 1 ≤ ws
    · simp [y1]
      refine p2_i (by omega) T (by omega) ?_
      simp at q ⊢
      by_cases y2 : ws ≤ 2 ^ k
      · simp [y2, T.gM]
        by_cases y3 : 1 ≤ cs.length
        · have y3' : (1 : Int) ≤ (cs.length : Int) := by omega
          simp [y3', y3, T.gM]
          refine someQ_i ?_
          have e : decide ((cs.length : Int) ≤ 65535) = decide (cs.length ≤ 65535) := decide_eq_decide.mpr (by omega)
          simpa [y1, y2, y3, e] using q
        · have y3' : ¬ (1 : Int) ≤ (cs.length : Int) := by omega
          simp [y3', y3]
          refine someQ_i ?_
          simpa [y1, y2, y3] using q
      · simp [y2]
        refine someQ_i ?_
        simpa [y1, y2] using q
    · simp [y1]
      refine someQ_i ?_
      simpa [y1] using q
  · rw [decide_eq_false z, Bool.false_and] at q
    by_cases z1 : 2 ≤ w
    · by_cases z2 : w ≤ 8
      · by_cases z3 : 0 ≤ sh
        · have z4 : ¬ sh ≤ w := fun e => z ⟨z1, z2, z3, e⟩
          simp [z1, z2, z3, z4]
          exact someQ_i q
        · simp [z1, z2, z3]
          exact someQ_i q
      · simp [z1, z2]
        exact someQ_i q
    · simp [z1]
      exact someQ_i q
end
end Cod
end Py
namespace Py
open PySem (Str)
namespace Cod
def cmB (w ws cnt : Nat) (c : Cm) : Bool := decide (c.1 ∈ nmL) && decide (0 ≤ c.2 ∧ c.2 < (numb w ws cnt c.1 : Nat))
theorem szB_iff {w sh ws : Int} {n : Nat} : szB w sh ws n = true ↔ (2 ≤ w ∧ w ≤ 8 ∧ 0 ≤ sh ∧ sh ≤ w) ∧ (1 ≤ ws ∧ ws ≤ 2 ^ w.toNat ∧ 1 ≤ n ∧ n ≤ 65535) := by
  unfold szB
  rw [Bool.and_eq_true, decide_eq_true_iff, decide_eq_true_iff]
theorem cr_iff {w sh ws : Int} {cs : List Cm} : CR w sh ws cs ↔ szB w sh ws cs.length = true ∧ cs.all (cmB w.toNat ws.toNat cs.length) = true := by
  rw [szB_iff, List.all_eq_true]
  constructor
  · intro R
    refine ⟨⟨⟨R.w2, R.w8, R.s0, R.sw⟩, R.m0, R.mw, R.c0, R.cz⟩, fun c hc => ?_⟩
    obtain ⟨a, b, d⟩ := R.cs c hc
    unfold cmB
    simp [a, b, d]
  · rintro ⟨⟨⟨a, b, c, d⟩, e, f, g, i⟩, j⟩
    refine ⟨a, b, c, d, e, f, g, i, fun x hx => ?_⟩
    have := j x hx
    unfold cmB at this
    simpa using this
section
variable {P : Prog} {L : Nat} {h : AH} {Q : D → AH → Prop} {X : Xc}
theorem cmr_i (hL : 6 ≤ L) (T : TC P) {w ws : Nat} {sh : Int} {cs : List Cm} {c : Cm} (hw : w ≤ 1000) (h1 : 1 ≤ cs.length) (hc : cs.length ≤ 65536) (q : Q (.bl (cmB w ws cs.length c)) h) : wC P L "is_command_right" [cdD w sh ws cs, .tup [.str (cn c.1), .int c.2]] h Q X := by
  obtain ⟨n, rfl⟩ : ∃ n, L = n + 1 := ⟨L - 1, by omega⟩
  refine wC_i T.cr rfl ?_
  simp [c_is_command_right, List.replicate, T.gN, in_ns]
  unfold cmB at q
  by_cases z : c.1 ∈ nmL
  · simp [z] at q ⊢
    by_cases z2 : 0 ≤ c.2
    · simp [z2] at q ⊢
      refine nfr_i (by omega) T hw h1 hc ?_
      simp
      exact someQ_i q
    · simp [z2] at q ⊢
      exact someQ_i q
  · simp [z] at q ⊢
    exact someQ_i q
theorem chk_i (hL : 7 ≤ L) (T : TC P) {w sh ws : Int} {cs : List Cm} (hz : cs.length ≤ 100000) (q : CR w sh ws cs → Q .non h) (qx : ¬ CR w sh ws cs → X "InvalidCode" h) : wC P L "check_code" [cdD w sh ws cs] h Q X := by
  obtain ⟨n, rfl⟩ : ∃ n, L = n + 1 := ⟨L - 1, by omega⟩
  have e3 : ∀ a b c d : D, atI [a, b, c, d] 3 = some d := fun _ _ _ _ => rfl
  refine wC_i T.ck rfl ?_
  simp [c_check_code, List.replicate]
  refine szr_i (by omega) T ?_
  rw [cr_iff] at q qx
  cases z : szB w sh ws cs.length with
  | false =>
    simp
    exact someX_i (qx (by simp [z]))
  | true =>
    have z' := szB_iff.mp z
    obtain ⟨k, rfl⟩ := Int.eq_ofNat_of_zero_le (show 0 ≤ w by omega)
    obtain ⟨m, rfl⟩ := Int.eq_ofNat_of_zero_le (show 0 ≤ ws by omega)
    simp only [Int.toNat_natCast] at q qx
    simp [cdD, e3]
    refine comp_g (fun c : Cm => .tup [.str (cn c.1), .int c.2]) (fun c => .bl (cmB k m cs.length c)) cs rfl trivial (by omega) (fun c hc kk hkk => ?_) ?_
    · simp [wipe]
      rw [← cdD]
      exact cmr_i (by omega) T (by omega) (by omega) (by omega) hkk
    · rw [all_p]
      cases y : cs.all (cmB k m cs.length) with
      | true =>
        have : allP (cmB k m cs.length) cs = true := y
        simp [this]
        exact someQ_i (q ⟨z, y⟩)
      | false =>
        have : allP (cmB k m cs.length) cs = false := y
        simp [this]
        exact someX_i (qx (by simp [y]))
theorem refu_i (hL : 8 ≤ L) (T : TC P) (hf : P.fn "_law_is_refused" = some c__law_is_refused) (hs : P.sub "InvalidCode" "InvalidCode" = some true) {w sh ws : Int} {cs : List Cm} (hz : cs.length ≤ 100000) (no : ¬ CR w sh ws cs) (q : Q (.bl true) h) : wC P L "_law_is_refused" [cdD w sh ws cs] h Q X := by
  obtain ⟨n, rfl⟩ : ∃ n, L = n + 1 := ⟨L - 1, by omega⟩
  refine wC_i hf rfl ?_
  simp [c__law_is_refused, List.replicate]
  refine chk_i (by omega) T hz (fun z => absurd z no) fun _ => ?_
  simp [hs]
  exact someQ_i q
theorem pbh_i (hL : 5 ≤ L) (T : TC P) {w sh ws : Int} {cs : List Cm} {p : Nat} (h1 : 1 ≤ cs.length) (hc : cs.length ≤ 65536) (q : Q (.int ((p + 1) % 2 ^ plc cs.length : Nat)) h) : wC P L "place_behind" [cdD w sh ws cs, .int p] h Q X := by
  obtain ⟨n, rfl⟩ : ∃ n, L = n + 1 := ⟨L - 1, by omega⟩
  obtain ⟨_, pz, _, _⟩ := plc_ok (c := cs.length) (Nat.le_trans hc (by decide))
  refine wC_i T.pb rfl ?_
  simp [c_place_behind, List.replicate]
  refine plo_i (by omega) T h1 hc ?_
  try simp
  refine p2_i (by omega) T (by omega) ?_
  have p0 : (0 : Int) < ((2 ^ plc cs.length : Nat) : Int) := by have := Nat.pow_pos (n := plc cs.length) (show 0 < 2 by decide); omega
  rw [o_mod p0]
  have e : ((p : Int) + 1) % ((2 ^ plc cs.length : Nat) : Int) = (((p + 1) % 2 ^ plc cs.length : Nat) : Int) := by rw [Int.natCast_emod, Int.natCast_add]; rfl
  rw [e]
  simp only [gd_some, rv_v]
  exact someQ_i q
end
end Cod
end Py
namespace Py
open PySem (Str)
namespace Cod
/-! ### sorted(set(..)) -/
theorem dd_in {ns : List Int} {y : Int} : y ∈ ddI ns ↔ y ∈ ns := ddI_in
theorem dd_nd (xs : List Int) : (ddI xs).Nodup := ddI_nd xs [] List.nodup_nil
theorem ss_same {xs ys : List Int} (h : ∀ x, x ∈ xs ↔ x ∈ ys) : sortI (ddI xs) = sortI (ddI ys) := by
  have p : (ddI xs).Perm (ddI ys) := (List.perm_ext_iff_of_nodup (dd_nd xs) (dd_nd ys)).mpr fun a => by rw [dd_in, dd_in, h]
  exact sorted_eq ((sortI_perm _).trans (p.trans (sortI_perm _).symm)) (sortI_sorted _) (sortI_sorted _)
theorem ss_nd {xs : List Int} (h : xs.Nodup) : sortI (ddI xs) = sortI xs := by
  have p : (ddI xs).Perm xs := (List.perm_ext_iff_of_nodup (dd_nd xs) h).mpr fun a => dd_in
  exact sorted_eq ((sortI_perm _).trans (p.trans (sortI_perm _).symm)) (sortI_sorted _) (sortI_sorted _)
theorem ss_one {xs : List Int} {v : Int} (h : ∀ x ∈ xs, x = v) (h0 : xs ≠ []) : sortI (ddI xs) = [v] := by
  rw [ss_same (ys := [v])]
  · rfl
  · intro x
    rw [List.mem_singleton]
    constructor
    · exact h x
    · rintro rfl
      cases xs with
      | nil => exact absurd rfl h0
      | cons y r =>
        have := h y (by simp)
        rw [← this]; simp
theorem n_srt {xs : List Int} {h : AH} : b1D .sorted (.o (.lst (iL xs))) h = some (.o (.lst (iL (sortI xs)))) := by
  show (intsL (iL xs)).map (fun ns => Rv.o (.lst ((sortI ns).map D.int))) = _
  rw [intsL_iL]
  rfl
theorem n_sso {xs : List Int} {h : AH} (hl : xs.length < 64) : b1D .sset (.o (.lst (iL xs))) h = some (.o (.lst (iL (sortI (ddI xs))))) := by
  show ssetI (iL xs) = _
  unfold ssetI
  rw [intsL_iL, Option.bind_some, if_pos hl]
  rfl
theorem n_ssl {a : Nat} {xs : List Int} {h : AH} (e : h a = some (.lst (iL xs))) (hl : xs.length < 64) : b1D .sset (.v (.loc a)) h = some (.o (.lst (iL (sortI (ddI xs))))) := by
  have : b1D .sset (.v (.loc a)) h = ssetI (iL xs) := by
    show (match lsV (.v (.loc a)) h with | some xs => ssetI xs | none => none) = _
    rw [l_loc e]
  rw [this]
  unfold ssetI
  rw [intsL_iL, Option.bind_some, if_pos hl]
  rfl
/-! ### ways -/
abbrev Cw := Cn × Nat
def zC (cs : List Cw) : List Cm := cs.map fun c => (c.1, (c.2 : Int))
@[simp] theorem zC_len {cs : List Cw} : (zC cs).length = cs.length := by simp [zC]
/-- the place behind a command -/
def nxt (S : Nat) (c : Cn) (n p a : Nat) : Nat := if c = .go then n else if c = .unless then (if a = 0 then n else (p + 1) % S) else if c = .goby then (n + a) % S else (p + 1) % S
def nx (S : Nat) (cs : List Cw) (p a : Nat) : Nat := match cs[p]? with
  | none => p
  | some (c, n) => if c = .halt then p else nxt S c n p a
def wyL (w S : Nat) (cs : List Cw) (p : Nat) : List Int := match cs[p]? with
  | none => [(p : Int)]
  | some (c, n) => if c = .halt then [(p : Int)] else if c = .go then [(n : Int)] else
    if c = .goby then sortI ((List.range (min (2 ^ w) S)).map fun a => (((n + a) % S : Nat) : Int)) else
    if c = .unless then sortI (ddI [(n : Int), (((p + 1) % S : Nat) : Int)]) else [(((p + 1) % S : Nat) : Int)]
theorem mod_inj {n S a b : Nat} (ha : a < S) (hb : b < S) (h : (n + a) % S = (n + b) % S) : a = b := by
  rcases Nat.lt_trichotomy a b with z | z | z
  · have := Nat.sub_mod_eq_zero_of_mod_eq h.symm
    rw [show n + b - (n + a) = b - a by omega, Nat.mod_eq_of_lt (by omega)] at this
    omega
  · exact z
  · have := Nat.sub_mod_eq_zero_of_mod_eq h
    rw [show n + a - (n + b) = a - b by omega, Nat.mod_eq_of_lt (by omega)] at this
    omega
theorem wyL_ok {w S : Nat} {cs : List Cw} {p : Nat} (hw : 1 ≤ w) (hS : 0 < S) : sortI (ddI ((List.range (2 ^ w)).map fun a => ((nx S cs p a : Nat) : Int))) = wyL w S cs p := by
  have two : 2 ≤ 2 ^ w := by have := Nat.pow_le_pow_right (show 0 < 2 by decide) hw; omega
  have ne : ∀ f : Nat → Int, (List.range (2 ^ w)).map f ≠ [] := fun f e => by
    have := congrArg List.length e
    simp at this
  have cst : ∀ v : Nat, (∀ a, nx S cs p a = v) → sortI (ddI ((List.range (2 ^ w)).map fun a => ((nx S cs p a : Nat) : Int))) = [(v : Int)] := fun v h => by
    refine ss_one (fun x hx => ?_) (ne _)
    obtain ⟨a, _, rfl⟩ :=
        List.mem_map.mp hx
    rw [h a]
  unfold wyL
  cases e : cs[p]? with
  | none => exact cst p fun a => by unfold nx; rw [e]
  | some cn =>
    obtain ⟨c, n⟩ := cn
    have en : ∀ a, nx S cs p a = if c = .halt then p else nxt S c n p a := fun a => by unfold nx; rw [e]
    simp only
    by_cases z1 : c = .halt
    · rw [if_pos z1]
      exact cst p fun a => by rw [en, if_pos z1]
    · rw [if_neg z1]
      by_cases z2 : c = .go
      · rw [if_pos z2]
        exact cst n fun a => by rw [en, if_neg z1, nxt, if_pos z2]
      · rw [if_neg z2]
        by_cases z3 : c = .goby
        · rw [if_pos z3, ← ss_nd (xs := (List.range (min (2 ^ w) S)).map fun a => (((n + a) % S : Nat) : Int))]
          · have en' : ∀ a, nx S cs p a = (n + a) % S := fun a => by rw [en, if_neg z1, nxt, if_neg z2, if_neg (by rw [z3]; simp), if_pos z3]
            refine ss_same fun x => ?_
            simp only [List.mem_map, List.mem_range, en']
            constructor
            · rintro ⟨a, ha, rfl⟩
              refine ⟨a % S, ?_, ?_⟩
              · have := Nat.mod_lt a hS
                have := Nat.mod_le a S
                omega
              · rw [Nat.add_mod_mod]
            · rintro ⟨a, ha, rfl⟩
              exact ⟨a, by omega, rfl⟩
          · refine List.Pairwise.map _ (fun a b h => ?_) ?_ (R := fun a b => a < S ∧ b < S ∧ a ≠ b)
            · intro e2
              have : (n + a) % S = (n + b) % S := by omega
              exact h.2.2 (mod_inj h.1 h.2.1 this)
            · refine List.Pairwise.imp_of_mem (fun {a b} ha hb h => ?_) (List.pairwise_lt_range (n := min (2 ^ w) S))
              rw [List.mem_range] at ha hb
              exact ⟨by omega,
                  by omega, by omega⟩
        · rw [if_neg z3]
          by_cases z4 : c = .unless
          · rw [if_pos z4]
            have en' : ∀ a, nx S cs p a = if a = 0 then n else (p + 1) % S := fun a => by rw [en, if_neg z1, nxt, if_neg z2, if_pos z4]
            refine ss_same fun x => ?_
            simp only [List.mem_map, List.mem_range, en', List.mem_cons, List.not_mem_nil, or_false]
            constructor
            · rintro ⟨a, _, rfl⟩
              by_cases y : a = 0
              · left; rw [if_pos y]
              · right; rw [if_neg y]
            · rintro (rfl | rfl)
              · exact ⟨0, by omega, by simp⟩
              · exact ⟨1, by omega, by simp⟩
          · rw [if_neg z4]
            exact cst _ fun a => by rw [en, if_neg z1, nxt, if_neg z2, if_neg z4, if_neg z3]
end Cod
end Py
namespace Py
open PySem (Str)
namespace Cod
theorem m_put : Str.ofString "put" = cn .put := rfl
theorem m_plusput : Str.ofString "plusput" = cn .plusput := rfl
theorem m_take : Str.ofString "take" = cn .take := rfl
theorem m_keep : Str.ofString "keep" = cn .keep := rfl
theorem m_takeby : Str.ofString "takeby" = cn .takeby := rfl
theorem m_keepby : Str.ofString "keepby" = cn .keepby := rfl
theorem m_plus : Str.ofString "plus" = cn .plus := rfl
theorem m_minus : Str.ofString "minus" = cn .minus := rfl
theorem m_less : Str.ofString "less" = cn .less := rfl
theorem m_same : Str.ofString "same" = cn .same := rfl
theorem m_go : Str.ofString "go" = cn .go := rfl
theorem m_unless : Str.ofString "unless" = cn .unless := rfl
theorem m_goby : Str.ofString "goby" = cn .goby := rfl
theorem m_hear : Str.ofString "hear" = cn .hear := rfl
theorem m_show : Str.ofString "show" = cn .show_ := rfl
theorem m_halt : Str.ofString "halt" = cn .halt := rfl
theorem m_puts : Str.ofString "puts" = cn .puts := rfl
theorem cs_at {cs : List Cw} {p : Nat} {c : Cn} {n : Nat} (e : cs[p]? = some (c, n)) : atI (csD (zC cs)) (p : Int) = some (.tup [.str (cn c), .int n]) := atN (by simp [csD, zC, e])
section
variable {P : Prog} {L : Nat} {h : AH} {Q : D → AH → Prop} {X : Xc}
theorem wyc_i (hL : 6 ≤ L) (T : TC P) {w : Nat} {sh ws : Int} {cs : List Cw} {p : Nat} (hw : w ≤ 8) (h1 : 1 ≤ cs.length) (hc : cs.length ≤ 65536) (q : Q (.tup (iL (wyL w (2 ^ plc cs.length) cs p))) h) : wC P L "ways_of_command" [cdD w sh ws (zC cs), .int p] h Q X := by
  obtain ⟨n, rfl⟩ : ∃ n, L = n + 1 := ⟨L - 1, by omega⟩
  obtain ⟨_, pz, _, _⟩ := plc_ok (c := cs.length) (Nat.le_trans hc (by decide))
  have e3 : ∀ a b c d : D, atI [a, b, c, d] 3 = some d := fun _ _ _ _ => rfl
  have e0 : ∀ a b c d : D, atI [a, b, c, d] 0 = some a := fun _ _ _ _ => rfl
  have hl : (zC cs).length = cs.length := zC_len
  refine wC_i T.wy rfl ?_
  unfold wyL at q
  obtain ⟨cd, hcd⟩ : ∃ cd, cd = cdD w sh ws (zC cs) := ⟨_, rfl⟩
  have hcd' := hcd
  unfold cdD at hcd'
  have len3 : ixD (.v cd) (.v (.int 3)) h = some (.tup (csD (zC cs))) := by rw [hcd']; rfl
  have ix0 : ixD (.v cd) (.v (.int 0)) h = some (.int w) := by rw [hcd']; rfl
  rw [← hcd]
  cases e : cs[p]? with
  | none =>
    rw [e] at q
    have ge : cs.length ≤ p := List.getElem?_eq_none_iff.mp e
    have ge' : (cs.length : Int) ≤ (p : Int) := by omega
    simp [c_ways_of_command, List.replicate, len3, ge, ge']
    exact someQ_i q
  | some cn' =>
    obtain ⟨c, m⟩ := cn'
    rw [e] at q
    simp only at q
    have lt : p < cs.length := (List.getElem?_eq_some_iff.mp e).1
    have lt' : ¬ (cs.length : Int) ≤ (p : Int) := by omega
    have lt2 : ¬ cs.length ≤ p := by omega
    have at1 := cs_at e
    simp [-v_rB, c_ways_of_command, List.replicate, len3, lt', lt2, at1]
    rw [v_rB]
    simp [-v_rB, len3, lt', lt2, at1]
    rw [v_rB]
    by_cases z1 : c = .halt
    · rw [if_pos z1] at q
      simp [m_halt, z1]
      exact someQ_i q
    · rw [if_neg z1] at q
      simp [-v_rB, m_halt, z1]
      rw [v_rB]
      by_cases z2 : c = .go
      · rw [if_pos z2] at q
        simp [m_go, z2]
        exact someQ_i q
      · rw [if_neg z2] at q
        simp [-v_rB, m_go, z2]
        rw [v_rB]
        by_cases z3 : c = .goby
        · rw [if_pos z3] at q
          simp [-v_rB, m_goby, z3, ix0]
          refine p2_i (by omega) T (by omega) ?_
          simp [-v_rB]
          rw [hcd]
          refine plo_i (by omega) T (by rw [hl]; exact h1) (by rw [hl]; exact hc) ?_
          simp only [hl]
          try simp [-v_rB]
          refine p2_i (by omega) T (by omega) ?_
          have em : b2D .min (.int (2 ^ w)) (.int ((2 ^ plc cs.length : Nat) : Int)) = some (.int ((min (2 ^ w) (2 ^ plc cs.length) : Nat) : Int)) := by
            show some (D.int (if ((2 ^ plc cs.length : Nat) : Int) < (2 : Int) ^ w then ((2 ^ plc cs.length : Nat) : Int) else (2 : Int) ^ w)) = _
            rw [show (2 : Int) ^ w = ((2 ^ w : Nat) : Int) by simp]
            congr 2
            split <;> omega
          rw [em]
          have p2w : 2 ^ w ≤ 2 ^ 8 := Nat.pow_le_pow_right (by decide) hw
          have bm : min (2 ^ w) (2 ^ plc cs.length) ≤ 256 := by omega
          have hS : 0 < 2 ^ plc cs.length := Nat.pow_pos (by decide)
          generalize hr : min (2 ^ w) (2 ^ plc cs.length) = r at q bm
          have sm : small62 (r : Int) = true := by simp [small62]; omega
          simp only [gd_some]
          rw [v_rB]
          simp [sm]
          refine comp_g (fun (a : Nat) => .int (a : Int)) (fun a => .int (((m + a) % 2 ^ plc cs.length : Nat) : Int)) (List.range r) (by simp [rngL]) trivial (by rw [List.length_range]; omega) (fun a ha kk hkk => ?_) ?_
          · simp [wipe]
            refine plo_i (by omega) T (by rw [hl]; exact h1) (by rw [hl]; exact hc) ?_
            simp only [hl]
            try simp
            refine p2_i (by omega) T (by omega) ?_
            rw [o_mod (by omega)]
            have e4 : ((m : Int) + (a : Int)) % ((2 ^ plc cs.length : Nat) : Int) = (((m + a) % 2 ^ plc cs.length : Nat) : Int) := by rw [Int.natCast_emod, Int.natCast_add]
            rw [e4]
            simp only [gd_some, rv_v]
            exact hkk
          · rw [show ((List.range r).map fun a => D.int (((m + a) % 2 ^ plc cs.length : Nat) : Int)) = iL ((List.range r).map fun a => (((m + a) % 2 ^ plc cs.length : Nat) : Int)) by simp [iL], n_srt]
            simp
            exact someQ_i q
        · rw [if_neg z3] at q
          simp [-v_rB, m_goby, z3]
          rw [v_rB]
          by_cases z4 : c = .unless
          · rw [if_pos z4] at q
            simp [m_unless, z4]
            rw [hcd]
            refine pbh_i (by omega) T (by rw [hl]; exact h1) (by rw [hl]; exact hc) ?_
            simp only [hl]
            rw [show [D.int (m : Int), D.int (((p + 1) % 2 ^ plc cs.length : Nat) : Int)] = iL [(m : Int), (((p + 1) % 2 ^ plc cs.length : Nat) : Int)] from rfl, n_sso (by simp)]
            simp
            exact someQ_i q
          · rw [if_neg z4] at q
            simp [m_unless, z4]
            rw [hcd]
            refine pbh_i (by omega) T (by rw [hl]; exact h1) (by rw [hl]; exact hc) ?_
            simp only [hl]
            exact someQ_i q
end
end Cod
end Py
namespace Py
open PySem (Str)
namespace Cod
structure TK (P : Prog) : Prop where
  pw : P.fn "_law_power" = some c__law_power
  nm : P.fn "_law_names" = some c__law_names
  pl : P.fn "_law_places" = some c__law_places
  nu : P.fn "_law_numbers" = some c__law_numbers
  wa : P.fn "_law_word_at" = some c__law_word_at
  ha : P.fn "_law_hand" = some c__law_hand
  st : P.fn "_law_step" = some c__law_step
  lb : P.fn "_law_bits" = some c__law_bits
section
variable {P : Prog} {L : Nat} {h : AH} {Q : D → AH → Prop} {X : Xc}
theorem lpw_i (hL : 1 ≤ L) (T : TK P) {w : Nat} (hw : w ≤ 1000) (q : Q (.int ((2 ^ w : Nat) : Int)) h) : wC P L "_law_power" [.int w] h Q X := by
  obtain ⟨n, rfl⟩ : ∃ n, L = n + 1 := ⟨L - 1, by omega⟩
  refine power_i T.pw (by simp [small62]; omega) ?_
  simpa using q
theorem lnm_i (hL : 1 ≤ L) (T : TK P) (q : Q (.tup (nsD nmL)) h) : wC P L "_law_names" [] h Q X := by
  obtain ⟨n, rfl⟩ : ∃ n, L = n + 1 := ⟨L - 1, by omega⟩
  refine wC_i T.nm rfl ?_
  simp [c__law_names, List.replicate]
  exact someQ_i q
theorem lpl_i (hL : 2 ≤ L) (T : TK P) {c : Nat} (hc : c ≤ 65536) (q : Q (.int (plc c : Nat)) h) : wC P L "_law_places" [.int c] h Q X := by
  obtain ⟨n, rfl⟩ : ∃ n, L = n + 1 := ⟨L - 1, by omega⟩
  obtain ⟨_, pz, p1, pi⟩ := plc_ok (c := c) (Nat.le_trans hc (by decide))
  have s16 : small62 16 = true := by decide
  refine wC_i T.pl rfl ?_
  simp [-v_rB, c__law_places, List.replicate, s16]
  rw [v_rB]
  simp [-v_rB, s16]
  refine for_f (fun i env h' => h' = h ∧ ∃ o, env = [some (.int c), some (.int (min (i + 1) (plc c) : Nat)), o]) ⟨rfl, none, by rw [show min (0 + 1) (plc c) = 1 by omega]; rfl⟩ ?_ ?_
  · rintro i x env h' N hx ⟨rfl, o, rfl⟩ hN
    obtain ⟨hi, rfl⟩ := rngL_at hx
    simp [-v_rB]
    obtain ⟨b, eb⟩ : ∃ b, b = min (i + 1) (plc c) := ⟨_, rfl⟩
    rw [← eb]
    refine lpw_i (by omega) T (by omega) ?_
    by_cases z : 2 ^ b < c
    · have z1 : ((2 ^ b : Nat) : Int) < (c : Int) := by omega
      have z2 : (2 : Int) ^ b < (c : Int) := by simpa using z1
      have := (pi b (by omega)).mp z
      simp [z1, z2]
      exact hN _ _ ⟨rfl, some (.int i), by rw [show min (i + 1 + 1) (plc c) = b + 1 by omega]; simp⟩
    · have z1 : ¬ ((2 ^ b : Nat) : Int) < (c : Int) := by omega
      have z2 : ¬ (2 : Int) ^ b < (c : Int) := by simpa using z1
      have : ¬ b < plc c := fun w => z ((pi b (by omega)).mpr w)
      simp [z1, z2]
      exact hN _ _ ⟨rfl, some (.int i), by rw [show min (i + 1 + 1) (plc c) = b by omega]⟩
  · rintro env h' ⟨rfl, o, rfl⟩
    rw [rngL_length]
    rw [show min (16 + 1) (plc c) = plc c by omega]
    simp
    exact someQ_i q
theorem lnu_i (hL : 3 ≤ L) (T : TK P) {w ws cnt : Nat} {c : Cn} (hw : w ≤ 1000) (hc : cnt ≤ 65536) (q : Q (.int (numb w ws cnt c : Nat)) h) : wC P L "_law_numbers" [.int w, .int ws, .int cnt, .str (cn c)] h Q X := by
  obtain ⟨n, rfl⟩ : ∃ n, L = n + 1 := ⟨L - 1, by omega⟩
  obtain ⟨_, pz, _, _⟩ := plc_ok (c := cnt) (Nat.le_trans hc (by decide))
  have l1 : [D.str (Str.ofString "put"), .str (Str.ofString "plusput")] = nsD wL := rfl
  have l2 : [D.str (Str.ofString "go"), .str (Str.ofString "unless"), .str (Str.ofString "goby")] = nsD gL := rfl
  have l3 : [D.str (Str.ofString "hear"), .str (Str.ofString "show"), .str (Str.ofString "halt")] = nsD aL := rfl
  refine wC_i T.nu rfl ?_
  simp [c__law_numbers, List.replicate, l1, l2, l3, in_nl]
  unfold numb at q
  by_cases z1 : c ∈ wL
  · rw [if_pos z1] at q
    simp [z1]
    exact lpw_i (by omega) T (by omega) (someQ_i q)
  · rw [if_neg z1] at q
    by_cases z2 : c ∈ gL
    · rw [if_pos z2] at q
      simp [z1, z2, l2, in_nl]
      refine lpl_i (by omega) T hc ?_
      try simp
      exact lpw_i (by omega) T (by omega) (someQ_i q)
    · rw [if_neg z2] at q
      by_cases z3 : c ∈ aL
      · rw [if_pos z3] at q
        simp [z1, z2, z3, l2, l3, in_nl]
        exact someQ_i q
      · rw [if_neg z3] at q
        simp [z1, z2, z3, l2, l3, in_nl]
        exact someQ_i q
end
end Cod
end Py
namespace Py
open PySem (Str)
namespace Cod
section
variable {P : Prog} {L : Nat} {h : AH} {Q : D → AH → Prop} {X : Xc}
theorem lwa_i (hL : 1 ≤ L) (T : TK P) {st : List Nat} {k : Nat} (q : ∀ v : Nat, Q (.int v) h) : wC P L "_law_word_at" [.tup (nL st), .int k] h Q X := by
  obtain ⟨n, rfl⟩ : ∃ n, L = n + 1 := ⟨L - 1, by omega⟩
  refine wC_i T.wa rfl ?_
  by_cases z : k < st.length
  · have e := nL_at z
    have z1 : (k : Int) < (st.length : Int) := by omega
    simp [c__law_word_at, List.replicate, z, z1, e]
    exact someQ_i (q _)
  · have z1 : ¬ (k : Int) < (st.length : Int) := by omega
    simp [c__law_word_at, List.replicate, z, z1]
    exact someQ_i (q 0)
theorem lha_i (hL : 2 ≤ L) (T : TK P) {w : Nat} {sh ws : Int} {cs : List Cm} {c : Cn} {m a : Nat} {st : List Nat} (w1 : 1 ≤ w) (hw : w ≤ 8) (q : ∀ v : Int, Q (.int v) h) : wC P L "_law_hand" [cdD w sh ws cs, .str (cn c), .int m, .int a, .tup (nL st), .int 0] h Q X := by
  obtain ⟨n, rfl⟩ : ∃ n, L = n + 1 := ⟨L - 1, by omega⟩
  obtain ⟨cd, hcd⟩ : ∃ cd, cd = cdD w sh ws cs := ⟨_, rfl⟩
  have hcd' := hcd
  unfold cdD at hcd'
  have ix0 : ∀ h, ixD (.v cd) (.v (.int 0)) h = some (.int w) := fun h => by rw [hcd']; rfl
  have p0 : (0 : Int) < ((2 ^ w : Nat) : Int) := by have := Nat.pow_pos (n := w) (show 0 < 2 by decide); omega
  have fin : ∀ v : Int, someQ Q (.int v) h := fun v => someQ_i (q v)
  have e1 : (w : Int) - 1 = ((w - 1 : Nat) : Int) := by omega
  have p1 : (0 : Int) < ((2 ^ (w - 1) : Nat) : Int) := by have := Nat.pow_pos (n := w - 1) (show 0 < 2 by decide); omega
  rw [← hcd]
  refine wC_i T.ha rfl ?_
  simp [-v_rB, c__law_hand, List.replicate, ix0]
  refine lpw_i (by omega) T (by omega) ?_
  generalize ((2 ^ w : Nat) : Int) = S at p0
  try simp [-v_rB]
  rw [v_rB]
  simp [-v_rB]
  refine lwa_i (by omega) T fun v => ?_
  try simp [-v_rB]
  cases c <;> simp [m_put, m_plusput, m_take, m_takeby, m_plus, m_minus, m_less, m_same, m_hear, o_mod p0, ix0] <;> first | exact fin _ | (refine lwa_i (by omega) T fun v2 => ?_; exact fin _) | skip
  rw [e1]
  refine lpw_i (by omega) T (by omega) ?_
  rw [o_mod p1]
  simp only [gd_some, rv_v]
  exact fin _
theorem lst_i (hL : 3 ≤ L) (T : TK P) {w shn : Nat} {ws : Int} {cs : List Cw} {p a : Nat} {st : List Nat} {lg : D} (w1 : 1 ≤ w) (hw : w ≤ 8) (hsh : shn ≤ 8) (h1 : 1 ≤ cs.length) (hc : cs.length ≤ 65536) (hst : st.length ≤ 1000) (ok : ∀ n, cs[p]? = some (.keepby, n) → n < st.length)
    (q : ∀ r : List D, Q (.tup (.int (nx (2 ^ plc cs.length) cs p a : Nat) :: r)) h) : wC P L "_law_step" [cdD w shn ws (zC cs), .tup [.int p, .int a, .tup (nL st), lg], .int 0] h Q X := by
  obtain ⟨n, rfl⟩ : ∃ n, L = n + 1 := ⟨L - 1, by omega⟩
  obtain ⟨_, pz, _, _⟩ := plc_ok (c := cs.length) (Nat.le_trans hc (by decide))
  have hl : (zC cs).length = cs.length := zC_len
  have smt : small62 (st.length : Int) = true := by simp [small62]; omega
  obtain ⟨cd, hcd⟩ : ∃ cd, cd = cdD w shn ws (zC cs) := ⟨_, rfl⟩
  have hcd' := hcd
  unfold cdD at hcd'
  have ix3 : ∀ h, ixD (.v cd) (.v (.int 3)) h = some (.tup (csD (zC cs))) := fun h => by rw [hcd']; rfl
  have ix0 : ∀ h, ixD (.v cd) (.v (.int 0)) h = some (.int w) := fun h => by rw [hcd']; rfl
  have ix1 : ∀ h, ixD (.v cd) (.v (.int 1)) h = some (.int shn) := fun h => by rw [hcd']; rfl
  rw [← hcd]
  refine wC_i T.st rfl ?_
  have S0 : 0 < 2 ^ plc cs.length := Nat.pow_pos (by decide)
  unfold nx at q
  cases e : cs[p]? with
  | none =>
    rw [e] at q
    have ge : cs.length ≤ p := List.getElem?_eq_none_iff.mp e
    have ge' : (cs.length : Int) ≤ (p : Int) := by omega
    simp [c__law_step, List.replicate, ix3, ge, ge']
    exact someQ_i (q _)
  | some cn' =>
    obtain ⟨c, m⟩ := cn'
    rw [e] at q ok
    simp only at q
    have lt : p < cs.length := (List.getElem?_eq_some_iff.mp e).1
    have lt' : ¬ (cs.length : Int) ≤ (p : Int) := by omega
    have lt2 : ¬ cs.length ≤ p := by omega
    have at1 := cs_at e
    have a0 : ∀ a b : D, atI [a, b] 0 = some a := fun _ _ => rfl
    simp [-v_rB, c__law_step, List.replicate]
    rw [v_rB]
    by_cases z1 : c = .halt
    · rw [if_pos z1] at q
      simp [-v_rB, ix3, lt', lt2, at1, m_halt, z1]
      try rw [v_rB]
      try simp
      exact someQ_i (q _)
    · rw [if_neg z1] at q
      simp [-v_rB, ix3, lt', lt2, at1, m_halt, z1]
      rw [v_rB]
      simp [-v_rB, ix3, at1]
      rw [v_rB]
      simp [-v_rB, ix3]
      refine lpl_i (by omega) T hc ?_
      try simp [-v_rB]
      refine lpw_i (by omega) T (by omega) ?_
      generalize hS : 2 ^ plc cs.length = S at q S0
      have S0' : (0 : Int) < (S : Int) := by omega
      obtain ⟨u, eu⟩ : ∃ u : Nat, u = (p + 1) % S := ⟨_, rfl⟩
      obtain ⟨v, ev⟩ : ∃ v : Nat, v = (m + a) % S := ⟨_, rfl⟩
      have em1 : ((p : Int) + 1) % (S : Int) = (u : Int) := by rw [eu, Int.natCast_emod, Int.natCast_add]; rfl
      have em2 : ((m : Int) + (a : Int)) % (S : Int) = (v : Int) := by rw [ev, Int.natCast_emod, Int.natCast_add]
      obtain ⟨t, et⟩ : ∃ t : Nat, t = nxt S c m p a := ⟨_, rfl⟩
      rw [← et] at q
      unfold nxt at et
      rw [← eu, ← ev] at et
      try simp [-v_rB]
      rw [v_rB]
      simp [-v_rB, o_mod S0', em1]
      rw [v_rB]
      refine cut_i (fun env h' => h' = h ∧ env = [some cd, some (.tup [.int p, .int a, .tup (nL st), lg]), some (.int 0), some (.int p), some (.int a), some (.tup (nL st)), some lg, some (.str (cn c)), some (.int m), some (.int S), some (.int ((if c = .go ∨ (c = .unless ∧ a = 0) then m else u : Nat) : Int)), none, none, none, none]) (fun N hN => ?_) ?_
      · have a0' : ((a : Int) = 0) = (a = 0) := by simp
        by_cases y1 : c = .go
        · rw [if_pos (.inl y1)] at hN
          simp [m_go, m_unless, y1]
          rw [y1] at hN
          exact hN _ _ ⟨rfl, rfl⟩
        · by_cases y2 : c = .unless
          · by_cases y3 : a = 0
            · rw [if_pos (.inr ⟨y2, y3⟩)] at hN
              subst y2 y3
              simp [m_go, m_unless]
              exact hN _ _ ⟨rfl, rfl⟩
            · rw [if_neg (fun z => z.elim y1 fun z => y3 z.2)] at hN
              subst y2
              simp [m_go, m_unless, y3]
              exact hN _ _ ⟨rfl, rfl⟩
          · rw [if_neg (fun z => z.elim y1 fun z => y2 z.1)] at hN
            simp [m_go, m_unless, y1, y2]
            exact hN _ _ ⟨rfl, rfl⟩
      rintro env h' ⟨rfl, rfl⟩
      refine cut_i (fun env h2 => h2 = h' ∧ env = [some cd, some (.tup [.int p, .int a, .tup (nL st), lg]), some (.int 0), some (.int p), some (.int a), some (.tup (nL st)), some lg, some (.str (cn c)), some (.int m), some (.int S), some (.int t), none, none, none, none]) (fun N hN => ?_) ?_
      · by_cases y1 : c = .goby
        · have : t = v := by rw [et, if_neg (by rw [y1]; simp), if_neg (by rw [y1]; simp), if_pos y1]
          subst this
          subst y1
          simp [m_goby, o_mod S0', em2]
          exact hN _ _ ⟨rfl, rfl⟩
        · have : (if c = .go ∨ (c = .unless ∧ a = 0) then m else u) = t := by
            rw [et]
            by_cases y2 : c = .go
            · simp [y2]
            · by_cases y3 : c = .unless
              · by_cases y4 : a = 0 <;> simp [y3, y4]
              · simp [y1, y2, y3]
          rw [this]
          simp [m_goby, y1]
          exact hN _ _ ⟨rfl, rfl⟩
      rintro env h2 ⟨rfl, rfl⟩
      simp [-v_rB]
      rw [v_rB]
      refine cut_i (fun env h' => h' = h2 ∧ ∃ s : Int, env = [some cd, some (.tup [.int p, .int a, .tup (nL st), lg]), some (.int 0), some (.int p), some (.int a), some (.tup (nL st)), some lg, some (.str (cn c)), some (.int m), some (.int S), some (.int t), some (.int s), none, none, none]) (fun N hN => ?_) ?_
      · by_cases y1 : c = .keep
        · subst y1
          simp [m_keep]
          exact hN _ _ ⟨rfl, _, rfl⟩
        · simp [m_keep, y1]
          exact hN _ _ ⟨rfl, _, rfl⟩
      rintro env h' ⟨rfl, s11, rfl⟩
      refine cut_i (fun env h2 => h2 = h' ∧ ∃ s : Int, env = [some cd, some (.tup [.int p, .int a, .tup (nL st), lg]), some (.int 0), some (.int p), some (.int a), some (.tup (nL st)), some lg, some (.str (cn c)), some (.int m), some (.int S), some (.int t), some (.int s), none, none, none]) (fun N hN => ?_) ?_
      · by_cases y1 : c = .keepby
        · have := nL_at (ok m (by rw [y1]))
          subst y1
          simp [m_keepby, this]
          exact hN _ _ ⟨rfl, _, rfl⟩
        · simp [m_keepby, y1]
          exact hN _ _ ⟨rfl, _, rfl⟩
      rintro env h2 ⟨rfl, s12, rfl⟩
      simp [-v_rB, smt]
      refine comp_g (fun (k : Nat) => .int (k : Int)) (fun k => if (k : Int) = s12 then .int a else .int (gn st k : Nat)) (List.range st.length) (by simp [rngL]) trivial (by rw [List.length_range]; omega) (fun k hk kk hkk => ?_) ?_
      · rw [List.mem_range] at hk
        have := nL_at hk
        simp [wipe]
        by_cases y : (k : Int) = s12
        · simp [y] at hkk ⊢
          exact hkk
        · simp [y, this] at hkk ⊢
          exact hkk
      try simp [-v_rB]
      rw [v_rB]
      refine cut_i (fun env h' => h' = h2 ∧ ∃ d12 d6 : D, env = [some cd, some (.tup [.int p, .int a, .tup (nL st), lg]), some (.int 0), some (.int p), some (.int a), some (.tup (nL st)), some d6, some (.str (cn c)), some (.int m), some (.int S), some (.int t), some (.int s12), some d12, none, none]) (fun N hN => ?_) ?_
      · by_cases y1 : c = .show_
        · subst y1
          obtain ⟨n', rfl⟩ : ∃ n', n = n' + 1 := ⟨n - 1, by omega⟩
          simp [m_show, ix1]
          refine law_bits_i T.lb (by omega) ?_
          try simp
          exact hN _ _ ⟨rfl, _, _, rfl⟩
        · simp [m_show, y1]
          exact hN _ _ ⟨rfl, _, _, rfl⟩
      rintro env h' ⟨rfl, d12, d6, rfl⟩
      simp
      rw [hcd]
      refine lha_i (by omega) T w1 hw fun hv => ?_
      exact someQ_i (q _)
end
end Cod
end Py
namespace Py
open PySem (Str)
namespace Cod
/-- commands that are right -/
def CmOk (w ws cnt : Nat) (cs : List Cw) : Prop := ∀ c ∈ cs, c.1 ∈ nmL ∧ c.2 < numb w ws cnt c.1
theorem zC_app {xs ys : List Cw} : zC (xs ++ ys) = zC xs ++ zC ys := by simp [zC]
theorem csD_app {xs ys : List Cm} : csD (xs ++ ys) = csD xs ++ csD ys := by simp [csD]
theorem ns_at {v : Nat} (hv : v < 16) : ∃ c ∈ nmL, atI (nsD nmL) (v : Int) = some (.str (cn c)) := by
  have hl : v < nmL.length := hv
  refine ⟨nmL[v], List.getElem_mem _, atN ?_⟩
  simp [nsD, List.getElem?_eq_getElem hl]
theorem nm_ne {c : Cn} (h : c ∈ nmL) : c ≠ .puts := fun e => by rw [e] at h; revert h; decide
theorem numb_pos {w ws cnt : Nat} {c : Cn} (h : 1 ≤ ws) : 0 < numb w ws cnt c := by
  unfold numb
  split
  · exact Nat.pow_pos (by decide)
  · split
    · exact Nat.pow_pos (by decide)
    · split <;> omega
section
variable {P : Prog} {L : Nat} {h : AH} {Q : D → AH → Prop} {X : Xc}
theorem tak_i (hL : 1 ≤ L) (hf : P.fn "_law_take" = some c__law_take) {h0 : AH} {g m : Nat} (k : Kd h0 g h) (hm : 0 < m) (q : ∀ (v : Nat) h', v < m → Kd h0 g h' → (∀ b, b ≠ g → h' b = h b) → Q (.int v) h') : wC P L "_law_take" [.loc g, .int m] h Q X := by
  obtain ⟨n, rfl⟩ : ∃ n, L = n + 1 := ⟨L - 1, by omega⟩
  obtain ⟨ds, e⟩ := k.dr
  refine take_i hf (by omega) e fun v ds' v0 v1 => ?_
  obtain ⟨j, rfl⟩ := Int.eq_ofNat_of_zero_le v0
  exact q j _ (by omega) (k.take ds') fun b nb => put_ne nb
theorem lco_i (hL : 5 ≤ L) (T : TK P) (hf : P.fn "_law_code" = some c__law_code) (ht : P.fn "_law_take" = some c__law_take) {w ws cnt : Nat} (hw : w ≤ 8) (hws : 1 ≤ ws) (hc : cnt ≤ 1000) {h0 : AH} {g : Nat} (hg : h0 g ≠ none) (kd : Kd h0 g h)
    (q : ∀ (shn : Nat) (cs : List Cw) h', shn ≤ w → cs.length = cnt → CmOk w ws cnt cs → Kd h0 g h' → Q (cdD w shn ws (zC cs)) h') : wC P L "_law_code" [.loc g, .int w, .int ws, .int cnt] h Q X := by
  obtain ⟨n, rfl⟩ : ∃ n, L = n + 1 := ⟨L - 1, by omega⟩
  have smc : small62 (cnt : Int) = true := by simp [small62]; omega
  refine wC_i hf rfl ?_
  simp [-v_rB, c__law_code, List.replicate]
  intro b hb
  obtain ⟨b0, bg⟩ := kd.free hg hb
  have kd1 := kd.own b0 bg (.lst [])
  rw [v_rB]
  simp [-v_rB, smc]
  refine for_f (fun i env h' => Kd h0 g h' ∧ ∃ o5 o6, ∃ cs : List Cw, cs.length = i ∧ CmOk w ws cnt cs ∧ h' b = some (.lst (csD (zC cs))) ∧ env = [some (.loc g), some (.int w), some (.int ws), some (.int cnt), some (.loc b), o5, o6]) ⟨kd1, none, none, [], rfl, (fun c hc => absurd hc (by simp)), put_self, rfl⟩ ?_ ?_
  · rintro i x env h' N hx ⟨kd2, o5, o6, cs, cl, co, eb, rfl⟩ hN
    obtain ⟨hi, rfl⟩ := rngL_at hx
    simp [-v_rB]
    refine lnm_i (by omega) T ?_
    try simp [-v_rB]
    refine tak_i (m := 16) (by omega) ht kd2 (by omega) fun v h3 hv kd3 k3 => ?_
    obtain ⟨c, cm, ec⟩ := ns_at hv
    simp [-v_rB, ec]
    rw [v_rB]
    have eb3 : h3 b = some (.lst (csD (zC cs))) := by rw [k3 b bg]; exact eb
    refine cut_i (fun env h' => (Kd h0 g h' ∧ h' b = some (.lst (csD (zC cs)))) ∧ ∃ c ∈ nmL, env = [some (.loc g), some (.int w), some (.int ws), some (.int cnt), some (.loc b), some (.int i), some (.str (cn c))]) (fun N2 hN2 => ?_) ?_
    · by_cases z : c = .halt
      · subst z
        simp [m_halt]
        refine tak_i (m := 3) (by omega) ht kd3 (by omega) fun v2 h4 hv2 kd4 k4 => ?_
        have eb4 : h4 b = some (.lst (csD (zC cs))) := by rw [k4 b bg]; exact eb3
        by_cases z2 : 0 < v2
        · simp [z2]
          exact hN2 _ _ ⟨⟨kd4, eb4⟩, .show_, by decide, rfl⟩
        · simp [z2]
          exact hN2 _ _ ⟨⟨kd4, eb4⟩, .halt, by decide, rfl⟩
      · simp [m_halt, z]
        exact hN2 _ _ ⟨⟨kd3, eb3⟩, c, cm, rfl⟩
    rintro env h4 ⟨⟨kd4, eb4⟩, c, cm, rfl⟩
    refine cut_i (fun env h' => (Kd h0 g h' ∧ h' b = some (.lst (csD (zC cs)))) ∧ ∃ c ∈ nmL, env = [some (.loc g), some (.int w), some (.int ws), some (.int cnt), some (.loc b), some (.int i), some (.str (cn c))]) (fun N2 hN2 => ?_) ?_
    · by_cases z : c = .go
      · subst z
        simp [m_go]
        refine tak_i (m := 2) (by omega) ht kd4 (by omega) fun v2 h5 hv2 kd5 k5 => ?_
        have eb5 : h5 b = some (.lst (csD (zC cs))) := by rw [k5 b bg]; exact eb4
        by_cases z2 : v2 = 0
        · simp [z2]
          exact hN2 _ _ ⟨⟨kd5, eb5⟩, .keep, by decide, rfl⟩
        · simp [z2]
          exact hN2 _ _ ⟨⟨kd5, eb5⟩, .go, by decide, rfl⟩
      · simp [m_go, z]
        exact hN2 _ _ ⟨⟨kd4, eb4⟩, c, cm, rfl⟩
    rintro env h5 ⟨⟨kd5, eb5⟩, c, cm, rfl⟩
    simp [eb5]
    refine lnu_i (by omega) T (by omega) (by omega) ?_
    try simp
    refine tak_i (by omega) ht kd5 (numb_pos hws) fun v2 h6 hv2 kd6 k6 => ?_
    have eb6 : h6 b = some (.lst (csD (zC cs))) := by rw [k6 b bg]; exact eb5
    try simp
    rw [m_app eb6 (by simp; omega)]
    simp
    refine hN _ _ ⟨kd6.own b0 bg _, _, _, cs ++ [(c, v2)], by simp [cl], ?_, ?_, rfl⟩
    · intro x hx
      rw [List.mem_append, List.mem_singleton] at hx
      rcases hx with hx | rfl
      · exact co x hx
      · exact ⟨cm, hv2⟩
    · rw [put_self, zC_app, csD_app]; rfl
  · rintro env h' ⟨kd2, o5, o6, cs, cl, co, eb, rfl⟩
    rw [rngL_length] at cl
    have cl' : cs.length = cnt := by simpa using cl
    simp
    rw [show (w : Int) + 1 = ((w + 1 : Nat) : Int) by omega]
    refine tak_i (by omega) ht kd2 (by omega) fun v h3 hv kd3 k3 => ?_
    have eb3 : h3 b = some (.lst (csD (zC cs))) := by rw [k3 b bg]; exact eb
    simp [eb3]
    exact someQ_i (q v cs h3 (by omega) cl' co kd3)
end
end Cod
end Py
namespace Py
open PySem (Str)
namespace Cod
/-- a right code, in numbers -/
structure RC (w shn ws : Nat) (cs : List Cw) : Prop where
  w2 : 2 ≤ w
  w8 : w ≤ 8
  sw : shn ≤ w
  m1 : 1 ≤ ws
  mw : ws ≤ 2 ^ w
  c1 : 1 ≤ cs.length
  cz : cs.length ≤ 1000
  ok : CmOk w ws cs.length cs
theorem RC.cr {w shn ws : Nat} {cs : List Cw} (R : RC w shn ws cs) : CR w shn ws (zC cs) := by
  have a := R.w2; have b := R.w8; have c := R.sw; have d := R.m1; have e := R.c1; have f := R.cz
  have mw := R.mw
  have g : (ws : Int) ≤ ((2 ^ w : Nat) : Int) := by omega
  refine ⟨by omega, by omega, by omega, by omega, by omega, by simpa using g, by simpa using e, by simp; omega, fun x hx => ?_⟩
  obtain ⟨y, hy, rfl⟩ :=
      List.mem_map.mp hx
  obtain ⟨y1, y2⟩ := R.ok y hy
  refine ⟨y1, by simp, ?_⟩
  simp only [Int.toNat_natCast, zC_len]
  omega
def Bad (d : D) : Prop := ∃ w sh ws cs, d = cdD w sh ws cs ∧ cs.length ≤ 100000 ∧ ¬ CR w sh ws cs
def alt (cs : List Cm) (k : Nat) (c : Cm) : List Cm := cs.take k ++ [c] ++ cs.drop (k + 1)
theorem alt_len {cs : List Cm} {k : Nat} {c : Cm} (hk : k < cs.length) : (alt cs k c).length = cs.length := by simp [alt]; omega
theorem alt_mem {cs : List Cm} {k : Nat} {c : Cm} : c ∈ alt cs k c := by simp [alt]
theorem alt_bad {w sh ws : Int} {cs : List Cm} {k : Nat} {c : Cm} (hk : k < cs.length) (h : c.1 ∉ nmL ∨ c.2 < 0 ∨ (numb w.toNat ws.toNat cs.length c.1 : Int) ≤ c.2) : ¬ CR w sh ws (alt cs k c) := fun R => by
  obtain ⟨a, b, d⟩ := R.cs c alt_mem
  rw [alt_len hk] at d
  rcases h with h | h | h
  · exact h a
  · omega
  · omega
section
variable {P : Prog} {L : Nat} {h : AH} {Q : D → AH → Prop} {X : Xc}
theorem cutT {α : Type} (xs : List α) (k : Nat) : cut xs none (some (k : Int)) = xs.take k := by
  show (xs.drop 0).take ((if (k : Int) < 0 then ((k : Int) + (xs.length : Int)).toNat else min (k : Int).toNat xs.length) - 0) = _
  rw [if_neg (by omega), Int.toNat_natCast, List.drop_zero, Nat.sub_zero]
  by_cases h : k ≤ xs.length
  · rw [Nat.min_eq_left h]
  · rw [Nat.min_eq_right (by omega), List.take_of_length_le (Nat.le_refl _),
        List.take_of_length_le (by omega)]
theorem cutDr {α : Type} (xs : List α) (k : Nat) : cut xs (some (k : Int)) none = xs.drop k := by
  show (xs.drop (if (k : Int) < 0 then ((k : Int) + (xs.length : Int)).toNat else min (k : Int).toNat xs.length)).take (xs.length - (if (k : Int) < 0 then ((k : Int) + (xs.length : Int)).toNat else min (k : Int).toNat xs.length)) = _
  rw [if_neg (by omega),
      Int.toNat_natCast]
  by_cases h : k ≤ xs.length
  · rw [Nat.min_eq_left h]
    exact List.take_of_length_le
        (by simp)
  · rw [Nat.min_eq_right (by omega), List.drop_of_length_le (Nat.le_refl _), List.drop_of_length_le (show xs.length ≤ k by omega)]
    simp
theorem cutS {α : Type} (xs : List α) (k : Nat) : cut xs (some ((k : Int) + 1)) none = xs.drop (k + 1) := by
  have := cutDr xs (k + 1)
  rwa [Int.natCast_add, Int.natCast_one] at this
theorem alt_d {cs : List Cm} {k : Nat} {c : Cm} {h : AH} (hl : cs.length ≤ 1000) : binD .add (.v (.tup ((csD cs).take k ++ [.tup [.str (cn c.1), .int c.2]]))) (.v (.tup ((csD cs).drop (k + 1)))) h = some (.v (.tup (csD (alt cs k c)))) := by
  rw [o_addt (by simp; omega)]
  simp [alt, csD]
theorem aref_i (hL : 9 ≤ L) (T : TC P) (K : TK P) (hf : P.fn "_law_are_refused" = some c__law_are_refused) (hr : P.fn "_law_is_refused" = some c__law_is_refused) (hs : P.sub "InvalidCode" "InvalidCode" = some true) (ht : P.fn "_law_take" = some c__law_take) {w shn ws : Nat} {cs : List Cw} (R : RC w shn ws cs) {v : Int} {h0 : AH} {g : Nat} (hg : h0 g ≠ none) (kd : Kd h0 g h)
    (q : ∀ h', Kd h0 g h' → Q (.bl true) h') : wC P L "_law_are_refused" [.loc g, cdD w shn ws (zC cs), .int v] h Q X := by
  obtain ⟨n, rfl⟩ : ∃ n, L = n + 1 := ⟨L - 1, by omega⟩
  have a1 := R.w2; have a2 := R.w8; have a3 := R.sw; have a4 := R.m1; have a5 := R.c1; have a6 := R.cz
  have hl : (zC cs).length = cs.length := zC_len
  obtain ⟨f, ef⟩ : ∃ f : Nat, (if v < 0 then -v else v) = (f : Int) := ⟨v.natAbs, by split <;> omega⟩
  refine wC_i hf rfl ?_
  simp [-v_rB, c__law_are_refused, List.replicate, cdD]
  rw [v_rB]
  simp [-v_rB, ef]
  rw [v_rB]
  simp [-v_rB]
  intro b hb
  obtain ⟨b0, bg⟩ := kd.free hg hb
  rw [v_rB]
  have kd1 := fun o => kd.own b0 bg o
  have e1 : Bad (.tup [.int (1 - (f : Int)), .int shn, .int ws, .tup (csD (zC cs))]) := ⟨_, _, _, _, rfl, by omega, fun z => by have := z.w2; omega⟩
  have e2 : Bad (.tup [.int (9 + (f : Int)), .int shn, .int ws, .tup (csD (zC cs))]) := ⟨_, _, _, _, rfl, by omega, fun z => by have := z.w8; omega⟩
  have e3 : Bad (.tup [.int w, .int ((w : Int) + 1 + (f : Int)), .int ws, .tup (csD (zC cs))]) := ⟨_, _, _, _, rfl, by omega, fun z => by have := z.sw; omega⟩
  have e4 : Bad (.tup [.int w, .int (-1 - (f : Int)), .int ws, .tup (csD (zC cs))]) := ⟨_, _, _, _, rfl, by omega, fun z => by have := z.s0; omega⟩
  have e5 : Bad (.tup [.int w, .int shn, .int (0 - (f : Int)), .tup (csD (zC cs))]) := ⟨_, _, _, _, rfl, by omega, fun z => by have := z.m0; omega⟩
  have e6 : ∀ S : Int, S = ((2 ^ w : Nat) : Int) → Bad (.tup [.int w, .int shn, .int (S + 1 + (f : Int)), .tup (csD (zC cs))]) := fun S hS => ⟨_, _, _, _, rfl, by omega, fun z => by
    have := z.mw
    simp only [Int.toNat_natCast] at this
    have e : ((2 ^ w : Nat) : Int) = (2 : Int) ^ w := by simp
    omega⟩
  have e7 : Bad (.tup [.int w, .int shn, .int ws, .tup []]) := ⟨_, _, _, [], rfl, by simp, fun z => by have := z.c0; simp at this⟩
  have bad1 : ∀ d ∈ [D.tup [.int (1 - (f : Int)), .int shn, .int ws, .tup (csD (zC cs))], .tup [.int (9 + (f : Int)), .int shn, .int ws, .tup (csD (zC cs))], .tup [.int w, .int ((w : Int) + 1 + (f : Int)), .int ws, .tup (csD (zC cs))], .tup [.int w, .int (-1 - (f : Int)), .int ws, .tup (csD (zC cs))]], Bad d := by
    intro d hd
    simp only [List.mem_cons, List.not_mem_nil, or_false] at hd
    rcases hd with rfl | rfl | rfl | rfl <;> assumption
  have len1 : [D.tup [.int (1 - (f : Int)), .int shn, .int ws, .tup (csD (zC cs))], .tup [.int (9 + (f : Int)), .int shn, .int ws, .tup (csD (zC cs))], .tup [.int w, .int ((w : Int) + 1 + (f : Int)), .int ws, .tup (csD (zC cs))], .tup [.int w, .int (-1 - (f : Int)), .int ws, .tup (csD (zC cs))]].length ≤ 100 := by simp
  generalize [D.tup [.int (1 - (f : Int)), .int shn, .int ws, .tup (csD (zC cs))], .tup [.int (9 + (f : Int)), .int shn, .int ws, .tup (csD (zC cs))], .tup [.int w, .int ((w : Int) + 1 + (f : Int)), .int ws, .tup (csD (zC cs))], .tup [.int w, .int (-1 - (f : Int)), .int ws, .tup (csD (zC cs))]] = ds1 at bad1 len1
  generalize D.tup [.int w, .int shn, .int ws, .tup (csD (zC cs))] = cd
  have eb1 : (put h b (.lst ds1)) b = some (.lst ds1) := put_self
  have kd2 := kd1 (.lst ds1)
  generalize put h b (.lst ds1) = h1 at eb1 kd2
  simp [-v_rB]
  refine lpw_i (by omega) K (by omega) ?_
  have e6' := e6 ((2 ^ w : Nat) : Int) rfl
  simp [-v_rB] at e6'
  try simp [-v_rB]
  rw [o_addlo eb1 (by simp; omega)]
  simp [-v_rB]
  intro b2 hb2
  obtain ⟨b20, b2g⟩ := kd2.free hg hb2
  rw [v_rB]
  have e5' : Bad (.tup [.int w, .int shn, .int (-(f : Int)), .tup (csD (zC cs))]) := by
    rw [Int.zero_sub] at e5
    exact e5
  have bad2 : ∀ d ∈ ds1 ++ [D.tup [.int w, .int shn, .int (-(f : Int)), .tup (csD (zC cs))], .tup [.int w, .int shn, .int ((2 : Int) ^ w + 1 + (f : Int)), .tup (csD (zC cs))], .tup [.int w, .int shn, .int ws, .tup []]], Bad d := by
    intro d hd
    rw [List.mem_append] at hd
    rcases hd with hd | hd
    · exact bad1 d hd
    · simp only [List.mem_cons, List.not_mem_nil, or_false] at hd
      rcases hd with rfl | rfl | rfl <;> assumption
  have len2 : (ds1 ++ [D.tup [.int w, .int shn, .int (-(f : Int)), .tup (csD (zC cs))], .tup [.int w, .int shn, .int ((2 : Int) ^ w + 1 + (f : Int)), .tup (csD (zC cs))], .tup [.int w, .int shn, .int ws, .tup []]]).length ≤ 110 := by
    rw [List.length_append]
    simp only [List.length_cons,
        List.length_nil]
    omega
  generalize ds1 ++ [D.tup [.int w, .int shn, .int (-(f : Int)), .tup (csD (zC cs))], .tup [.int w, .int shn, .int ((2 : Int) ^ w + 1 + (f : Int)), .tup (csD (zC cs))], .tup [.int w, .int shn, .int ws, .tup []]] = ds2 at bad2 len2
  have eb2 : (put h1 b2 (.lst ds2)) b2 = some (.lst ds2) := put_self
  have kd3 := kd2.own b20 b2g (.lst ds2)
  generalize put h1 b2 (.lst ds2) = h2 at eb2 kd3
  simp [-v_rB]
  refine tak_i (m := cs.length) (by omega) ht kd3 (by omega) fun k h3 hk kd4 k4 => ?_
  have eb3 : h3 b2 = some (.lst ds2) := by rw [k4 b2 b2g]; exact eb2
  have hk2 : k < (zC cs).length := by rw [hl]; exact hk
  try simp [-v_rB]
  rw [v_rB]
  simp [-v_rB]
  refine lnm_i (by omega) K ?_
  simp [-v_rB]
  refine for_f (fun i env h' => Kd h0 g h' ∧ ∃ ds o10 o11, h' b2 = some (.lst ds) ∧ (∀ d ∈ ds, Bad d) ∧ ds.length ≤ 110 + 2 * i ∧ env = [some (.loc g), some cd, some (.int v), some (.int w), some (.int shn), some (.int ws), some (.tup (csD (zC cs))), some (.int f), some (.loc b2), some (.int k), o10, o11, none, none]) ⟨kd4, ds2, none, none, eb3, bad2, by omega, rfl⟩ ?_ ?_
  · rintro i x env h' N hx ⟨kd5, ds, o10, o11, eb, bd, ln, rfl⟩ hN
    unfold nsD at hx
    rw [List.getElem?_map, Option.map_eq_some_iff] at hx
    obtain ⟨c, hc, rfl⟩ := hx
    have i16 : i < 16 := by
      have := (List.getElem?_eq_some_iff.mp hc).1
      exact this
    simp [-v_rB]
    refine lnu_i (by omega) K (by omega) (by omega) ?_
    simp [-v_rB]
    refine for_f (fun j env h' => Kd h0 g h' ∧ ∃ ds o11, h' b2 = some (.lst ds) ∧ (∀ d ∈ ds, Bad d) ∧ ds.length ≤ 110 + 2 * i + j ∧ env = [some (.loc g), some cd, some (.int v), some (.int w), some (.int shn), some (.int ws), some (.tup (csD (zC cs))), some (.int f), some (.loc b2), some (.int k), some (.str (cn c)), o11, none, none]) ⟨kd5, ds, _, eb, bd, by omega, rfl⟩ ?_ ?_
    · rintro j x env h6 N2 hx ⟨kd6, ds, o11, eb, bd, ln, rfl⟩ hN2
      obtain ⟨z, rfl, hz, hj⟩ : ∃ z : Int, x = .int z ∧ (z < 0 ∨ (numb w ws cs.length c : Int) ≤ z) ∧ j < 2 := by
        match j, hx with
        | 0, hx => exact ⟨_, (Option.some.inj hx).symm, .inl (by omega), by omega⟩
        | 1, hx => exact ⟨_, (Option.some.inj hx).symm, .inr (by omega), by omega⟩
      simp [eb, cutT, cutS]
      rw [o_addt (by simp; omega)]
      simp only [gd_some]
      rw [alt_d (c := (c, z)) (by omega)]
      simp only [gd_some, rv_v]
      rw [m_app eb (by omega)]
      simp
      refine hN2 _ _ ⟨kd6.own b20 b2g _, _, _, put_self, fun d hd => ?_, by rw [List.length_append]; simp only [List.length_cons, List.length_nil]; omega, rfl⟩
      rw [List.mem_append, List.mem_singleton] at hd
      rcases hd with hd | rfl
      · exact bd d hd
      · exact ⟨_, _, _, _, rfl, by rw [alt_len hk2]; omega, alt_bad hk2 (by simp only [Int.toNat_natCast, hl]; exact .inr hz)⟩
    · rintro env h6 ⟨kd6, ds, o11, eb, bd, ln, rfl⟩
      simp only [List.length_cons, List.length_nil] at ln
      simp
      exact hN _ _ ⟨kd6, _, _, _, eb, bd, by omega, rfl⟩
  · rintro env h' ⟨kd5, ds, o10, o11, eb, bd, ln, rfl⟩
    rw [show (nsD nmL).length = 16 from rfl] at ln
    simp only [v_nx]
    rw [v_rB]
    simp [-v_rB, eb, cutT, cutS]
    rw [o_addt (by simp; omega)]
    simp only [gd_some]
    rw [show [D.tup [.str (Str.ofString "puts"), .int 0]] = [D.tup [.str (cn (Cn.puts, (0 : Int)).1), .int (Cn.puts, (0 : Int)).2]] from rfl, alt_d (by omega)]
    simp only [gd_some, rv_v]
    rw [m_app eb (by omega)]
    simp [-v_rB]
    have b9 : Bad (.tup [.int w, .int shn, .int ws, .tup (csD (alt (zC cs) k (Cn.puts, 0)))]) := ⟨_, _, _, _, rfl, by rw [alt_len hk2]; omega, alt_bad hk2 (.inl (by decide))⟩
    have bad3 : ∀ d ∈ ds ++ [D.tup [.int w, .int shn, .int ws, .tup (csD (alt (zC cs) k (Cn.puts, 0)))]], Bad d := fun d hd => by
      rw [List.mem_append, List.mem_singleton] at hd
      rcases hd with hd | rfl
      · exact bd d hd
      · exact b9
    have len3 : (ds ++ [D.tup [.int w, .int shn, .int ws, .tup (csD (alt (zC cs) k (Cn.puts, 0)))]]).length ≤ 1000 := by rw [List.length_append]; simp only [List.length_cons, List.length_nil]; omega
    generalize ds ++ [D.tup [.int w, .int shn, .int ws, .tup (csD (alt (zC cs) k (Cn.puts, 0)))]] = ds3 at bad3 len3
    have eb3 : (put h' b2 (.lst ds3)) b2 = some (.lst ds3) := put_self
    have kd6 := kd5.own b20 b2g (.lst ds3)
    generalize put h' b2 (.lst ds3) = h6 at eb3 kd6
    rw [v_rB]
    simp [c_l eb3]
    refine compi_m (fun _ => false) (fun d => d) eb3 (by simp only [v_lsti]; omega) (fun x hx kk hkk => ?_) ?_
    · simp only [v_lsti] at hx
      obtain ⟨w', sh', ws', cs', rfl, c1, c2⟩ := bad3 x hx
      simp [wipe]
      refine refu_i (by omega) T hr hs c1 c2 ?_
      simp
      simpa using hkk
    · simp
      exact someQ_i (q _ kd6)
end
end Cod
end Py
namespace Py
open PySem (Str)
namespace Cod
theorem insI_len (x : Int) : ∀ xs : List Int, (insI x xs).length = xs.length + 1
  | [] => rfl
  | y :: r => by
    unfold insI
    split
    · rfl
    · rw [List.length_cons, insI_len x r, List.length_cons]
theorem sortI_len : ∀ xs : List Int, (sortI xs).length = xs.length
  | [] => rfl
  | x :: r => by
    show (insI x (sortI r)).length = _
    rw [insI_len, sortI_len r, List.length_cons]
theorem mulT {k : Nat} {h : AH} (hk : k ≤ 1000) : binD .mul (.v (.tup [.int 0])) (.v (.int k)) h = some (.v (.tup (List.replicate k (.int 0)))) := by
  show (if -9223372036854775808 ≤ (k : Int) ∧ (k : Int) < 9223372036854775808 ∧ [D.int 0].length * (k : Int).toNat ≤ 16777216 then some (Rv.v (.tup (rept [D.int 0] (k : Int)))) else none) = _
  rw [if_pos ⟨by omega, by omega, by simp; omega⟩, rept_one]
theorem RC.kb {w shn ws : Nat} {cs : List Cw} (R : RC w shn ws cs) {p n : Nat} (e : cs[p]? = some (.keepby, n)) : n < ws := by
  obtain ⟨_, h⟩ := R.ok _ (List.mem_of_getElem? e)
  have : numb w ws cs.length .keepby = ws := by
    unfold numb
    rw [if_neg (by decide), if_neg (by decide), if_neg (by decide)]
  rw [this] at h
  exact h
theorem wyL_len {w S : Nat} {cs : List Cw} {p : Nat} (hw : w ≤ 8) : (wyL w S cs p).length ≤ 256 := by
  have p2 : 2 ^ w ≤ 2 ^ 8 := Nat.pow_le_pow_right (by decide) hw
  unfold wyL
  cases cs[p]? with
  | none => simp
  | some cn =>
    obtain ⟨c, n⟩ := cn
    simp only
    split
    · simp
    · split
      · simp
      · split
        · rw [sortI_len, List.length_map, List.length_range]; omega
        · split
          · rw [sortI_len]
            have := ddI_le [(n : Int), (((p + 1) % S : Nat) : Int)]
            simp only [List.length_cons, List.length_nil] at this
            omega
          · simp
section
variable {P : Prog} {L : Nat} {h : AH} {Q : D → AH → Prop} {X : Xc}
theorem sam_i (hf : P.fn "_law_same" = some c__law_same) {d : D} (j : Nat) (hL : j + 1 ≤ L) (hs : sm j d = true) (q : Q (.bl true) h) : wC P L "_law_same" [d, d] h Q X := by
  obtain ⟨n, rfl⟩ : ∃ n, L = n + j + 1 := ⟨L - j - 1, by omega⟩
  exact same_i hf hs q
theorem told_i (hL : 10 ≤ L) (T : TC P) (K : TK P) (hf : P.fn "_law_is_told" = some c__law_is_told) (ha : P.fn "_law_are_refused" = some c__law_are_refused) (hr : P.fn "_law_is_refused" = some c__law_is_refused) (hs : P.sub "InvalidCode" "InvalidCode" = some true) (ht : P.fn "_law_take" = some c__law_take) (hm : P.fn "_law_same" = some c__law_same) {w shn ws : Nat} {cs : List Cw} (R : RC w shn ws cs) (w5 : w ≤ 5) (ws9 : ws ≤ 1000) {v : Int} {h0 : AH} {g : Nat} (hg : h0 g ≠ none) (kd : Kd h0 g h)
    (q : ∀ h', Kd h0 g h' → Q (.bl true) h') : wC P L "_law_is_told" [.loc g, cdD w shn ws (zC cs), .int v] h Q X := by
  obtain ⟨n, rfl⟩ : ∃ n, L = n + 1 := ⟨L - 1, by omega⟩
  have a1 := R.w2; have a2 := R.w8; have a3 := R.sw; have a4 := R.m1; have a5 := R.c1; have a6 := R.cz
  have hl : (zC cs).length = cs.length := zC_len
  obtain ⟨_, pz, _, _⟩ := plc_ok (c := cs.length) (by omega)
  have P17 : 2 ^ plc cs.length ≤ 2 ^ 17 := Nat.pow_le_pow_right (by decide) pz
  have P5 : 2 ^ w ≤ 2 ^ 5 := Nat.pow_le_pow_right (by decide) w5
  have smw : small62 (ws : Int) = true := by simp [small62]; omega
  refine wC_i hf rfl ?_
  have isn : Py.isD (.v .non) .non = some true := rfl
  simp only [c__law_is_told, v_start, List.replicate, List.length_cons, List.length_nil, List.map_cons, List.map_nil, List.cons_append, List.nil_append, cdD]
  simp [-v_rB]
  generalize hcd : D.tup [.int w, .int shn, .int ws, .tup (csD (zC cs))] = cd
  have ecd : cd = cdD w shn ws (zC cs) := hcd.symm
  rw [v_rB]
  simp [-v_rB]
  rw [v_rB]
  simp [-v_rB]
  rw [ecd]
  refine chk_i (by omega) T (by omega) (fun _ => ?_) fun z => absurd R.cr z
  simp [-v_rB, isn]
  refine aref_i (by omega) T K ha hr hs ht R hg kd fun h2 kd2 => ?_
  simp [-v_rB]
  refine plo_i (by omega) T (by omega) (by omega) ?_
  try simp [-v_rB]
  refine lpl_i (by omega) K (by omega) ?_
  try simp [-v_rB]
  refine sam_i hm 1 (by omega) rfl ?_
  simp [-v_rB]
  rw [v_rB]
  simp [-v_rB]
  refine lnm_i (by omega) K ?_
  simp [-v_rB]
  refine for_f (fun i env h' => h' = h2 ∧ ∃ o, env = [some (.loc g), some (cdD w shn ws (zC cs)), some (.int v), some (.int w), some (.int shn), some (.int ws), some (.tup (csD (zC cs))), some (.int cs.length), o, none, none, none, none, none, none, none]) ⟨rfl, none, rfl⟩ ?_ ?_
  · rintro i x env h' N hx ⟨rfl, o, rfl⟩ hN
    unfold nsD at hx
    rw [List.getElem?_map, Option.map_eq_some_iff] at hx
    obtain ⟨c, hc, rfl⟩ := hx
    simp
    refine nfr_i (by omega) T (by omega) (by omega) (by omega) ?_
    rw [hl]
    try simp
    refine lnu_i (by omega) K (by omega) (by omega) ?_
    try simp
    refine sam_i hm 1 (by omega) rfl ?_
    simp
    exact hN _ _ ⟨rfl, _, rfl⟩
  rintro env h' ⟨rfl, o8, rfl⟩
  simp only [v_nx]
  rw [v_rB]
  simp [-v_rB, smw]
  refine comp_by (fun i acc h3 => Kd h0 g h3 ∧ ∃ st : List Nat, st.length = i ∧ acc = nL st) ⟨kd2, [], rfl, rfl⟩ (fun _ _ _ _ _ => trivial) ?_ ?_
  · rintro i x acc h3 N hx ⟨kd3, st, sl, rfl⟩ hN
    have i9 : i < ws := by
      have := (List.getElem?_eq_some_iff.mp hx).1
      simpa using this
    simp [wipe]
    refine lpw_i (by omega) K (by omega) ?_
    try simp
    refine tak_i (by omega) ht kd3 (Nat.pow_pos (by decide)) fun x2 h4 hx2 kd4 _ => ?_
    try simp
    refine ⟨by omega, hN _ _ ⟨kd4, st ++ [x2], by simp [sl], by simp [nL]⟩⟩
  rintro acc h3 ⟨kd3, st, sl, rfl⟩
  have sl' : st.length = ws := by simpa using sl
  try simp [-v_rB]
  rw [v_rB]
  simp [-v_rB]
  refine lpl_i (by omega) K (by omega) ?_
  try simp [-v_rB]
  refine lpw_i (by omega) K (by omega) ?_
  have smp : small62 ((2 ^ plc cs.length : Nat) : Int) = true := by
    generalize 2 ^ plc cs.length = z at P17
    simp [small62]; omega
  have S0 : 0 < 2 ^ plc cs.length := Nat.pow_pos (by decide)
  rw [v_asInt, gd_some]
  refine ⟨smp, ?_⟩
  refine for_f (fun i env h' => Kd h0 g h' ∧ ∃ o10 o11 o12 o13 o14 o15, env = [some (.loc g), some (cdD w shn ws (zC cs)), some (.int v), some (.int w), some (.int shn), some (.int ws), some (.tup (csD (zC cs))), some (.int cs.length), o8, some (.tup (nL st)), o10, o11, o12, o13, o14, o15]) ⟨kd3, none, none, none, none, none, none, rfl⟩ ?_ ?_
  · rintro i x env h4 N hx ⟨kd4, o10, o11, o12, o13, o14, o15, rfl⟩ hN
    obtain ⟨hi, rfl⟩ := rngL_at hx
    simp [-v_rB]
    refine lpw_i (by omega) K (by omega) ?_
    have smW : small62 ((2 ^ w : Nat) : Int) = true := by
      generalize 2 ^ w = z at P5
      simp [small62]; omega
    rw [v_asInt, gd_some]
    refine ⟨smW, ?_⟩
    rw [Int.toNat_natCast]
    refine comp_g (fun (k : Nat) => .int (k : Int)) (fun a => .int (nx (2 ^ plc cs.length) cs i a : Nat)) (List.range (2 ^ w)) (by simp [rngL]) trivial (by rw [List.length_range]; omega) (fun a ha kk hkk => ?_) ?_
    · simp [wipe]
      rw [mulT (by omega)]
      simp
      refine lst_i (by omega) K (by omega) a2 (by omega) a5 (by omega) (by omega) (fun n e => by rw [sl']; exact R.kb e) fun r => ?_
      simp
      exact hkk
    rw [show ((List.range (2 ^ w)).map fun a => D.int (nx (2 ^ plc cs.length) cs i a : Nat)) = iL ((List.range (2 ^ w)).map fun a => ((nx (2 ^ plc cs.length) cs i a : Nat) : Int)) by simp [iL]]
    have wok := wyL_ok (w := w) (S := 2 ^ plc cs.length) (cs := cs) (p := i) (by omega) S0
    have wln : ((List.range (2 ^ w)).map fun a => ((nx (2 ^ plc cs.length) cs i a : Nat) : Int)).length < 64 := by
      rw [List.length_map, List.length_range]; omega
    generalize ((List.range (2 ^ w)).map fun a => ((nx (2 ^ plc cs.length) cs i a : Nat) : Int)) = xs at wok wln
    try simp [-v_rB]
    intro b hb
    obtain ⟨b0, bg⟩ := kd4.free hg hb
    have eb : (put h4 b (.lst (iL xs))) b = some (.lst (iL xs)) := put_self
    have kd5 := kd4.own b0 bg (.lst (iL xs))
    generalize put h4 b (.lst (iL xs)) = h5 at eb kd5
    rw [v_rB]
    simp [-v_rB]
    rw [n_ssl eb wln, wok]
    simp [-v_rB]
    rw [v_rB]
    simp [-v_rB]
    refine wyc_i (by omega) T a2 a5 (by omega) ?_
    try simp [-v_rB]
    refine wyc_i (by omega) T a2 a5 (by omega) ?_
    try simp [-v_rB]
    have wl := wyL_len (S := 2 ^ plc cs.length) (cs := cs) (p := i) a2
    have sm1 : sm 1 (.tup (iL (wyL w (2 ^ plc cs.length) cs i))) = true := sm_iL (by omega)
    refine sam_i hm 2 (by omega) ?_ ?_
    · show (decide (2 ≤ 16777216) && (sm 1 (.tup (iL (wyL w (2 ^ plc cs.length) cs i))) && (sm 1 (.tup (iL (wyL w (2 ^ plc cs.length) cs i))) && true))) = true
      rw [sm1]; rfl
    simp
    exact hN _ _ ⟨kd5, _, _, _, _, _, _, rfl⟩
  rintro env h4 ⟨kd4, o10, o11, o12, o13, o14, o15, rfl⟩
  simp
  exact someQ_i (q _ kd4)
end
end Cod
end Py
namespace Py
open PySem (Str)
namespace K14
open Cod
structure Hk (P : Prog) : Prop where
  law : P.fn "law" = some Cod.c_law
  draws : P.fn "_law_draws" = some c__law_draws
  same : P.fn "_law_same" = some c__law_same
  tk : P.fn "_law_take" = some c__law_take
  cell : P.fn "_law_cell" = some c__law_cell
  told : P.fn "_law_is_told" = some Cod.c__law_is_told
  arf : P.fn "_law_are_refused" = some Cod.c__law_are_refused
  ref : P.fn "_law_is_refused" = some Cod.c__law_is_refused
  code : P.fn "_law_code" = some Cod.c__law_code
  sub : P.sub "InvalidCode" "InvalidCode" = some true
  k_pw : P.fn "_law_power" = some c__law_power
  k_nm : P.fn "_law_names" = some Cod.c__law_names
  k_pl : P.fn "_law_places" = some Cod.c__law_places
  k_nu : P.fn "_law_numbers" = some Cod.c__law_numbers
  k_wa : P.fn "_law_word_at" = some Cod.c__law_word_at
  k_ha : P.fn "_law_hand" = some Cod.c__law_hand
  k_st : P.fn "_law_step" = some Cod.c__law_step
  k_lb : P.fn "_law_bits" = some c__law_bits
  p2 : P.fn "power_of_two" = some c_power_of_two
  bf : P.fn "bits_for_count" = some Cod.c_bits_for_count
  cm : P.fn "command_names" = some Cod.c_command_names
  pf : P.fn "places_for" = some Cod.c_places_for
  po : P.fn "places_of_code" = some Cod.c_places_of_code
  ns : P.fn "numbers_by_sizes" = some Cod.c_numbers_by_sizes
  nf : P.fn "numbers_for" = some Cod.c_numbers_for
  sz : P.fn "are_sizes_right" = some Cod.c_are_sizes_right
  cr : P.fn "is_command_right" = some Cod.c_is_command_right
  ck : P.fn "check_code" = some Cod.c_check_code
  pb : P.fn "place_behind" = some Cod.c_place_behind
  wy : P.fn "ways_of_command" = some Cod.c_ways_of_command
  gN : P.gl "NAMES" = some (.tup (Cod.nsD Cod.nmL))
  gW : P.gl "WORDS" = some (.tup (Cod.nsD Cod.wL))
  gG : P.gl "GOING" = some (.tup (Cod.nsD Cod.gL))
  gA : P.gl "ALONE" = some (.tup (Cod.nsD Cod.aL))
  gM : P.gl "MOST_COMMANDS" = some (.int 65535)
theorem Hk.TC {P : Prog} (H : Hk P) : Cod.TC P := ⟨H.p2, H.bf, H.cm, H.pf, H.po, H.ns, H.nf, H.sz, H.cr, H.ck, H.pb, H.wy, H.gN, H.gW, H.gG, H.gA, H.gM⟩
theorem Hk.TK {P : Prog} (H : Hk P) : Cod.TK P := ⟨H.k_pw, H.k_nm, H.k_pl, H.k_nu, H.k_wa, H.k_ha, H.k_st, H.k_lb⟩
def so : List Cw := [(.goby, 3), (.unless, 0), (.go, 3)]
def on : List Cw := [(.keep, 255)]
def gb : List Cw := [(.goby, 4)]
def gg : List Cw := [(.go, 1)]
theorem so_ok : RC 2 0 1 so := ⟨by decide, by decide, by decide, by decide, by decide, by decide, by decide, by unfold CmOk; decide +kernel⟩
theorem gg_ok : RC 2 2 4 gg := ⟨by decide, by decide, by decide, by decide, by decide, by decide, by decide, by unfold CmOk; decide +kernel⟩
theorem gb_no : ¬ CR ((2 : Nat) : Int) ((0 : Nat) : Int) ((1 : Nat) : Int) (zC gb) := fun R => by
  have := (R.cs (.goby, 4) (by simp [gb, zC])).2.2
  revert this
  decide +kernel
theorem w0 : wyL 2 (2 ^ plc so.length) so 0 = [0, 1, 2, 3] := by decide +kernel
theorem w1 : wyL 2 (2 ^ plc so.length) so 1 = [0, 2] := by decide +kernel
theorem w2 : wyL 2 (2 ^ plc so.length) so 2 = [3] := by decide +kernel
theorem w3 : wyL 2 (2 ^ plc so.length) so 3 = [3] := by decide +kernel
theorem v0 : wyL 8 (2 ^ plc on.length) on 0 = [1] := by decide +kernel
theorem v1 : wyL 8 (2 ^ plc on.length) on 1 = [1] := by decide +kernel
theorem p1 : plc so.length = 2 := by decide +kernel
theorem p3 : plc on.length = 1 := by decide +kernel
end K14
end Py
namespace Py
open PySem (Str)
namespace K14
open Cod
theorem cnm_i {P : Prog} {L : Nat} {h : AH} {Q : D → AH → Prop} {X : Xc} (hL : 1 ≤ L) (T : TC P) (q : Q (.tup (nsD nmL)) h) : wC P L "command_names" [] h Q X := by
  obtain ⟨n, rfl⟩ : ∃ n, L = n + 1 := ⟨L - 1, by omega⟩
  refine wC_i T.cm rfl ?_
  simp [Cod.c_command_names, List.replicate, T.gN]
  exact someQ_i q
theorem law14 {P : Prog} (H : Hk P) (ns : List Int) (hn : ns.length ≤ 63) : wC P 12 "law" [.fl (iL ns)] (fun _ => none) (fun v _ => v = .bl true) noX := by
  refine wC_i H.law rfl ?_
  simp only [Cod.c_law, v_start, List.replicate, List.length_cons, List.length_nil, List.map_cons, List.map_nil, List.cons_append, List.nil_append]
  try simp [-v_rB]
  refine draws_i (m := 160) H.draws hn (by decide) (by decide) fun g ds ng => ?_
  rw [v_rB]
  try simp [-v_rB]
  have hg : (put (fun _ => none) g (.lst (iL ds)) : AH) g ≠ none := by simp
  have kd0 : Kd (put (fun _ => none) g (.lst (iL ds))) g (put (fun _ => none) g (.lst (iL ds))) := Kd.refl (ds := ds) put_self
  generalize (put (fun _ => none) g (.lst (iL ds)) : AH) = h0 at hg kd0
  refine cell_i H.cell fun cl => ?_
  try simp [-v_rB]
  rw [v_rB]
  try simp [-v_rB]
  refine tak_i (m := 4) (by omega) H.tk kd0 (by omega) fun v h1 hv kd1 _ => ?_
  obtain ⟨w, ew⟩ : ∃ w, w = v + 2 := ⟨_, rfl⟩
  have ew2 : (2 : Int) + (v : Int) = (w : Int) := by omega
  simp [-v_rB, ew2]
  rw [v_rB]
  try simp [-v_rB]
  refine lpw_i (by omega) H.TK (by omega) ?_
  have P5 : 2 ^ w ≤ 2 ^ 5 := Nat.pow_le_pow_right (by decide) (by omega)
  have P1 : 0 < 2 ^ w := Nat.pow_pos (by decide)
  have em : b2D .min (.int 9) (.int ((2 ^ w : Nat) : Int)) = some (.int ((min 9 (2 ^ w) : Nat) : Int)) := by
    show some (D.int (if ((2 ^ w : Nat) : Int) < 9 then ((2 ^ w : Nat) : Int) else 9)) = _
    congr 2
    split <;> omega
  rw [em, gd_some]
  refine tak_i (by omega) H.tk kd1 (by omega) fun v2 h2 hv2 kd2 _ => ?_
  obtain ⟨ws, ews⟩ : ∃ ws, ws = v2 + 1 := ⟨_, rfl⟩
  have ews2 : (1 : Int) + (v2 : Int) = (ws : Int) := by omega
  simp [-v_rB, ews2]
  rw [v_rB]
  try simp [-v_rB]
  refine tak_i (m := 12) (by omega) H.tk kd2 (by omega) fun v3 h3 hv3 kd3 _ => ?_
  obtain ⟨cnt, ec⟩ : ∃ cnt, cnt = v3 + 1 := ⟨_, rfl⟩
  have ec2 : (1 : Int) + (v3 : Int) = (cnt : Int) := by omega
  simp [-v_rB, ec2]
  refine lco_i (by omega) H.TK H.code H.tk (by omega) (by omega) (by omega) hg kd3 fun shn cs h4 hsh hcl hco kd4 => ?_
  have R : RC w shn ws cs := ⟨by omega, by omega, hsh, by omega, by omega, by omega, by omega, by rw [hcl]; exact hco⟩
  try simp [-v_rB]
  refine told_i (by omega) H.TC H.TK H.told H.arf H.ref H.sub H.tk H.same R (by omega) (by omega) hg kd4 fun h5 kd5 => ?_
  simp [-v_rB]
  rw [v_rB]
  simp [-v_rB]
  rw [v_rB]
  simp [-v_rB]
  refine plo_i (w := 2) (sh := 0) (ws := 1) (cs := zC so) (by omega) H.TC (by decide) (by decide) ?_
  rw [show plc (zC so).length = 2 from p1]
  try simp [-v_rB]
  refine wyc_i (w := 2) (sh := 0) (ws := 1) (cs := so) (p := 0) (by omega) H.TC (by decide) (by decide) (by decide) ?_
  rw [w0]
  try simp [-v_rB]
  refine wyc_i (w := 2) (sh := 0) (ws := 1) (cs := so) (p := 1) (by omega) H.TC (by decide) (by decide) (by decide) ?_
  rw [w1]
  try simp [-v_rB]
  refine wyc_i (w := 2) (sh := 0) (ws := 1) (cs := so) (p := 2) (by omega) H.TC (by decide) (by decide) (by decide) ?_
  rw [w2]
  try simp [-v_rB]
  refine wyc_i (w := 2) (sh := 0) (ws := 1) (cs := so) (p := 3) (by omega) H.TC (by decide) (by decide) (by decide) ?_
  rw [w3]
  try simp [-v_rB]
  rw [v_rB]
  simp [-v_rB]
  refine sam_i H.same 2 (by omega) (by decide +kernel) ?_
  simp [-v_rB]
  rw [v_rB]
  simp [-v_rB]
  rw [v_rB]
  simp [-v_rB]
  refine cnm_i (by omega) H.TC ?_
  try simp [-v_rB]
  refine plo_i (w := 8) (sh := 8) (ws := 256) (cs := zC on) (by omega) H.TC (by decide) (by decide) ?_
  rw [show plc (zC on).length = 1 from p3]
  try simp [-v_rB]
  refine wyc_i (w := 8) (sh := 8) (ws := 256) (cs := on) (p := 0) (by omega) H.TC (by decide) (by decide) (by decide) ?_
  rw [v0]
  try simp [-v_rB]
  refine wyc_i (w := 8) (sh := 8) (ws := 256) (cs := on) (p := 1) (by omega) H.TC (by decide) (by decide) (by decide) ?_
  rw [v1]
  try simp [-v_rB]
  refine lnm_i (by omega) H.TK ?_
  try simp [-v_rB]
  refine sam_i H.same 2 (by omega) (by decide +kernel) ?_
  simp [-v_rB]
  rw [v_rB]
  simp
  refine told_i (w := 2) (shn := 0) (ws := 1) (cs := so) (by omega) H.TC H.TK H.told H.arf H.ref H.sub H.tk H.same so_ok (by decide) (by decide) hg kd5 fun h6 kd6 => ?_
  simp
  refine refu_i (w := 2) (sh := 0) (ws := 1) (cs := zC gb) (by omega) H.TC H.ref H.sub (by decide) gb_no ?_
  simp
  refine chk_i (w := 2) (sh := 2) (ws := 4) (cs := zC gg) (by omega) H.TC (by decide) (fun _ => ?_) fun z => absurd gg_ok.cr z
  simp [show Py.isD (.v .non) .non = some true from rfl]
  exact someQ_i rfl
end K14
end Py
namespace Lk14
open L2 Py PySem
def tp (i : Nat) : PySem.Stmt := PySem.Challenge.pw_texttoticks_k14_codes_and_ways.main.body.getD i (.Pass ⟨0, 0, 0, 0⟩)
def c_power_of_two : Fn := ⟨1, 3, (.cons (.asg (.nm 1) (.lit (.int 1))) (.cons (.for_ (.nm 2) (.rng1 (.var 0)) (.cons (.asg (.nm 1) (.bin .mul (.lit (.int 2)) (.var 1))) .nil)) (.cons (.ret (.var 1)) .nil)))⟩
def c_bits_for_count : Fn := ⟨1, 2, (.cons (.asg (.nm 1) (.lit (.int 0))) (.cons (.whl (.cmp .le (.call "power_of_two" (.cons (.var 1) .nil)) (.var 0)) (.cons (.aug 1 .add (.lit (.int 1))) .nil)) (.cons (.ret (.var 1)) .nil)))⟩
def c_command_names : Fn := ⟨0, 0, (.cons (.ret (.glo "NAMES")) .nil)⟩
def c_places_for : Fn := ⟨1, 1, (.cons (.ret (.b2 .max (.call "bits_for_count" (.cons (.bin .sub (.var 0) (.lit (.int 1))) .nil)) (.lit (.int 1)))) .nil)⟩
def c_places_of_code : Fn := ⟨1, 1, (.cons (.ret (.call "places_for" (.cons (.b1 .len (.ix (.var 0) (.lit (.int 3)))) .nil))) .nil)⟩
def c_numbers_by_sizes : Fn := ⟨4, 4, (.cons (.ifs (.cmp .inn (.var 3) (.glo "WORDS")) (.cons (.ret (.call "power_of_two" (.cons (.var 0) .nil))) .nil) .nil) (.cons (.ifs (.cmp .inn (.var 3) (.glo "GOING")) (.cons (.ret (.call "power_of_two" (.cons (.call "places_for" (.cons (.var 2) .nil)) .nil))) .nil) .nil) (.cons (.ret (.ite (.cmp .inn (.var 3) (.glo "ALONE")) (.lit (.int 1)) (.var 1))) .nil)))⟩
def c_numbers_for : Fn := ⟨2, 2, (.cons (.ret (.call "numbers_by_sizes" (.cons (.ix (.var 0) (.lit (.int 0))) (.cons (.ix (.var 0) (.lit (.int 2))) (.cons (.b1 .len (.ix (.var 0) (.lit (.int 3)))) (.cons (.var 1) .nil)))))) .nil)⟩
def c_are_sizes_right : Fn := ⟨1, 5, (.cons (.asg (.tp (.cons (.nm 1) (.cons (.nm 2) (.cons (.nm 3) (.cons (.nm 4) .nil))))) (.var 0)) (.cons (.ifs (.or (.not (.chain .le .le (.lit (.int 2)) (.var 1) (.lit (.int 8)))) (.not (.chain .le .le (.lit (.int 0)) (.var 2) (.var 1)))) (.cons (.ret (.lit (.bl false))) .nil) .nil) (.cons (.ret (.and (.chain .le .le (.lit (.int 1)) (.var 3) (.call "power_of_two" (.cons (.var 1) .nil))) (.chain .le .le (.lit (.int 1)) (.b1 .len (.var 4)) (.glo "MOST_COMMANDS")))) .nil)))⟩
def c_is_command_right : Fn := ⟨2, 4, (.cons (.asg (.tp (.cons (.nm 2) (.cons (.nm 3) .nil))) (.var 1)) (.cons (.ret (.and (.cmp .inn (.var 2) (.glo "NAMES")) (.chain .le .lt (.lit (.int 0)) (.var 3) (.call "numbers_for" (.cons (.var 0) (.cons (.var 2) .nil)))))) .nil))⟩
def c_check_code : Fn := ⟨1, 3, (.cons (.ifs (.or (.not (.call "are_sizes_right" (.cons (.var 0) .nil))) (.not (.b1 .all (.comp (.nm 2) (.seq (.ix (.var 0) (.lit (.int 3)))) [1, 2] (.call "is_command_right" (.cons (.var 0) (.cons (.var 2) .nil))))))) (.cons (.rais "InvalidCode") .nil) .nil) .nil)⟩
def c_place_behind : Fn := ⟨2, 2, (.cons (.ret (.bin .mod (.bin .add (.var 1) (.lit (.int 1))) (.call "power_of_two" (.cons (.call "places_of_code" (.cons (.var 0) .nil)) .nil)))) .nil)⟩
def c_ways_of_command : Fn := ⟨2, 7, (.cons (.ifs (.cmp .ge (.var 1) (.b1 .len (.ix (.var 0) (.lit (.int 3))))) (.cons (.ret (.tup (.cons (.var 1) .nil))) .nil) .nil) (.cons (.asg (.tp (.cons (.nm 2) (.cons (.nm 3) .nil))) (.ix (.ix (.var 0) (.lit (.int 3))) (.var 1))) (.cons (.ifs (.cmp .eq (.var 2) (.lit (.str "halt"))) (.cons (.ret (.tup (.cons (.var 1) .nil))) .nil) .nil) (.cons (.ifs (.cmp .eq (.var 2) (.lit (.str "go"))) (.cons (.ret (.tup (.cons (.var 3) .nil))) .nil) .nil) (.cons (.ifs (.cmp .eq (.var 2) (.lit (.str "goby"))) (.cons (.asg (.nm 4) (.b2 .min (.call "power_of_two" (.cons (.ix (.var 0) (.lit (.int 0))) .nil)) (.call "power_of_two" (.cons (.call "places_of_code" (.cons (.var 0) .nil)) .nil)))) (.cons (.ret (.b1 .tup (.b1 .sorted (.comp (.nm 6) (.rng1 (.var 4)) [5, 6] (.bin .mod (.bin .add (.var 3) (.var 6)) (.call "power_of_two" (.cons (.call "places_of_code" (.cons (.var 0) .nil)) .nil))))))) .nil)) .nil) (.cons (.ifs (.cmp .eq (.var 2) (.lit (.str "unless"))) (.cons (.ret (.b1 .tup (.b1 .sset (.lst (.cons (.var 3) (.cons (.call "place_behind" (.cons (.var 0) (.cons (.var 1) .nil))) .nil)))))) .nil) .nil) (.cons (.ret (.tup (.cons (.call "place_behind" (.cons (.var 0) (.cons (.var 1) .nil))) .nil))) .nil)))))))⟩
def c__law_draws : Fn := ⟨2, 10, (.cons (.asg (.nm 2) (.comp (.nm 9) (.seq (.var 0)) [8, 9] (.b1 .int (.var 9)))) (.cons (.ifs (.cmp .eq (.b1 .len (.var 2)) (.lit (.int 0))) (.cons (.expr (.mt .append (.var 2) (.cons (.lit (.int 0)) .nil))) .nil) .nil) (.cons (.asg (.nm 3) (.b1 .lst (.var 2))) (.cons (.asg (.nm 4) (.lst .nil)) (.cons (.for_ (.nm 5) (.rng1 (.var 1)) (.cons (.asg (.nm 6) (.bin .mod (.var 5) (.b1 .len (.var 2)))) (.cons (.ifs (.and (.cmp .ge (.ix (.var 2) (.var 6)) (.bin .pow (.lit (.int 10)) (.lit (.int 18)))) (.cmp .gt (.ix (.var 3) (.var 6)) (.lit (.int 0)))) (.cons (.expr (.mt .append (.var 4) (.cons (.bin .mod (.b1 .int (.ix (.var 3) (.var 6))) (.lit (.int 1000))) .nil))) (.cons (.set (.var 3) (.var 6) (.bin .fdiv (.ix (.var 3) (.var 6)) (.lit (.int 1000)))) .nil)) (.cons (.asg (.nm 7) (.bin .mod (.b1 .int (.bin .add (.bin .add (.bin .mul (.ix (.var 2) (.var 6)) (.lit (.int 48271))) (.bin .mul (.var 5) (.lit (.int 69621)))) (.lit (.int 11)))) (.lit (.int 2147483647)))) (.cons (.expr (.mt .append (.var 4) (.cons (.bin .mod (.b1 .int (.bin .add (.bin .add (.bin .mul (.var 7) (.var 7)) (.bin .mul (.lit (.int 3)) (.var 7))) (.var 5))) (.lit (.int 1000003))) .nil))) .nil))) .nil))) (.cons (.expr (.mt .reverse (.var 4) .nil)) (.cons (.ret (.var 4)) .nil)))))))⟩
def c__law_take : Fn := ⟨2, 2, (.cons (.ifs (.cmp .eq (.b1 .len (.var 0)) (.lit (.int 0))) (.cons (.ret (.lit (.int 0))) .nil) .nil) (.cons (.ret (.bin .mod (.b1 .int (.mt .pop (.var 0) .nil)) (.var 1))) .nil))⟩
def c__law_cell : Fn := ⟨1, 2, (.cons (.ifs (.cmp .eq (.b1 .len (.var 0)) (.lit (.int 0))) (.cons (.ret (.lit (.int 0))) .nil) .nil) (.cons (.asg (.nm 1) (.b1 .int (.ix (.var 0) (.bin .mod (.bin .mod (.b1 .int (.bin .sub (.b1 .len (.var 0)) (.lit (.int 1)))) (.lit (.int 7))) (.b1 .len (.var 0)))))) (.cons (.ifs (.cmp .lt (.var 1) (.lit (.int 0))) (.cons (.ret (.neg (.bin .mod (.b1 .int (.neg (.var 1))) (.bin .pow (.lit (.int 10)) (.lit (.int 60)))))) .nil) .nil) (.cons (.ret (.bin .mod (.b1 .int (.var 1)) (.bin .pow (.lit (.int 10)) (.lit (.int 60))))) .nil))))⟩
def c__law_same : Fn := ⟨2, 3, (.cons (.ifs (.b1 (.isa .bool) (.var 1)) (.cons (.ret (.and (.b1 (.isa .bool) (.var 0)) (.cmp .eq (.var 0) (.var 1)))) .nil) .nil) (.cons (.ifs (.b1 (.isa .int) (.var 1)) (.cons (.ret (.and (.b1 (.isa .int) (.var 0)) (.and (.not (.b1 (.isa .bool) (.var 0))) (.cmp .eq (.var 0) (.var 1))))) .nil) .nil) (.cons (.ifs (.b1 (.isa .str) (.var 1)) (.cons (.ret (.and (.b1 (.isa .str) (.var 0)) (.cmp .eq (.var 0) (.var 1)))) .nil) .nil) (.cons (.ifs (.isc false (.var 1) .non) (.cons (.ret (.isc false (.var 0) .non)) .nil) .nil) (.cons (.ifs (.or (.not (.b1 (.isa .tup) (.var 0))) (.cmp .ne (.b1 .len (.var 0)) (.b1 .len (.var 1)))) (.cons (.ret (.lit (.bl false))) .nil) .nil) (.cons (.for_ (.nm 2) (.rng1 (.b1 .len (.var 1))) (.cons (.ifs (.not (.call "_law_same" (.cons (.ix (.var 0) (.var 2)) (.cons (.ix (.var 1) (.var 2)) .nil)))) (.cons (.ret (.lit (.bl false))) .nil) .nil) .nil)) (.cons (.ret (.lit (.bl true))) .nil)))))))⟩
def c__law_bits : Fn := ⟨2, 4, (.cons (.asg (.nm 2) (.lst .nil)) (.cons (.for_ (.nm 3) (.rng1 (.var 1)) (.cons (.expr (.mt .append (.var 2) (.cons (.bin .mod (.b1 .int (.var 0)) (.lit (.int 2))) .nil))) (.cons (.asg (.nm 0) (.bin .fdiv (.var 0) (.lit (.int 2)))) .nil))) (.cons (.ret (.b1 .tup (.var 2))) .nil)))⟩
def c__law_power : Fn := ⟨1, 3, (.cons (.asg (.nm 1) (.lit (.int 1))) (.cons (.for_ (.nm 2) (.rng1 (.var 0)) (.cons (.asg (.nm 1) (.bin .mul (.lit (.int 2)) (.var 1))) .nil)) (.cons (.ret (.var 1)) .nil)))⟩
def c__law_names : Fn := ⟨0, 0, (.cons (.ret (.tup (.cons (.lit (.str "put")) (.cons (.lit (.str "plusput")) (.cons (.lit (.str "take")) (.cons (.lit (.str "keep")) (.cons (.lit (.str "takeby")) (.cons (.lit (.str "keepby")) (.cons (.lit (.str "plus")) (.cons (.lit (.str "minus")) (.cons (.lit (.str "less")) (.cons (.lit (.str "same")) (.cons (.lit (.str "go")) (.cons (.lit (.str "unless")) (.cons (.lit (.str "goby")) (.cons (.lit (.str "hear")) (.cons (.lit (.str "show")) (.cons (.lit (.str "halt")) .nil)))))))))))))))))) .nil)⟩
def c__law_places : Fn := ⟨1, 3, (.cons (.asg (.nm 1) (.lit (.int 1))) (.cons (.for_ (.nm 2) (.rng1 (.lit (.int 16))) (.cons (.ifs (.cmp .lt (.call "_law_power" (.cons (.var 1) .nil)) (.var 0)) (.cons (.asg (.nm 1) (.bin .add (.var 1) (.lit (.int 1)))) .nil) .nil) .nil)) (.cons (.ret (.var 1)) .nil)))⟩
def c__law_numbers : Fn := ⟨4, 4, (.cons (.ifs (.cmp .inn (.var 3) (.lst (.cons (.lit (.str "put")) (.cons (.lit (.str "plusput")) .nil)))) (.cons (.ret (.call "_law_power" (.cons (.var 0) .nil))) .nil) .nil) (.cons (.ifs (.cmp .inn (.var 3) (.lst (.cons (.lit (.str "go")) (.cons (.lit (.str "unless")) (.cons (.lit (.str "goby")) .nil))))) (.cons (.ret (.call "_law_power" (.cons (.call "_law_places" (.cons (.var 2) .nil)) .nil))) .nil) .nil) (.cons (.ifs (.cmp .inn (.var 3) (.lst (.cons (.lit (.str "hear")) (.cons (.lit (.str "show")) (.cons (.lit (.str "halt")) .nil))))) (.cons (.ret (.lit (.int 1))) .nil) .nil) (.cons (.ret (.var 1)) .nil))))⟩
def c__law_code : Fn := ⟨4, 7, (.cons (.asg (.nm 4) (.lst .nil)) (.cons (.for_ (.nm 5) (.rng1 (.var 3)) (.cons (.asg (.nm 6) (.ix (.call "_law_names" .nil) (.call "_law_take" (.cons (.var 0) (.cons (.lit (.int 16)) .nil))))) (.cons (.ifs (.and (.cmp .eq (.var 6) (.lit (.str "halt"))) (.cmp .gt (.call "_law_take" (.cons (.var 0) (.cons (.lit (.int 3)) .nil))) (.lit (.int 0)))) (.cons (.asg (.nm 6) (.lit (.str "show"))) .nil) .nil) (.cons (.ifs (.and (.cmp .eq (.var 6) (.lit (.str "go"))) (.cmp .eq (.call "_law_take" (.cons (.var 0) (.cons (.lit (.int 2)) .nil))) (.lit (.int 0)))) (.cons (.asg (.nm 6) (.lit (.str "keep"))) .nil) .nil) (.cons (.expr (.mt .append (.var 4) (.cons (.tup (.cons (.var 6) (.cons (.call "_law_take" (.cons (.var 0) (.cons (.call "_law_numbers" (.cons (.var 1) (.cons (.var 2) (.cons (.var 3) (.cons (.var 6) .nil))))) .nil))) .nil))) .nil))) .nil))))) (.cons (.ret (.tup (.cons (.var 1) (.cons (.call "_law_take" (.cons (.var 0) (.cons (.bin .add (.var 1) (.lit (.int 1))) .nil))) (.cons (.var 2) (.cons (.b1 .tup (.var 4)) .nil)))))) .nil)))⟩
def c__law_word_at : Fn := ⟨2, 2, (.cons (.ifs (.cmp .lt (.var 1) (.b1 .len (.var 0))) (.cons (.ret (.ix (.var 0) (.var 1))) .nil) .nil) (.cons (.ret (.lit (.int 0))) .nil))⟩
def c__law_hand : Fn := ⟨6, 8, (.cons (.asg (.nm 6) (.call "_law_power" (.cons (.ix (.var 0) (.lit (.int 0))) .nil))) (.cons (.asg (.nm 7) (.call "_law_word_at" (.cons (.var 4) (.cons (.var 2) .nil)))) (.cons (.ifs (.cmp .eq (.var 1) (.lit (.str "put"))) (.cons (.ret (.var 2)) .nil) .nil) (.cons (.ifs (.cmp .eq (.var 1) (.lit (.str "plusput"))) (.cons (.ret (.bin .mod (.b1 .int (.bin .add (.var 3) (.var 2))) (.var 6))) .nil) .nil) (.cons (.ifs (.cmp .eq (.var 1) (.lit (.str "take"))) (.cons (.ret (.var 7)) .nil) .nil) (.cons (.ifs (.cmp .eq (.var 1) (.lit (.str "takeby"))) (.cons (.ret (.call "_law_word_at" (.cons (.var 4) (.cons (.var 7) .nil)))) .nil) .nil) (.cons (.ifs (.cmp .eq (.var 1) (.lit (.str "plus"))) (.cons (.ret (.bin .mod (.b1 .int (.bin .add (.var 3) (.var 7))) (.var 6))) .nil) .nil) (.cons (.ifs (.cmp .eq (.var 1) (.lit (.str "minus"))) (.cons (.ret (.bin .mod (.b1 .int (.bin .add (.bin .sub (.var 3) (.var 7)) (.var 6))) (.var 6))) .nil) .nil) (.cons (.ifs (.cmp .eq (.var 1) (.lit (.str "less"))) (.cons (.ret (.b1 .int (.cmp .lt (.var 3) (.var 7)))) .nil) .nil) (.cons (.ifs (.cmp .eq (.var 1) (.lit (.str "same"))) (.cons (.ret (.b1 .int (.cmp .eq (.var 3) (.var 7)))) .nil) .nil) (.cons (.ifs (.cmp .eq (.var 1) (.lit (.str "hear"))) (.cons (.ret (.bin .mod (.b1 .int (.var 5)) (.call "_law_power" (.cons (.bin .sub (.ix (.var 0) (.lit (.int 0))) (.lit (.int 1))) .nil)))) .nil) .nil) (.cons (.ret (.var 3)) .nil))))))))))))⟩
def c__law_step : Fn := ⟨3, 15, (.cons (.asg (.tp (.cons (.nm 3) (.cons (.nm 4) (.cons (.nm 5) (.cons (.nm 6) .nil))))) (.var 1)) (.cons (.ifs (.or (.cmp .ge (.var 3) (.b1 .len (.ix (.var 0) (.lit (.int 3))))) (.cmp .eq (.ix (.ix (.ix (.var 0) (.lit (.int 3))) (.var 3)) (.lit (.int 0))) (.lit (.str "halt")))) (.cons (.ret (.var 1)) .nil) .nil) (.cons (.asg (.tp (.cons (.nm 7) (.cons (.nm 8) .nil))) (.ix (.ix (.var 0) (.lit (.int 3))) (.var 3))) (.cons (.asg (.nm 9) (.call "_law_power" (.cons (.call "_law_places" (.cons (.b1 .len (.ix (.var 0) (.lit (.int 3)))) .nil)) .nil))) (.cons (.asg (.nm 10) (.bin .mod (.b1 .int (.bin .add (.var 3) (.lit (.int 1)))) (.var 9))) (.cons (.ifs (.or (.cmp .eq (.var 7) (.lit (.str "go"))) (.and (.cmp .eq (.var 7) (.lit (.str "unless"))) (.cmp .eq (.var 4) (.lit (.int 0))))) (.cons (.asg (.nm 10) (.var 8)) .nil) .nil) (.cons (.ifs (.cmp .eq (.var 7) (.lit (.str "goby"))) (.cons (.asg (.nm 10) (.bin .mod (.b1 .int (.bin .add (.var 8) (.var 4))) (.var 9))) .nil) .nil) (.cons (.asg (.nm 11) (.neg (.lit (.int 1)))) (.cons (.ifs (.cmp .eq (.var 7) (.lit (.str "keep"))) (.cons (.asg (.nm 11) (.var 8)) .nil) .nil) (.cons (.ifs (.cmp .eq (.var 7) (.lit (.str "keepby"))) (.cons (.asg (.nm 11) (.ix (.var 5) (.var 8))) .nil) .nil) (.cons (.asg (.nm 12) (.b1 .tup (.comp (.nm 14) (.rng1 (.b1 .len (.var 5))) [13, 14] (.ite (.cmp .eq (.var 14) (.var 11)) (.var 4) (.ix (.var 5) (.var 14)))))) (.cons (.ifs (.cmp .eq (.var 7) (.lit (.str "show"))) (.cons (.asg (.nm 6) (.call "_law_bits" (.cons (.var 4) (.cons (.ix (.var 0) (.lit (.int 1))) .nil)))) .nil) .nil) (.cons (.ret (.tup (.cons (.var 10) (.cons (.call "_law_hand" (.cons (.var 0) (.cons (.var 7) (.cons (.var 8) (.cons (.var 4) (.cons (.var 5) (.cons (.var 2) .nil))))))) (.cons (.var 12) (.cons (.var 6) .nil)))))) .nil)))))))))))))⟩
def c__law_is_refused : Fn := ⟨1, 1, (.cons (.tryx (.cons (.expr (.call "check_code" (.cons (.var 0) .nil))) .nil) "InvalidCode" (.bl true)) (.cons (.ret (.lit (.bl false))) .nil))⟩
def c__law_are_refused : Fn := ⟨3, 14, (.cons (.asg (.tp (.cons (.nm 3) (.cons (.nm 4) (.cons (.nm 5) (.cons (.nm 6) .nil))))) (.var 1)) (.cons (.asg (.nm 7) (.b1 .abs (.var 2))) (.cons (.asg (.nm 8) (.lst (.cons (.tup (.cons (.bin .sub (.lit (.int 1)) (.var 7)) (.cons (.var 4) (.cons (.var 5) (.cons (.var 6) .nil))))) (.cons (.tup (.cons (.bin .add (.lit (.int 9)) (.var 7)) (.cons (.var 4) (.cons (.var 5) (.cons (.var 6) .nil))))) (.cons (.tup (.cons (.var 3) (.cons (.bin .add (.bin .add (.var 3) (.lit (.int 1))) (.var 7)) (.cons (.var 5) (.cons (.var 6) .nil))))) (.cons (.tup (.cons (.var 3) (.cons (.bin .sub (.neg (.lit (.int 1))) (.var 7)) (.cons (.var 5) (.cons (.var 6) .nil))))) .nil)))))) (.cons (.asg (.nm 8) (.bin .add (.var 8) (.lst (.cons (.tup (.cons (.var 3) (.cons (.var 4) (.cons (.bin .sub (.lit (.int 0)) (.var 7)) (.cons (.var 6) .nil))))) (.cons (.tup (.cons (.var 3) (.cons (.var 4) (.cons (.bin .add (.bin .add (.call "_law_power" (.cons (.var 3) .nil)) (.lit (.int 1))) (.var 7)) (.cons (.var 6) .nil))))) (.cons (.tup (.cons (.var 3) (.cons (.var 4) (.cons (.var 5) (.cons (.tup .nil) .nil))))) .nil)))))) (.cons (.asg (.nm 9) (.call "_law_take" (.cons (.var 0) (.cons (.b1 .len (.var 6)) .nil)))) (.cons (.for_ (.nm 10) (.seq (.call "_law_names" .nil)) (.cons (.for_ (.nm 11) (.seq (.lst (.cons (.bin .sub (.neg (.lit (.int 1))) (.var 7)) (.cons (.bin .add (.call "_law_numbers" (.cons (.var 3) (.cons (.var 5) (.cons (.b1 .len (.var 6)) (.cons (.var 10) .nil))))) (.var 7)) .nil)))) (.cons (.expr (.mt .append (.var 8) (.cons (.tup (.cons (.var 3) (.cons (.var 4) (.cons (.var 5) (.cons (.bin .add (.bin .add (.sl (.var 6) .no (.so (.var 9))) (.tup (.cons (.tup (.cons (.var 10) (.cons (.var 11) .nil))) .nil))) (.sl (.var 6) (.so (.bin .add (.var 9) (.lit (.int 1)))) .no)) .nil))))) .nil))) .nil)) .nil)) (.cons (.expr (.mt .append (.var 8) (.cons (.tup (.cons (.var 3) (.cons (.var 4) (.cons (.var 5) (.cons (.bin .add (.bin .add (.sl (.var 6) .no (.so (.var 9))) (.tup (.cons (.tup (.cons (.lit (.str "puts")) (.cons (.lit (.int 0)) .nil))) .nil))) (.sl (.var 6) (.so (.bin .add (.var 9) (.lit (.int 1)))) .no)) .nil))))) .nil))) (.cons (.ret (.cmp .eq (.b1 .len (.compi (.nm 13) (.seq (.var 8)) [12, 13] (.not (.call "_law_is_refused" (.cons (.var 13) .nil))) (.var 13))) (.lit (.int 0)))) .nil))))))))⟩
def c__law_is_told : Fn := ⟨3, 16, (.cons (.asg (.tp (.cons (.nm 3) (.cons (.nm 4) (.cons (.nm 5) (.cons (.nm 6) .nil))))) (.var 1)) (.cons (.asg (.nm 7) (.b1 .len (.var 6))) (.cons (.ifs (.or (.isc true (.call "check_code" (.cons (.var 1) .nil)) .non) (.or (.not (.call "_law_are_refused" (.cons (.var 0) (.cons (.var 1) (.cons (.var 2) .nil))))) (.not (.call "_law_same" (.cons (.call "places_of_code" (.cons (.var 1) .nil)) (.cons (.call "_law_places" (.cons (.var 7) .nil)) .nil)))))) (.cons (.ret (.lit (.bl false))) .nil) .nil) (.cons (.for_ (.nm 8) (.seq (.call "_law_names" .nil)) (.cons (.ifs (.not (.call "_law_same" (.cons (.call "numbers_for" (.cons (.var 1) (.cons (.var 8) .nil))) (.cons (.call "_law_numbers" (.cons (.var 3) (.cons (.var 5) (.cons (.var 7) (.cons (.var 8) .nil))))) .nil)))) (.cons (.ret (.lit (.bl false))) .nil) .nil) .nil)) (.cons (.asg (.nm 9) (.b1 .tup (.comp (.nm 14) (.rng1 (.var 5)) [13, 14] (.call "_law_take" (.cons (.var 0) (.cons (.call "_law_power" (.cons (.var 3) .nil)) .nil)))))) (.cons (.for_ (.nm 10) (.rng1 (.call "_law_power" (.cons (.call "_law_places" (.cons (.var 7) .nil)) .nil))) (.cons (.asg (.nm 11) (.comp (.nm 15) (.rng1 (.call "_law_power" (.cons (.var 3) .nil))) [13, 15] (.ix (.call "_law_step" (.cons (.var 1) (.cons (.tup (.cons (.var 10) (.cons (.var 15) (.cons (.var 9) (.cons (.bin .mul (.tup (.cons (.lit (.int 0)) .nil)) (.var 4)) .nil))))) (.cons (.lit (.int 0)) .nil)))) (.lit (.int 0))))) (.cons (.asg (.nm 12) (.b1 .tup (.b1 .sset (.var 11)))) (.cons (.ifs (.not (.call "_law_same" (.cons (.tup (.cons (.call "ways_of_command" (.cons (.var 1) (.cons (.var 10) .nil))) (.cons (.call "ways_of_command" (.cons (.var 1) (.cons (.var 10) .nil))) .nil))) (.cons (.tup (.cons (.var 12) (.cons (.var 12) .nil))) .nil)))) (.cons (.ret (.lit (.bl false))) .nil) .nil) .nil)))) (.cons (.ret (.lit (.bl true))) .nil)))))))⟩
def c_law : Fn := ⟨1, 8, (.cons (.asg (.nm 1) (.call "_law_draws" (.cons (.var 0) (.cons (.lit (.int 160)) .nil)))) (.cons (.asg (.nm 2) (.call "_law_cell" (.cons (.var 0) .nil))) (.cons (.asg (.nm 3) (.bin .add (.lit (.int 2)) (.call "_law_take" (.cons (.var 1) (.cons (.lit (.int 4)) .nil))))) (.cons (.asg (.nm 4) (.bin .add (.lit (.int 1)) (.call "_law_take" (.cons (.var 1) (.cons (.b2 .min (.lit (.int 9)) (.call "_law_power" (.cons (.var 3) .nil))) .nil))))) (.cons (.ifs (.not (.call "_law_is_told" (.cons (.var 1) (.cons (.call "_law_code" (.cons (.var 1) (.cons (.var 3) (.cons (.var 4) (.cons (.bin .add (.lit (.int 1)) (.call "_law_take" (.cons (.var 1) (.cons (.lit (.int 12)) .nil)))) .nil))))) (.cons (.var 2) .nil))))) (.cons (.ret (.lit (.bl false))) .nil) .nil) (.cons (.asg (.nm 5) (.tup (.cons (.lit (.int 2)) (.cons (.lit (.int 0)) (.cons (.lit (.int 1)) (.cons (.tup (.cons (.tup (.cons (.lit (.str "goby")) (.cons (.lit (.int 3)) .nil))) (.cons (.tup (.cons (.lit (.str "unless")) (.cons (.lit (.int 0)) .nil))) (.cons (.tup (.cons (.lit (.str "go")) (.cons (.lit (.int 3)) .nil))) .nil)))) .nil)))))) (.cons (.asg (.nm 6) (.tup (.cons (.call "places_of_code" (.cons (.var 5) .nil)) (.cons (.call "ways_of_command" (.cons (.var 5) (.cons (.lit (.int 0)) .nil))) (.cons (.call "ways_of_command" (.cons (.var 5) (.cons (.lit (.int 1)) .nil))) (.cons (.call "ways_of_command" (.cons (.var 5) (.cons (.lit (.int 2)) .nil))) (.cons (.call "ways_of_command" (.cons (.var 5) (.cons (.lit (.int 3)) .nil))) .nil))))))) (.cons (.ifs (.not (.call "_law_same" (.cons (.var 6) (.cons (.tup (.cons (.lit (.int 2)) (.cons (.tup (.cons (.lit (.int 0)) (.cons (.lit (.int 1)) (.cons (.lit (.int 2)) (.cons (.lit (.int 3)) .nil))))) (.cons (.tup (.cons (.lit (.int 0)) (.cons (.lit (.int 2)) .nil))) (.cons (.tup (.cons (.lit (.int 3)) .nil)) (.cons (.tup (.cons (.lit (.int 3)) .nil)) .nil)))))) .nil)))) (.cons (.ret (.lit (.bl false))) .nil) .nil) (.cons (.asg (.nm 7) (.tup (.cons (.lit (.int 8)) (.cons (.lit (.int 8)) (.cons (.lit (.int 256)) (.cons (.tup (.cons (.tup (.cons (.lit (.str "keep")) (.cons (.lit (.int 255)) .nil))) .nil)) .nil)))))) (.cons (.ifs (.not (.call "_law_same" (.cons (.tup (.cons (.call "command_names" .nil) (.cons (.call "places_of_code" (.cons (.var 7) .nil)) (.cons (.call "ways_of_command" (.cons (.var 7) (.cons (.lit (.int 0)) .nil))) (.cons (.call "ways_of_command" (.cons (.var 7) (.cons (.lit (.int 1)) .nil))) .nil))))) (.cons (.tup (.cons (.call "_law_names" .nil) (.cons (.lit (.int 1)) (.cons (.tup (.cons (.lit (.int 1)) .nil)) (.cons (.tup (.cons (.lit (.int 1)) .nil)) .nil))))) .nil)))) (.cons (.ret (.lit (.bl false))) .nil) .nil) (.cons (.ret (.and (.call "_law_is_told" (.cons (.var 1) (.cons (.var 5) (.cons (.var 2) .nil)))) (.and (.call "_law_is_refused" (.cons (.tup (.cons (.lit (.int 2)) (.cons (.lit (.int 0)) (.cons (.lit (.int 1)) (.cons (.tup (.cons (.tup (.cons (.lit (.str "goby")) (.cons (.lit (.int 4)) .nil))) .nil)) .nil))))) .nil)) (.isc false (.call "check_code" (.cons (.tup (.cons (.lit (.int 2)) (.cons (.lit (.int 2)) (.cons (.lit (.int 4)) (.cons (.tup (.cons (.tup (.cons (.lit (.str "go")) (.cons (.lit (.int 1)) .nil))) .nil)) .nil))))) .nil)) .non)))) .nil)))))))))))⟩
def t_power_of_two : FnT := ⟨"power_of_two", defArgs (tp 4), defBody (tp 4), defScope (tp 4), ["wide"], ["wide", "found", "_"], c_power_of_two⟩
def t_bits_for_count : FnT := ⟨"bits_for_count", defArgs (tp 5), defBody (tp 5), defScope (tp 5), ["count"], ["count", "bits"], c_bits_for_count⟩
def t_command_names : FnT := ⟨"command_names", defArgs (tp 12), defBody (tp 12), defScope (tp 12), [], [], c_command_names⟩
def t_places_for : FnT := ⟨"places_for", defArgs (tp 13), defBody (tp 13), defScope (tp 13), ["count"], ["count"], c_places_for⟩
def t_places_of_code : FnT := ⟨"places_of_code", defArgs (tp 14), defBody (tp 14), defScope (tp 14), ["code"], ["code"], c_places_of_code⟩
def t_numbers_by_sizes : FnT := ⟨"numbers_by_sizes", defArgs (tp 15), defBody (tp 15), defScope (tp 15), ["wide", "words", "count", "name"], ["wide", "words", "count", "name"], c_numbers_by_sizes⟩
def t_numbers_for : FnT := ⟨"numbers_for", defArgs (tp 16), defBody (tp 16), defScope (tp 16), ["code", "name"], ["code", "name"], c_numbers_for⟩
def t_are_sizes_right : FnT := ⟨"are_sizes_right", defArgs (tp 17), defBody (tp 17), defScope (tp 17), ["code"], ["code", "wide", "shown", "words", "commands"], c_are_sizes_right⟩
def t_is_command_right : FnT := ⟨"is_command_right", defArgs (tp 18), defBody (tp 18), defScope (tp 18), ["code", "command"], ["code", "command", "name", "n"], c_is_command_right⟩
def t_check_code : FnT := ⟨"check_code", defArgs (tp 19), defBody (tp 19), defScope (tp 19), ["code"], ["code", ".0", "command"], c_check_code⟩
def t_place_behind : FnT := ⟨"place_behind", defArgs (tp 20), defBody (tp 20), defScope (tp 20), ["code", "place"], ["code", "place"], c_place_behind⟩
def t_ways_of_command : FnT := ⟨"ways_of_command", defArgs (tp 21), defBody (tp 21), defScope (tp 21), ["code", "place"], ["code", "place", "name", "n", "reach", ".0", "a"], c_ways_of_command⟩
def t__law_draws : FnT := ⟨"_law_draws", defArgs (tp 23), defBody (tp 23), defScope (tp 23), ["script", "many"], ["script", "many", "cells", "rest", "draws", "k", "at", "once", ".0", "cell"], c__law_draws⟩
def t__law_take : FnT := ⟨"_law_take", defArgs (tp 24), defBody (tp 24), defScope (tp 24), ["draws", "many"], ["draws", "many"], c__law_take⟩
def t__law_cell : FnT := ⟨"_law_cell", defArgs (tp 25), defBody (tp 25), defScope (tp 25), ["script"], ["script", "cell"], c__law_cell⟩
def t__law_same : FnT := ⟨"_law_same", defArgs (tp 26), defBody (tp 26), defScope (tp 26), ["actual", "due"], ["actual", "due", "k"], c__law_same⟩
def t__law_bits : FnT := ⟨"_law_bits", defArgs (tp 27), defBody (tp 27), defScope (tp 27), ["word", "wide"], ["word", "wide", "bits", "k"], c__law_bits⟩
def t__law_power : FnT := ⟨"_law_power", defArgs (tp 28), defBody (tp 28), defScope (tp 28), ["wide"], ["wide", "found", "k"], c__law_power⟩
def t__law_names : FnT := ⟨"_law_names", defArgs (tp 29), defBody (tp 29), defScope (tp 29), [], [], c__law_names⟩
def t__law_places : FnT := ⟨"_law_places", defArgs (tp 30), defBody (tp 30), defScope (tp 30), ["count"], ["count", "bits", "k"], c__law_places⟩
def t__law_numbers : FnT := ⟨"_law_numbers", defArgs (tp 31), defBody (tp 31), defScope (tp 31), ["wide", "words", "count", "name"], ["wide", "words", "count", "name"], c__law_numbers⟩
def t__law_code : FnT := ⟨"_law_code", defArgs (tp 32), defBody (tp 32), defScope (tp 32), ["draws", "wide", "words", "count"], ["draws", "wide", "words", "count", "commands", "k", "name"], c__law_code⟩
def t__law_word_at : FnT := ⟨"_law_word_at", defArgs (tp 33), defBody (tp 33), defScope (tp 33), ["store", "number"], ["store", "number"], c__law_word_at⟩
def t__law_hand : FnT := ⟨"_law_hand", defArgs (tp 34), defBody (tp 34), defScope (tp 34), ["code", "name", "n", "a", "store", "heard"], ["code", "name", "n", "a", "store", "heard", "size", "m"], c__law_hand⟩
def t__law_step : FnT := ⟨"_law_step", defArgs (tp 35), defBody (tp 35), defScope (tp 35), ["code", "state", "heard"], ["code", "state", "heard", "place", "a", "store", "lights", "name", "n", "size", "at", "spot", "words", ".0", "k"], c__law_step⟩
def t__law_is_refused : FnT := ⟨"_law_is_refused", defArgs (tp 36), defBody (tp 36), defScope (tp 36), ["code"], ["code"], c__law_is_refused⟩
def t__law_are_refused : FnT := ⟨"_law_are_refused", defArgs (tp 37), defBody (tp 37), defScope (tp 37), ["draws", "code", "cell"], ["draws", "code", "cell", "wide", "shown", "words", "commands", "far", "bad", "k", "name", "n", ".0", "one"], c__law_are_refused⟩
def t__law_is_told : FnT := ⟨"_law_is_told", defArgs (tp 38), defBody (tp 38), defScope (tp 38), ["draws", "code", "cell"], ["draws", "code", "cell", "wide", "shown", "words", "commands", "count", "name", "store", "place", "ways", "due", ".0", "k", "a"], c__law_is_told⟩
def t_law : FnT := ⟨"law", defArgs (tp 39), defBody (tp 39), defScope (tp 39), ["script"], ["script", "draws", "cell", "wide", "words", "some", "told", "one"], c_law⟩
def tb : List FnT := [t_power_of_two, t_bits_for_count, t_command_names, t_places_for, t_places_of_code, t_numbers_by_sizes, t_numbers_for, t_are_sizes_right, t_is_command_right, t_check_code, t_place_behind, t_ways_of_command, t__law_draws, t__law_take, t__law_cell, t__law_same, t__law_bits, t__law_power, t__law_names, t__law_places, t__law_numbers, t__law_code, t__law_word_at, t__law_hand, t__law_step, t__law_is_refused, t__law_are_refused, t__law_is_told, t_law]
def gl : List (Str × D) := [("NAMES", (.tup [(.str "put"), (.str "plusput"), (.str "take"), (.str "keep"), (.str "takeby"), (.str "keepby"), (.str "plus"), (.str "minus"), (.str "less"), (.str "same"), (.str "go"), (.str "unless"), (.str "goby"), (.str "hear"), (.str "show"), (.str "halt")])), ("WORDS", (.tup [(.str "put"), (.str "plusput")])), ("GOING", (.tup [(.str "go"), (.str "unless"), (.str "goby")])), ("ALONE", (.tup [(.str "hear"), (.str "show"), (.str "halt")])), ("MOST_COMMANDS", (.int 65535))]
def sb : List (Str × Str × Bool) := [("TickError", "TickError", true), ("InvalidCode", "InvalidCode", true)]
def xs : List Str := ["TickError", "InvalidCode"]
theorem o_power_of_two : t_power_of_two.Ok (inF tb) xs.contains := ⟨by kernel_rfl, by decide +kernel, rfl, rfl, fun _ _ _ _ _ _ us hl => match us, hl with | [_], _ => rfl⟩
theorem o_bits_for_count : t_bits_for_count.Ok (inF tb) xs.contains := ⟨by kernel_rfl, by decide +kernel, rfl, rfl, fun _ _ _ _ _ _ us hl => match us, hl with | [_], _ => rfl⟩
theorem o_command_names : t_command_names.Ok (inF tb) xs.contains := ⟨by kernel_rfl, by decide +kernel, rfl, rfl, fun _ _ _ _ _ _ us hl => match us, hl with | [], _ => rfl⟩
theorem o_places_for : t_places_for.Ok (inF tb) xs.contains := ⟨by kernel_rfl, by decide +kernel, rfl, rfl, fun _ _ _ _ _ _ us hl => match us, hl with | [_], _ => rfl⟩
theorem o_places_of_code : t_places_of_code.Ok (inF tb) xs.contains := ⟨by kernel_rfl, by decide +kernel, rfl, rfl, fun _ _ _ _ _ _ us hl => match us, hl with | [_], _ => rfl⟩
theorem o_numbers_by_sizes : t_numbers_by_sizes.Ok (inF tb) xs.contains := ⟨by kernel_rfl, by decide +kernel, rfl, rfl, fun _ _ _ _ _ _ us hl => match us, hl with | [_, _, _, _], _ => rfl⟩
theorem o_numbers_for : t_numbers_for.Ok (inF tb) xs.contains := ⟨by kernel_rfl, by decide +kernel, rfl, rfl, fun _ _ _ _ _ _ us hl => match us, hl with | [_, _], _ => rfl⟩
theorem o_are_sizes_right : t_are_sizes_right.Ok (inF tb) xs.contains := ⟨by kernel_rfl, by decide +kernel, rfl, rfl, fun _ _ _ _ _ _ us hl => match us, hl with | [_], _ => rfl⟩
theorem o_is_command_right : t_is_command_right.Ok (inF tb) xs.contains := ⟨by kernel_rfl, by decide +kernel, rfl, rfl, fun _ _ _ _ _ _ us hl => match us, hl with | [_, _], _ => rfl⟩
theorem o_check_code : t_check_code.Ok (inF tb) xs.contains := ⟨by kernel_rfl, by decide +kernel, rfl, rfl, fun _ _ _ _ _ _ us hl => match us, hl with | [_], _ => rfl⟩
theorem o_place_behind : t_place_behind.Ok (inF tb) xs.contains := ⟨by kernel_rfl, by decide +kernel, rfl, rfl, fun _ _ _ _ _ _ us hl => match us, hl with | [_, _], _ => rfl⟩
theorem o_ways_of_command : t_ways_of_command.Ok (inF tb) xs.contains := ⟨by kernel_rfl, by decide +kernel, rfl, rfl, fun _ _ _ _ _ _ us hl => match us, hl with | [_, _], _ => rfl⟩
theorem o__law_draws : t__law_draws.Ok (inF tb) xs.contains := ⟨by kernel_rfl, by decide +kernel, rfl, rfl, fun _ _ _ _ _ _ us hl => match us, hl with | [_, _], _ => rfl⟩
theorem o__law_take : t__law_take.Ok (inF tb) xs.contains := ⟨by kernel_rfl, by decide +kernel, rfl, rfl, fun _ _ _ _ _ _ us hl => match us, hl with | [_, _], _ => rfl⟩
theorem o__law_cell : t__law_cell.Ok (inF tb) xs.contains := ⟨by kernel_rfl, by decide +kernel, rfl, rfl, fun _ _ _ _ _ _ us hl => match us, hl with | [_], _ => rfl⟩
theorem o__law_same : t__law_same.Ok (inF tb) xs.contains := ⟨by kernel_rfl, by decide +kernel, rfl, rfl, fun _ _ _ _ _ _ us hl => match us, hl with | [_, _], _ => rfl⟩
theorem o__law_bits : t__law_bits.Ok (inF tb) xs.contains := ⟨by kernel_rfl, by decide +kernel, rfl, rfl, fun _ _ _ _ _ _ us hl => match us, hl with | [_, _], _ => rfl⟩
theorem o__law_power : t__law_power.Ok (inF tb) xs.contains := ⟨by kernel_rfl, by decide +kernel, rfl, rfl, fun _ _ _ _ _ _ us hl => match us, hl with | [_], _ => rfl⟩
theorem o__law_names : t__law_names.Ok (inF tb) xs.contains := ⟨by kernel_rfl, by decide +kernel, rfl, rfl, fun _ _ _ _ _ _ us hl => match us, hl with | [], _ => rfl⟩
theorem o__law_places : t__law_places.Ok (inF tb) xs.contains := ⟨by kernel_rfl, by decide +kernel, rfl, rfl, fun _ _ _ _ _ _ us hl => match us, hl with | [_], _ => rfl⟩
theorem o__law_numbers : t__law_numbers.Ok (inF tb) xs.contains := ⟨by kernel_rfl, by decide +kernel, rfl, rfl, fun _ _ _ _ _ _ us hl => match us, hl with | [_, _, _, _], _ => rfl⟩
theorem o__law_code : t__law_code.Ok (inF tb) xs.contains := ⟨by kernel_rfl, by decide +kernel, rfl, rfl, fun _ _ _ _ _ _ us hl => match us, hl with | [_, _, _, _], _ => rfl⟩
theorem o__law_word_at : t__law_word_at.Ok (inF tb) xs.contains := ⟨by kernel_rfl, by decide +kernel, rfl, rfl, fun _ _ _ _ _ _ us hl => match us, hl with | [_, _], _ => rfl⟩
theorem o__law_hand : t__law_hand.Ok (inF tb) xs.contains := ⟨by kernel_rfl, by decide +kernel, rfl, rfl, fun _ _ _ _ _ _ us hl => match us, hl with | [_, _, _, _, _, _], _ => rfl⟩
theorem o__law_step : t__law_step.Ok (inF tb) xs.contains := ⟨by kernel_rfl, by decide +kernel, rfl, rfl, fun _ _ _ _ _ _ us hl => match us, hl with | [_, _, _], _ => rfl⟩
theorem o__law_is_refused : t__law_is_refused.Ok (inF tb) xs.contains := ⟨by kernel_rfl, by decide +kernel, rfl, rfl, fun _ _ _ _ _ _ us hl => match us, hl with | [_], _ => rfl⟩
theorem o__law_are_refused : t__law_are_refused.Ok (inF tb) xs.contains := ⟨by kernel_rfl, by decide +kernel, rfl, rfl, fun _ _ _ _ _ _ us hl => match us, hl with | [_, _, _], _ => rfl⟩
theorem o__law_is_told : t__law_is_told.Ok (inF tb) xs.contains := ⟨by kernel_rfl, by decide +kernel, rfl, rfl, fun _ _ _ _ _ _ us hl => match us, hl with | [_, _, _], _ => rfl⟩
theorem o_law : t_law.Ok (inF tb) xs.contains := ⟨by kernel_rfl, by decide +kernel, rfl, rfl, fun _ _ _ _ _ _ us hl => match us, hl with | [_], _ => rfl⟩
theorem tok : TOk tb gl xs := ⟨(mC o_power_of_two (mC o_bits_for_count (mC o_command_names (mC o_places_for (mC o_places_of_code (mC o_numbers_by_sizes (mC o_numbers_for (mC o_are_sizes_right (mC o_is_command_right (mC o_check_code (mC o_place_behind (mC o_ways_of_command (mC o__law_draws (mC o__law_take (mC o__law_cell (mC o__law_same (mC o__law_bits (mC o__law_power (mC o__law_names (mC o__law_places (mC o__law_numbers (mC o__law_code (mC o__law_word_at (mC o__law_hand (mC o__law_step (mC o__law_is_refused (mC o__law_are_refused (mC o__law_is_told (mC o_law mN))))))))))))))))))))))))))))), by kernel_rfl⟩
abbrev Pg : Prog := progOf tb gl sb
end Lk14

namespace Lk14
open Py
theorem hk1 : K14.Hk Pg := ⟨by kernel_rfl, by kernel_rfl, by kernel_rfl, by kernel_rfl, by kernel_rfl, by kernel_rfl, by kernel_rfl, by kernel_rfl, by kernel_rfl, by kernel_rfl, by kernel_rfl, by kernel_rfl, by kernel_rfl, by kernel_rfl, by kernel_rfl, by kernel_rfl, by kernel_rfl, by kernel_rfl, by kernel_rfl, by kernel_rfl, by kernel_rfl, by kernel_rfl, by kernel_rfl, by kernel_rfl, by kernel_rfl, by kernel_rfl, by kernel_rfl, by kernel_rfl, by kernel_rfl, by kernel_rfl, by kernel_rfl, by kernel_rfl, by kernel_rfl, by kernel_rfl, by kernel_rfl⟩
theorem fact (ns : List Int) (h : ns.length ≤ 63) : wC Pg 12 (HandSHeadRun.topDef (PySem.W.OpenLaw.row PySem.Challenge.rw_texttoticks_k14_codes_and_ways).prog 39).name [.fl (ns.map D.int)] (fun _ => none) (fun v _ => v = .bl true) noX := by
  have e : (HandSHeadRun.topDef (PySem.W.OpenLaw.row PySem.Challenge.rw_texttoticks_k14_codes_and_ways).prog 39).name = ("law" : PySem.Str) := by kernel_rfl
  rw [e]
  exact K14.law14 hk1 ns h
end Lk14
namespace Lk14
open L2 Py PySem
def lo0 : List Str := ["power_of_two", "bits_for_count", "command_names", "places_for", "places_of_code", "numbers_by_sizes", "numbers_for", "are_sizes_right", "is_command_right", "check_code", "place_behind", "ways_of_command", "_law_draws", "_law_take", "_law_cell", "_law_same", "_law_bits", "_law_power", "_law_names", "_law_places", "_law_numbers", "_law_code", "_law_word_at", "_law_hand", "_law_step", "_law_is_refused", "_law_are_refused", "_law_is_told", "TickError", "InvalidCode"]
def lo1 : List Str := ["NAMES", "WORDS", "GOING", "ALONE", "MOST_COMMANDS"]
def loo : List Str := lo0 ++ lo1
abbrev rr : PySem.W.OpenRow := PySem.W.OpenLaw.row PySem.Challenge.rw_texttoticks_k14_codes_and_ways
abbrev hk : PySem.W.Hook := hookP 5 (faOf tb sb xs) (tb.map FnT.d) gl
def ob (s : PySem.W.SharedT) : AlP := obsP 5 (faOf tb sb xs) (tb.map FnT.d) gl (HandSHeadRun.getT s)
theorem obe (s : PySem.W.SharedT) : ob s = hk.obs s.abs := obsP_eq (HandSHeadRun.getT_eq s)
open PySem.W PySem.Calls
theorem at_of {α β : Type} {x : Option α} {s : α} {f : α → β} {b : β} (e : x = some s) (h : x.map f = some b) : f s = b := by
  subst e
  exact Option.some.inj h
theorem run_of {α β γ δ : Type} {x : Option α} {A : α → β} {B : α → γ} {C : α → δ} {a : β} {b : γ} {c : δ} (hA : x.map A = some a) (hB : x.map B = some b) (hC : ∀ s, x = some s → C s = c) : x.map (fun s => (A s, B s, C s)) = some (a, b, c) := by
  cases x with
  | none => cases hA
  | some s => rw [Option.map_some, at_of rfl hA, at_of rfl hB, hC s rfl]
theorem rnA (w : World) (os : OsState) : (HandSHeadRun.endF (HandSHeadRun.stepQ (HandSHeadRun.denQ HandSHeadRun.tabQ) rr.prog w) 4000 rr.prog w os).map (fun s => HandSHeadRun.looksF rr.prog (boot_heap w.params) s.abs) = some true := by
  kernel_rfl
theorem rnB (w : World) (os : OsState) : (HandSHeadRun.endF (HandSHeadRun.stepQ (HandSHeadRun.denQ HandSHeadRun.tabQ) rr.prog w) 4000 rr.prog w os).map (fun s => HandSHeadRun.seenQ (PySem.W.view rr.prog [39]) loo (importedModules rr.prog.main.body) (fun s => PySem.W.xlAt (PySem.W.view rr.prog [39]) [] s && PySem.W.recOk rr.toRowW.records s) s.abs) = some (PySem.W.openGood (PySem.W.view rr.prog [39]) loo) := by
  kernel_rfl
theorem rnO (w : World) (os : OsState) : (HandSHeadRun.endF (HandSHeadRun.stepQ (HandSHeadRun.denQ HandSHeadRun.tabQ) rr.prog w) 4000 rr.prog w os).map (fun s => obsP 5 (faOf tb sb xs) (tb.map FnT.d) gl (HandSHeadRun.getT s)) = some (He.valD (tb.map FnT.d), true) := by
  kernel_rfl
theorem run_fin {r : PySem.W.OpenRow} {q : Program} {H : PySem.W.Hook} {ob : PySem.W.SharedT → H.α} {M : Nat} {loose : List Str} {w : World} (hA : ∀ os : OsState, (HandSHeadRun.endF (HandSHeadRun.stepQ (HandSHeadRun.denQ HandSHeadRun.tabQ) r.prog w) M r.prog w os).map (fun s => HandSHeadRun.looksF r.prog (boot_heap w.params) s.abs) = some true) (hB : ∀ os : OsState, (HandSHeadRun.endF (HandSHeadRun.stepQ (HandSHeadRun.denQ HandSHeadRun.tabQ) r.prog w) M r.prog w os).map (fun s => HandSHeadRun.seenQ q loose (importedModules r.prog.main.body) (fun s => PySem.W.xlAt q [] s && PySem.W.recOk r.toRowW.records s) s.abs) = some (PySem.W.openGood q loose)) (hC : ∀ (os : OsState) (s : PySem.W.SharedT), (HandSHeadRun.endF (HandSHeadRun.stepQ (HandSHeadRun.denQ HandSHeadRun.tabQ) r.prog w) M r.prog w os) = some s → ob s = H.val w) : HandSHeadRun.RunEq r q H ob M loose w := fun os => run_of (hA os) (hB os) (hC os)
theorem rnC (w : World) (os : OsState) (s : PySem.W.SharedT) (e : (HandSHeadRun.endF (HandSHeadRun.stepQ (HandSHeadRun.denQ HandSHeadRun.tabQ) rr.prog w) 4000 rr.prog w os) = some s) : obsP 5 (faOf tb sb xs) (tb.map FnT.d) gl (HandSHeadRun.getT s) = (He.valD (tb.map FnT.d), true) := by
  have h := at_of e (rnO w os)
  exact h
theorem rn (w : World) : HandSHeadRun.RunEq rr (PySem.W.view rr.prog [39]) hk ob 4000 loo w := run_fin (rnA w) (rnB w) (rnC w)
end Lk14
open PySem PySem.W PySem.Calls in
theorem PySem.Challenge.cw_texttoticks_k14_codes_and_ways_holds : PySem.Challenge.rw_texttoticks_k14_codes_and_ways.Holds := by
  w_on; o_law
  refine HandSHeadRun.head_any (r := Lk14.rr) (q := view Lk14.rr.prog [39]) (H := Lk14.hk) (ob := Lk14.ob) (M := 4000) (loose := Lk14.loo) (d := HandSHeadRun.topDef Lk14.rr.prog 39) (kwd := []) Lk14.obe
    (by kernel_rfl) (fun s => by kernel_rfl) Lk14.rn (by kernel_rfl) (by kernel_rfl) (by kernel_rfl) rfl (by first | assumption | decide +kernel) (by decide +kernel) ⟨rfl, rfl, rfl, rfl, rfl, by decide +kernel⟩ ?hw ?hc
  case hw => w_witness2
  case hc => exact Py.law_end (k := 12) (x := "script") (t := Lk14.t_law) rfl (by kernel_rfl) ⟨rfl, by decide, by decide⟩ Lk14.tok (by kernel_rfl) (by kernel_rfl) rfl Lk14.fact

