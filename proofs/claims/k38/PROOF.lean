import PyProof.Rows.All
import Wide.All
import OpenK.AllK
import Wide.FinOn
import KE.KStateDown
import Lean
import HandS.Base
import HandS.Call
import HandS.CallLocal
import HandS.CallSlots
import HandS.Conv
import HandS.Deep
import HandS.Defaults
import HandS.Ends
import HandS.ExcOwn
import HandS.Flow
import HandS.ForMost
import HandS.Head0
import HandS.Head1
import HandS.Head2
import HandS.HeadEnd
import HandS.HeadHook1
import HandS.HeadHook2
import HandS.HeadHook4
import HandS.IsInst
import HandS.More
import HandS.SortInts
import HandS.Strs
import HandS.Style
import HandS.TryOnly
import HandS.TupAny
import HandS.TupMul
import HandS.Wide
import HandS.Words
import HandS.WordsExc
import KE.DataCmp
import PySem.Challenge.RW_texttoticks_k38_whole_threads_of_core_pr
set_option Elab.async false
set_option linter.all false
set_option maxRecDepth 100000
set_option maxHeartbeats 40000000
/-! The abstract reading of the Python used here: pure data D, a heap of lists and dicts, and what must hold so that a piece of syntax comes to an end that is wanted. -/
namespace Py
open PySem (Str)

/-- data: tuples are pure; a list or a dict stands at an address -/
inductive D where
  | non | bl (b : Bool) | int (i : Int) | str (s : Str) | tup (xs : List D) | loc (a : Nat) | fn (x : Str)
  /-- a list that stands locked: the script -/
  | fl (xs : List D)
  deriving Inhabited
inductive AO where
  | lst (xs : List D)
  | dct (kvs : List (D × D))
abbrev AH := Nat → Option AO
def put (h : AH) (a : Nat) (o : AO) : AH := fun b => if b = a then some o else h b
@[simp] theorem put_self {h : AH} {a : Nat} {o : AO} : put h a o a = some o := by simp [put]
theorem put_ne {h : AH} {a b : Nat} {o : AO} (e : b ≠ a) : put h a o b = h b := by simp [put, e]
@[simp] theorem put_put {h : AH} {a : Nat} {o o' : AO} : put (put h a o) a o' = put h a o' := by
  funext b; simp only [put]; split <;> rfl

/-! ### equality of data, as Python has it -/
mutual
def eqv : D → D → Bool
  | .tup xs, .tup ys => eqvs xs ys
  | .non, .non => true
  | .bl a, .bl b => a == b
  | .bl a, .int j => (if a then 1 else 0) == j
  | .int i, .bl b => i == (if b then 1 else 0)
  | .int i, .int j => i == j
  | .str x, .str y => x == y
  | _, _ => false
def eqvs : List D → List D → Bool
  | [], [] => true
  | x :: xs, y :: ys => eqv x y && eqvs xs ys
  | _, _ => false
end
/-- data that can be compared: no address, texts of code points, not deep -/
def pu : Nat → D → Bool
  | _, .non => true
  | _, .bl _ => true
  | _, .int _ => true
  | _, .str s => s.cps.all (· < 0x110000)
  | n + 1, .tup xs => xs.all (pu n)
  | _, _ => false
/-- the same, without bools -/
def pk : Nat → D → Bool
  | _, .non => true
  | _, .int _ => true
  | _, .str s => s.cps.all (· < 0x110000)
  | n + 1, .tup xs => xs.all (pk n)
  | _, _ => false

/-! ### what an expression comes to: a value, or an object that is just made -/
inductive Rv where
  | v (d : D)
  | o (x : AO)
def gd {α : Type} (o : Option α) (k : α → Prop) : Prop := ∃ a, o = some a ∧ k a
@[simp] theorem gd_some {α : Type} {a : α} {k : α → Prop} : gd (some a) k = k a := by simp [gd]
@[simp] theorem gd_none {α : Type} {k : α → Prop} : gd (none : Option α) k = False := by simp [gd]
theorem gd_ite {α : Type} {c : Prop} [Decidable c] {a b : Option α} {k : α → Prop} : gd (if c then a else b) k = if c then gd a k else gd b k := by split <;> rfl
theorem gd_bite {α : Type} {c : Bool} {a b : Option α} {k : α → Prop} : gd (bif c then a else b) k = if c = true then gd a k else gd b k := by cases c <;> rfl
theorem gd.mono {α : Type} {o : Option α} {k k' : α → Prop} (h : gd o k) (m : ∀ a, k a → k' a) : gd o k' := let ⟨a, e, q⟩ := h; ⟨a, e, m a q⟩
theorem ite_false_and {c : Prop} [Decidable c] {p : Prop} : (if c then p else False) = (c ∧ p) := by split <;> simp [*]

def rv (r : Rv) (h : AH) (Q : D → AH → Prop) : Prop := match r with
  | .v d => Q d h
  | .o x => ∀ a, h a = none → Q (.loc a) (put h a x)
@[simp] theorem rv_v {d : D} {h : AH} {Q : D → AH → Prop} : rv (.v d) h Q = Q d h := rfl
@[simp] theorem rv_o {x : AO} {h : AH} {Q : D → AH → Prop} : rv (.o x) h Q = ∀ a, h a = none → Q (.loc a) (put h a x) := rfl
theorem rv.mono {r : Rv} {h : AH} {Q Q' : D → AH → Prop} (q : rv r h Q) (m : ∀ d h, Q d h → Q' d h) : rv r h Q' := by
  cases r with
  | v d => exact m _ _ q
  | o x => exact fun a e => m _ _ (q a e)

/-- the object that is read -/
def ob (r : Rv) (h : AH) : Option AO := match r with
  | .v (.loc a) => h a
  | .o x => some x
  | _ => none
/-- the items of a list -/
def lsV (r : Rv) (h : AH) : Option (List D) := match r with
  | .v (.fl xs) => some xs
  | _ => match ob r h with
    | some (.lst xs) => some xs
    | _ => none
/-- .. of one that is not locked -/
def ltV (r : Rv) (h : AH) : Option (List D) := match ob r h with
  | some (.lst xs) => some xs
  | _ => none
/-- the items of a list or a tuple -/
def sqV (r : Rv) (h : AH) : Option (List D) := match r with
  | .v (.tup xs) => some xs
  | _ => lsV r h
def dcV (r : Rv) (h : AH) : Option (List (D × D)) := match ob r h with
  | some (.dct kvs) => some kvs
  | _ => none
def tru (r : Rv) (h : AH) : Option Bool := match r with
  | .v .non => some false
  | .v (.bl b) => some b
  | .v (.int i) => some (i != 0)
  | .v (.str s) => if s.length ≤ 16777216 then some (s.length != 0) else none
  | .v (.tup xs) => some (!xs.isEmpty)
  | _ => match ob r h with
    | some (.lst xs) => some (!xs.isEmpty)
    | some (.dct kvs) => some (!kvs.isEmpty)
    | none => none
def asInt (r : Rv) : Option Int := match r with
  | .v (.int i) => some i
  | _ => none
def asBool (r : Rv) : Option Bool := match r with
  | .v (.bl b) => some b
  | _ => none

/-! ### operators -/
inductive Bop | add | sub | mul | fdiv | mod | pow | shl | shr | band | bxor | bor
inductive Cop | eq | ne | lt | le | gt | ge | inn | nin
def mulOk (i j : Int) : Bool := (decide (-18446744073709551616 < i) && decide (i < 18446744073709551616)) || (decide (-18446744073709551616 < j) && decide (j < 18446744073709551616))
def wideOk (i j : Int) : Bool := decide (i.natAbs < 2 ^ 4000) && decide (j.natAbs < 2 ^ 4000)
def intOp (op : Bop) (i j : Int) : Option Int := match op with
  | .add => none
  | .sub => some (i - j)
  | .mul => none
  | .fdiv => if 0 < j ∧ j < 1073741824 then some (i / j) else none
  | .mod => if 0 < j then some (i % j) else none
  | .pow => if 0 ≤ j ∧ j ≤ 1000000 ∧ i.natAbs < 2 ^ 64 then some (i ^ j.toNat) else none
  | .shl => if 0 ≤ j ∧ j ≤ 1000000 ∧ i.natAbs < 2 ^ 64 then some (i * 2 ^ j.toNat) else none
  | .shr => if 0 ≤ j then some (i / 2 ^ j.toNat) else none
  | .band => some (PySem.Builtin.bitAnd i j)
  | .bxor => some (PySem.Builtin.bitXor i j)
  | .bor => some (PySem.Builtin.bitOr i j)
def rept (xs : List D) (k : Int) : List D := (List.replicate k.toNat xs).flatten
def addD (x y : Rv) (h : AH) : Option Rv := match x, y with
  | .v (.int i), .v (.int j) => some (.v (.int (i + j)))
  | .v (.str s), .v (.str t) => if s.length + t.length ≤ 16777216 then some (.v (.str (s ++ t))) else none
  | .v (.tup xs), .v (.tup ys) => if xs.length + ys.length ≤ 16777216 then some (.v (.tup (xs ++ ys))) else none
  | .v (.int i), .v (.bl b) => some (.v (.int (i + if b then 1 else 0)))
  | x, y => match ltV x h with
    | none => none
    | some xs => match ltV y h with
      | none => none
      | some ys => if xs.length + ys.length ≤ 16777216 then some (.o (.lst (xs ++ ys))) else none
def mulD (x y : Rv) (h : AH) : Option Rv := match y with
  | .v (.int k) => match x with
    | .v (.int i) => if mulOk i k || wideOk i k then some (.v (.int (i * k))) else none
    | .v (.tup xs) => if -9223372036854775808 ≤ k ∧ k < 9223372036854775808 ∧ xs.length * k.toNat ≤ 16777216 then some (.v (.tup (rept xs k))) else none
    | x => match ltV x h with
      | some xs => if -9223372036854775808 ≤ k ∧ k < 9223372036854775808 ∧ xs.length * k.toNat ≤ 16777216 then some (.o (.lst (rept xs k))) else none
      | none => none
  | _ => none
def binD (op : Bop) (x y : Rv) (h : AH) : Option Rv := match op with
  | .add => addD x y h
  | .mul => mulD x y h
  | op => match x with
    | .v (.int i) => match y with
      | .v (.int j) => match intOp op i j with
        | some k => some (.v (.int k))
        | none => none
      | _ => none
    | _ => none
/-- x op= y: the value and the heap -/
def augD (op : Bop) (x : D) (y : Rv) (h : AH) : Option (Rv × AH) := match x with
  | .loc a => match op with
    | .add => match h a with
      | some (.lst xs) => match ltV y h with
        | some ys => if xs.length + ys.length ≤ 16777216 then some (.v (.loc a), put h a (.lst (xs ++ ys))) else none
        | none => none
      | _ => none
    | _ => none
  | .int i => match y with
    | .v (.int j) => match op with
      | .add => some (.v (.int (i + j)), h)
      | .sub => some (.v (.int (i - j)), h)
      | _ => none
    | _ => none
  | .str s => match y with
    | .v (.str t) => match op with
      | .add => if s.length + t.length ≤ 16777216 then some (.v (.str (s ++ t)), h) else none
      | _ => none
    | _ => none
  | _ => none
def eqD (x y : Rv) (h : AH) : Option Bool := match x, y with
  | .v (.int i), .v (.int j) => some (decide (i = j))
  | .v (.str s), .v (.str t) => some (decide (s = t))
  | .v (.tup xs), .v (.tup ys) => if xs.all (pu 40) && ys.all (pu 40) then some (eqvs xs ys) else none
  | x, y => match lsV x h, lsV y h with
    | some xs, some ys => if xs.all (pu 40) && ys.all (pu 40) then some (eqvs xs ys) else none
    | none, none => match x, y with
      | .v d, .v e => if pu 40 d && pu 40 e then some (eqv d e) else none
      | _, _ => none
    | _, _ => none
def inD (x y : Rv) (h : AH) : Option Bool := match x with
  | .v d => match sqV y h with
    | some ys => if pu 40 d && ys.all (pu 40) then some (ys.any fun z => eqv z d) else none
    | none => match dcV y h with
      | some kvs => if pk 8 d then some (kvs.any fun p => eqv p.1 d) else none
      | none => none
  | _ => none
def cmpD (op : Cop) (x y : Rv) (h : AH) : Option Bool := match op with
  | .eq => eqD x y h
  | .ne => (eqD x y h).map (!·)
  | .inn => inD x y h
  | .nin => (inD x y h).map (!·)
  | .lt => match x, y with
    | .v (.int i), .v (.int j) => some (decide (i < j))
    | .v (.tup [.int a, .int b]), .v (.tup [.int c, .int d]) => some (decide (a < c ∨ (a = c ∧ b < d)))
    | _, _ => none
  | .le => match x, y with
    | .v (.int i), .v (.int j) => some (decide (i ≤ j))
    | _, _ => none
  | .gt => match x, y with
    | .v (.int i), .v (.int j) => some (decide (j < i))
    | _, _ => none
  | .ge => match x, y with
    | .v (.int i), .v (.int j) => some (decide (j ≤ i))
    | _, _ => none
/-- x is None, x is True, x is False -/
def isD (x : Rv) (c : D) : Option Bool := match c with
  | .non => match x with
    | .v .non => some true
    | _ => some false
  | .bl b => match x with
    | .v (.bl k) => some (k == b)
    | _ => none
  | _ => none

/-! ### items and slices -/
def ixN (n : Nat) (i : Int) : Option Nat :=
    if 0 ≤ i then (if i < n then some i.toNat else none) else if -(n : Int) ≤ i then some (i + n).toNat else none
def atI {α : Type} (xs : List α) (i : Int) : Option α := (ixN xs.length i).bind fun j =>
    xs[j]?
def look (kvs : List (D × D)) (k : D) : Option D := match kvs.find? fun p => eqv p.1 k with
  | some p => some p.2
  | none => none
def dput (kvs : List (D × D)) (k v : D) : List (D × D) := match kvs with
  | [] => [(k, v)]
  | p :: r => if eqv p.1 k then (p.1, v) :: r else p :: dput r k v
def ixD (x i : Rv) (h : AH) : Option D := match i with
  | .v k => match sqV x h with
    | some xs => match k with
      | .int j => atI xs j
      | _ => none
    | none => match dcV x h with
      | some kvs => if pk 8 k then look kvs k else none
      | none => none
  | _ => none
def sIx (n d : Nat) :
    Option Int → Nat
  | none => d
  | some v =>
      if v < 0 then (v + (n : Int)).toNat else min v.toNat n
def cut {α : Type} (xs : List α) (lo hi : Option Int) : List α := (xs.drop (sIx xs.length 0 lo)).take (sIx xs.length xs.length hi - sIx xs.length 0 lo)
def slD (x : Rv) (lo hi : Option Int) (h : AH) : Option Rv := match x with
  | .v (.tup xs) => some (.v (.tup (cut xs lo hi)))
  | x => match lsV x h with
    | some xs => some (.o (.lst (cut xs lo hi)))
    | none => none
/-- the items of xs[lo:hi:st], a list's -/
def pkL {α : Type} (st : Int) (lo hi : Option Int) (xs : List α) : List α := (PySem.sliceRange (PySem.sliceBounds lo hi (some st) xs.length).1 (PySem.sliceBounds lo hi (some st) xs.length).2.1 (PySem.sliceBounds lo hi (some st) xs.length).2.2).filterMap fun k => xs[k]?
/-- .. a tuple's -/
def pkT {α : Type} (st : Int) (lo hi : Option Int) (xs : List α) : List α := ((List.range (PySem.Builtin.Slice.slicePlaces (PySem.Builtin.Slice.sliceAdjust lo hi st xs.length).1 (PySem.Builtin.Slice.sliceAdjust lo hi st xs.length).2 st)).map fun (k : Nat) => ((PySem.Builtin.Slice.sliceAdjust lo hi st xs.length).1 + (k : Int) * st).toNat).filterMap fun k => xs[k]?
/-- a[lo:hi:st] -/
def slsD (x : Rv) (lo hi : Option Int) (st : Int) (h : AH) : Option Rv := match x with
  | .v (.tup xs) => if (pkT st lo hi xs).length ≤ 16777216 then some (.v (.tup (pkT st lo hi xs))) else none
  | x => match lsV x h with
    | some xs => if (pkL st lo hi xs).length ≤ 16777216 then some (.o (.lst (pkL st lo hi xs))) else none
    | none => none
def setD (o i d : D) (h : AH) : Option AH := match o with
  | .loc a => match h a with
    | some (.lst xs) => match i with
      | .int k => (ixN xs.length k).map fun j => put h a (.lst (xs.set j d))
      | _ => none
    | some (.dct kvs) => if pk 8 i ∧ kvs.length < 16777216 then some (put h a (.dct (dput kvs i d))) else none
    | _ => none
  | _ => none

/-! ### built-ins and methods -/
inductive Ty | int | bool | str | tup
inductive Bi | len | int | bool | str | tup | lst | abs | any | all | sum | min | max | sorted | isa (t : Ty)
inductive B2 | min | max
inductive Mt | append | pop | popi | index | reverse | extend | get | get2 | insert | count
def intsL : List D → Option (List Int)
  | [] => some []
  | .int i :: r => (intsL r).map (i :: ·)
  | _ :: _ => none
def blsL : List D → Option (List Bool)
  | [] => some []
  | .bl b :: r => (blsL r).map (b :: ·)
  | _ :: _ => none
def maxI : List Int → Option Int
  | [] => none
  | i :: r => some (r.foldl (fun m x => if m < x then x else m) i)
def minI : List Int → Option Int
  | [] => none
  | i :: r => some (r.foldl (fun m x => if x < m then x else m) i)
def insI (x : Int) :
    List Int → List Int
  | [] => [x]
  | y :: r => if x ≤ y then x :: y :: r else y :: insI x r
def sortI : List Int → List Int
  | [] => []
  | x :: r => insI x (sortI r)
def isTy (x : Rv) (t : Ty) (h : AH) : Option Bool := match x with
  | .v .non => some false
  | .v (.bl _) => some (match t with | .bool => true | .int => true | _ => false)
  | .v (.int _) => some (match t with | .int => true | _ => false)
  | .v (.str _) => some (match t with | .str => true | _ => false)
  | .v (.tup _) => some (match t with | .tup => true | _ => false)
  | x => match lsV x h with
    | some _ => some false
    | none => none
def b1D (b : Bi) (x : Rv) (h : AH) : Option Rv := match b with
  | .len => match sqV x h with
    | some xs => some (.v (.int xs.length))
    | none => match dcV x h with
      | some kvs => some (.v (.int kvs.length))
      | none => match x with
        | .v (.str s) => if s.length ≤ 16777216 then some (.v (.int s.length)) else none
        | _ => none
  | .int => match x with
    | .v (.int i) => some (.v (.int i))
    | .v (.bl b) => some (.v (.int (if b then 1 else 0)))
    | _ => none
  | .bool => match x with
    | .v (.int i) => some (.v (.bl (i != 0)))
    | .v (.bl b) => some (.v (.bl b))
    | _ => none
  | .str => match x with
    | .v (.int i) => if i.natAbs.log2 < 1920 then some (.v (.str (toString i))) else none
    | _ => none
  | .tup => (sqV x h).map fun xs => .v (.tup xs)
  | .lst => (sqV x h).map fun xs => .o (.lst xs)
  | .abs => match x with
    | .v (.int i) => some (.v (.int (if i < 0 then -i else i)))
    | _ => none
  | .any => match lsV x h with
    | some xs => (blsL xs).map fun bs => .v (.bl (bs.any id))
    | none => none
  | .all => match lsV x h with
    | some xs => (blsL xs).map fun bs => .v (.bl (bs.all id))
    | none => none
  | .sum => match lsV x h with
    | some xs => (intsL xs).map fun ns => .v (.int ns.sum)
    | none => none
  | .min => match lsV x h with
    | some xs => ((intsL xs).bind minI).map fun m => .v (.int m)
    | none => none
  | .max => match lsV x h with
    | some xs => ((intsL xs).bind maxI).map fun m => .v (.int m)
    | none => none
  | .sorted => match lsV x h with
    | some xs => (intsL xs).map fun ns => .o (.lst ((sortI ns).map D.int))
    | none => none
  | .isa t => (isTy x t h).map fun b => .v (.bl b)
def b2D (b : B2) (x y : D) : Option D := match b, x, y with
  | .min, .int i, .int j => some (.int (if j < i then j else i))
  | .max, .int i, .int j => some (.int (if i < j then j else i))
  | _, _, _ => none
def idx (ys : List D) (x : D) : Option Nat := ys.findIdx? fun z => eqv z x
/-- the list that a method is called of -/
def mLs (o : Rv) (h : AH) (k : Nat → List D → Option (Rv × AH)) : Option (Rv × AH) := match o with
  | .v (.loc a) => match h a with
    | some (.lst xs) => k a xs
    | _ => none
  | _ => none
def mtD (m : Mt) (o : Rv) (es : List D) (h : AH) : Option (Rv × AH) := match m with
  | .append => mLs o h fun a xs => match es with
    | [x] => if xs.length < 16777216 then some (.v .non, put h a (.lst (xs ++ [x]))) else none
    | _ => none
  | .pop => mLs o h fun a xs => match es with
    | [] => match xs[xs.length - 1]? with
      | some y => some (.v y, put h a (.lst xs.dropLast))
      | none => none
    | _ => none
  | .popi => mLs o h fun a xs => match es with
    | [i] => match asInt (.v i) with
      | some i => if -9223372036854775808 ≤ i ∧ i < 9223372036854775808 then (match ixN xs.length i with
        | some k => match xs[k]? with
          | some y => some (.v y, put h a (.lst (xs.eraseIdx k)))
          | none => none
        | none => none) else none
      | none => none
    | _ => none
  | .insert => mLs o h fun a xs => match es with
    | [i, x] => match asInt (.v i) with
      | some i => if 0 ≤ i ∧ i < 9223372036854775808 ∧ xs.length < 16777216 then some (.v .non, put h a (.lst (xs.take i.toNat ++ [x] ++ xs.drop i.toNat))) else none
      | none => none
    | _ => none
  | .reverse => mLs o h fun a xs => match es with
    | [] => some (.v .non, put h a (.lst xs.reverse))
    | _ => none
  | .extend => mLs o h fun a xs => match es with
    | [b] => match ltV (.v b) h with
      | some ys => if xs.length + ys.length ≤ 16777216 then some (.v .non, put h a (.lst (xs ++ ys))) else none
      | none => none
    | _ => none
  | .index => match es with
    | [x] => match sqV o h with
      | some ys => if pu 40 x && ys.all (pu 40) then (match idx ys x with
        | some j => some (.v (.int j), h)
        | none => none) else none
      | none => none
    | _ => none
  | .count => none
  | .get => match es with
    | [k] => match dcV o h with
      | some kvs => if pk 8 k then some (.v ((look kvs k).getD .non), h) else none
      | none => none
    | _ => none
  | .get2 => match es with
    | [k, d] => match dcV o h with
      | some kvs => if pk 8 k then some (.v ((look kvs k).getD d), h) else none
      | none => none
    | _ => none

/-! ### syntax -/
mutual
inductive Ex where
  | lit (d : D) | var (i : Nat) | glo (x : Str)
  | bin (op : Bop) (a b : Ex) | cmp (op : Cop) (a b : Ex) | chain (o1 o2 : Cop) (a b c : Ex) | isc (neg : Bool) (a : Ex) (c : D)
  | and (a b : Ex) | or (a b : Ex) | not (a : Ex) | neg (a : Ex) | ite (c a b : Ex)
  | tup (es : Es) | lst (es : Es) | dct
  | call (f : Str) (es : Es) | callv (i : Nat) (es : Es)
  | b1 (b : Bi) (a : Ex) | b2 (b : B2) (a c : Ex) | mt (m : Mt) (o : Ex) (es : Es)
  | ix (a i : Ex) | sl (a : Ex) (lo hi : Oe) | sls (a : Ex) (lo hi : Oe) (st : Int) | rng (t : Bool) (it : It)
  | comp (t : Tg) (it : It) (own : List Nat) (e : Ex) | compi (t : Tg) (it : It) (own : List Nat) (c e : Ex)
  | comp2 (t : Tg) (it : It) (own : List Nat) (t1 : Tg) (it1 : It) (own1 : List Nat) (e : Ex)
inductive Es where
  | nil | cons (e : Ex) (es : Es)
inductive Oe where
  | no | so (e : Ex)
inductive It where
  | seq (e : Ex) | rng1 (a : Ex) | rng2 (a b : Ex) | rng3 (a b c : Ex)
inductive Tg where
  | nm (i : Nat) | tp (ts : Tgs)
inductive Tgs where
  | nil | cons (t : Tg) (ts : Tgs)
end
mutual
inductive St where
  | asg (t : Tg) (e : Ex) | set (o i e : Ex) | aug (i : Nat) (op : Bop) (e : Ex) | expr (e : Ex)
  | ifs (c : Ex) (a b : Sts) | whl (c : Ex) (b : Sts) | for_ (t : Tg) (it : It) (b : Sts)
  | ret (e : Ex) | retn | rais (c : Str) | tryx (b : Sts) (c : Str) (d : D) | pass | brk | cnt
inductive Sts where
  | nil | cons (s : St) (r : Sts)
end
/-- a def: its parameters' number, its slots' number, its body -/
structure Fn where
  np : Nat
  nn : Nat
  body : Sts

/-! ### what is wanted -/
abbrev Env := List (Option D)
abbrev Xc := Str → AH → Prop
abbrev Cal := Str → List D → AH → (D → AH → Prop) → Xc → Prop
def noX : Xc := fun _ _ => False
/-- what is walked -/
inductive Src where
  | fix (xs : List D)
  | lst (a : Nat) (xs : List D)
def Src.items : Src → List D
  | .fix xs => xs
  | .lst _ xs => xs
def Src.chk : Src → AH → Prop
  | .fix _, _ => True
  | .lst a xs, h => h a = some (.lst xs)
def srcOf (r : Rv) (h : AH) : Option Src := match r with
  | .v (.tup xs) => some (.fix xs)
  | .v (.fl xs) => some (.fix xs)
  | .v (.loc a) => match h a with
    | some (.lst xs) => some (.lst a xs)
    | _ => none
  | .o (.lst xs) => some (.fix xs)
  | _ => none
def rngL (lo : Int) (n : Nat) : List D := (List.range n).map fun (i : Nat) => D.int (lo + i)
def rngLC (lo c : Int) (n : Nat) : List D := (List.range n).map fun (i : Nat) => D.int (lo + i * c)
def stepOk (s : Int) : Bool := decide (s ≠ 0) && decide (-1073741824 < s) && decide (s < 1073741824)
def small62 (i : Int) : Bool := decide (-4611686018427387904 ≤ i) && decide (i < 4611686018427387904)
/-- how many turns range(i, j, c) has -/
def rngN (i j c : Int) : Nat := (PySem.Builtin.Range.rangeSize i j c).toNat
def wipe (env : Env) : List Nat → Env
  | [] => env
  | v :: vs => (wipe env vs).set v none
def lk (env : Env) (i : Nat) : Option D := match env[i]? with
  | some (some d) => some d
  | _ => none
abbrev TX := Env → AH → (Rv → AH → Prop) → Xc → Prop
abbrev TEs := Env → AH → (List D → AH → Prop) → Xc → Prop
abbrev TO := Env → AH → (Option Int → AH → Prop) → Xc → Prop
abbrev TI := Env → AH → (Src → AH → Prop) → Xc → Prop
abbrev TG := D → Env → AH → (Env → AH → Prop) → Prop
abbrev TGs := List D → Env → AH → (Env → AH → Prop) → Prop
/-- here: what is wanted behind a statement -/
structure Ks where
  nx : Env → AH → Prop
  rt : D → AH → Prop
  bk : Env → AH → Prop
  ct : Env → AH → Prop
  ex : Env → Xc
abbrev TS := Env → AH → Ks → Prop
def gNm (i : Nat) : TG := fun d env h k => k (env.set i (some d)) h
def gTp (t : TGs) : TG := fun d env h k => gd (sqV (.v d) h) fun xs => t xs env h k
def gNil : TGs := fun xs env h k => xs = [] ∧ k env h
def gCons (t : TG) (u : TGs) : TGs := fun xs env h k => match xs with
  | [] => False
  | x :: r => t x env h fun env1 h1 => u r env1 h1 k
mutual
def wTg : Tg → TG
  | .nm i => gNm i
  | .tp ts => gTp (wTgs ts)
def wTgs : Tgs → TGs
  | .nil => gNil
  | .cons t ts => gCons (wTg t) (wTgs ts)
end
/-- a comprehension's turns -/
def wComp (chk : AH → Prop) (step : D → AH → (Option D → AH → Prop) → Prop) : List D → List D → AH → (List D → AH → Prop) → Prop
  | [], acc, h, Q => chk h ∧ Q acc h
  | x :: r, acc, h, Q => chk h ∧ step x h fun o h1 => match o with
    | none => wComp chk step r acc h1 Q
    | some y => acc.length < 16777216 ∧ wComp chk step r (acc ++ [y]) h1 Q
/-- .. of two clauses -/
def wComp2 (chk : AH → Prop) (step : D → List D → AH → (List D → AH → Prop) → Prop) : List D → List D → AH → (List D → AH → Prop) → Prop
  | [], acc, h, Q => chk h ∧ Q acc h
  | x :: r, acc, h, Q => chk h ∧ step x acc h fun acc1 h1 => wComp2 chk step r acc1 h1 Q
def wFor (chk : AH → Prop) (bd : D → Env → AH → (Env → AH → Prop) → Prop) (nx : Env → AH → Prop) : List D → Env → AH → Prop
  | [], env, h => chk h ∧ nx env h
  | x :: r, env, h => chk h ∧ bd x env h fun env1 h1 => wFor chk bd nx r env1 h1

/-! ### expressions -/
def xLit (d : D) : TX := fun env h Q X => Q (.v d) h
def xVar (i : Nat) : TX := fun env h Q X => gd (lk env i) fun d => Q (.v d) h
def xGlo (G : Str → Option D) (x : Str) : TX := fun env h Q X => gd (G x) fun d => Q (.v d) h
def xBin (op : Bop) (a b : TX) : TX := fun env h Q X => a env h (fun x h1 => b env h1 (fun y h2 => gd (binD op x y h2) fun r => Q r h2) X) X
def xCmp (op : Cop) (a b : TX) : TX := fun env h Q X => a env h (fun x h1 => b env h1 (fun y h2 => gd (cmpD op x y h2) fun k => Q (.v (.bl k)) h2) X) X
def xChain (o1 o2 : Cop) (a b c : TX) : TX := fun env h Q X => a env h (fun x h1 => b env h1 (fun y h2 => gd (cmpD o1 x y h2) fun k =>
  if k = true then c env h2 (fun z h3 => gd (cmpD o2 y z h3) fun k2 => Q (.v (.bl k2)) h3) X else Q (.v (.bl false)) h2) X) X
def xIsc (neg : Bool) (a : TX) (c : D) : TX := fun env h Q X => a env h (fun x h1 => gd (isD x c) fun k => Q (.v (.bl (k != neg))) h1) X
def xAnd (a b : TX) : TX := fun env h Q X => a env h (fun x h1 => gd (tru x h1) fun k => if k = true then b env h1 Q X else Q x h1) X
def xOr (a b : TX) : TX := fun env h Q X => a env h (fun x h1 => gd (tru x h1) fun k => if k = true then Q x h1 else b env h1 Q X) X
def xNot (a : TX) : TX := fun env h Q X => a env h (fun x h1 => gd (tru x h1) fun k => Q (.v (.bl (!k))) h1) X
def xNeg (a : TX) : TX := fun env h Q X => a env h (fun x h1 => gd (asInt x) fun i => Q (.v (.int (-i))) h1) X
def xIte (c a b : TX) : TX := fun env h Q X => c env h (fun x h1 => gd (tru x h1) fun k => if k = true then a env h1 Q X else b env h1 Q X) X
def xTup (es : TEs) : TX := fun env h Q X => es env h (fun ds h1 => ds.length ≤ 16777216 ∧ Q (.v (.tup ds)) h1) X
def xLst (es : TEs) : TX := fun env h Q X => es env h (fun ds h1 => ds.length ≤ 16777216 ∧ Q (.o (.lst ds)) h1) X
def xDct : TX := fun env h Q X => Q (.o (.dct [])) h
def xCall (cal : Cal) (f : Str) (es : TEs) : TX := fun env h Q X => es env h (fun ds h1 => cal f ds h1 (fun d h2 => Q (.v d) h2) X) X
def asFn (d : D) : Option Str := match d with
  | .fn f => some f
  | _ => none
def isFn (G : Str → Option D) (f : Str) : Prop := (G f).bind asFn = some f
def xCallv (cal : Cal) (G : Str → Option D) (i : Nat) (es : TEs) : TX := fun env h Q X => gd ((lk env i).bind asFn) fun f => isFn G f ∧ es env h (fun ds h1 => cal f ds h1 (fun d h2 => Q (.v d) h2) X) X
def xB1 (b : Bi) (a : TX) : TX := fun env h Q X => a env h (fun x h1 => gd (b1D b x h1) fun r => Q r h1) X
def xB2 (b : B2) (a c : TX) : TX := fun env h Q X => a env h (fun x h1 => rv x h1 fun x1 h2 => c env h2 (fun y h3 => rv y h3 fun y1 h4 => gd (b2D b x1 y1) fun r => Q (.v r) h4) X) X
def mtChk (m : Mt) (x : Rv) (h : AH) : Bool := match m with
  | .index => (sqV x h).isSome
  | .count => (sqV x h).isSome
  | .get => (dcV x h).isSome
  | .get2 => (dcV x h).isSome
  | _ => (ltV x h).isSome
def xMt (m : Mt) (o : TX) (es : TEs) : TX := fun env h Q X => o env h (fun x h1 => mtChk m x h1 = true ∧ es env h1 (fun ds h2 => gd (mtD m x ds h2) fun p => Q p.1 p.2) X) X
def xIx (a i : TX) : TX := fun env h Q X => a env h (fun x h1 => i env h1 (fun y h2 => gd (ixD x y h2) fun d => Q (.v d) h2) X) X
def xSl (a : TX) (lo hi : TO) : TX := fun env h Q X => a env h (fun x h1 => lo env h1 (fun l h2 => hi env h2 (fun u h3 => gd (slD x l u h3) fun r => Q r h3) X) X) X
def xSls (a : TX) (lo hi : TO) (st : Int) : TX := fun env h Q X => a env h (fun x h1 => lo env h1 (fun l h2 => hi env h2 (fun u h3 => gd (slsD x l u st h3) fun r => Q r h3) X) X) X
def xRng (t : Bool) (it : TI) : TX := fun env h Q X => it env h (fun s h1 => s.items.length ≤ 16777216 ∧ Q (if t = true then .v (.tup s.items) else .o (.lst s.items)) h1) X
def stepC (t : TG) (env : Env) (own : List Nat) (e : TX) : D → AH → (Option D → AH → Prop) → Prop := fun x h k => t x (wipe env own) h fun env2 h3 => e env2 h3 (fun r h4 => rv r h4 fun d h5 => k (some d) h5) noX
def stepCi (t : TG) (env : Env) (own : List Nat) (c e : TX) : D → AH → (Option D → AH → Prop) → Prop := fun x h k => t x (wipe env own) h fun env2 h3 =>
  c env2 h3 (fun b h4 => gd (tru b h4) fun b => if b = true then e env2 h4 (fun r h5 => rv r h5 fun d h6 => k (some d) h6) noX else k none h4) noX
def xComp (t : TG) (it : TI) (own : List Nat) (e : TX) : TX := fun env h Q X => it env h (fun s h1 => wComp s.chk (stepC t env own e) s.items [] h1 fun acc h2 => Q (.o (.lst acc)) h2) X
def xCompi (t : TG) (it : TI) (own : List Nat) (c e : TX) : TX := fun env h Q X => it env h (fun s h1 => wComp s.chk (stepCi t env own c e) s.items [] h1 fun acc h2 => Q (.o (.lst acc)) h2) X
def stepC2 (t : TG) (env : Env) (own : List Nat) (t1 : TG) (it1 : TI) (own1 : List Nat) (e : TX) : D → List D → AH → (List D → AH → Prop) → Prop := fun x acc h k => t x (wipe env own) h fun env2 h3 =>
  it1 env2 h3 (fun s1 h4 => wComp s1.chk (stepC t1 env2 own1 e) s1.items acc h4 k) noX
def xComp2 (t : TG) (it : TI) (own : List Nat) (t1 : TG) (it1 : TI) (own1 : List Nat) (e : TX) : TX := fun env h Q X => it env h (fun s h1 => wComp2 s.chk (stepC2 t env own t1 it1 own1 e) s.items [] h1 fun acc h2 => Q (.o (.lst acc)) h2) X
def esNil : TEs := fun env h Q X => Q [] h
def esCons (e : TX) (es : TEs) : TEs := fun env h Q X => e env h (fun r h1 => rv r h1 fun d h2 => es env h2 (fun ds h3 => Q (d :: ds) h3) X) X
def oNo : TO := fun env h Q X => Q none h
def oSo (e : TX) : TO := fun env h Q X => e env h (fun r h1 => gd (asInt r) fun i => Q (some i) h1) X
def iSeq (e : TX) : TI := fun env h Q X => e env h (fun r h1 => gd (srcOf r h1) fun s => Q s h1) X
def iR1 (a : TX) : TI := fun env h Q X => a env h (fun r h1 => gd (asInt r) fun j => small62 j = true ∧ Q (.fix (rngL 0 j.toNat)) h1) X
def iR2 (a b : TX) : TI := fun env h Q X => a env h (fun r h1 => gd (asInt r) fun i => b env h1 (fun r2 h2 => gd (asInt r2) fun j => (small62 i && small62 j) = true ∧ Q (.fix (rngL i (j - i).toNat)) h2) X) X
def iR3 (a b c : TX) : TI := fun env h Q X => a env h (fun r h1 => gd (asInt r) fun i => b env h1 (fun r2 h2 => gd (asInt r2) fun j => c env h2 (fun r3 h3 => gd (asInt r3) fun s =>
  (small62 i && small62 j && stepOk s) = true ∧ Q (.fix (rngLC i s (rngN i j s))) h3) X) X) X
section
variable (cal : Cal) (G : Str → Option D)
mutual
def wX : Ex → TX
  | .lit d => xLit d
  | .var i => xVar i
  | .glo x => xGlo G x
  | .bin op a b => xBin op (wX a) (wX b)
  | .cmp op a b => xCmp op (wX a) (wX b)
  | .chain o1 o2 a b c => xChain o1 o2 (wX a) (wX b) (wX c)
  | .isc neg a c => xIsc neg (wX a) c
  | .and a b => xAnd (wX a) (wX b)
  | .or a b => xOr (wX a) (wX b)
  | .not a => xNot (wX a)
  | .neg a => xNeg (wX a)
  | .ite c a b => xIte (wX c) (wX a) (wX b)
  | .tup es => xTup (wEs es)
  | .lst es => xLst (wEs es)
  | .dct => xDct
  | .call f es => xCall cal f (wEs es)
  | .callv i es => xCallv cal G i (wEs es)
  | .b1 b a => xB1 b (wX a)
  | .b2 b a c => xB2 b (wX a) (wX c)
  | .mt m o es => xMt m (wX o) (wEs es)
  | .ix a i => xIx (wX a) (wX i)
  | .sl a lo hi => xSl (wX a) (wO lo) (wO hi)
  | .sls a lo hi st => xSls (wX a) (wO lo) (wO hi) st
  | .rng t it => xRng t (wI it)
  | .comp t it own e => xComp (wTg t) (wI it) own (wX e)
  | .compi t it own c e => xCompi (wTg t) (wI it) own (wX c) (wX e)
  | .comp2 t it own t1 it1 own1 e => xComp2 (wTg t) (wI it) own (wTg t1) (wI it1) own1 (wX e)
def wEs : Es → TEs
  | .nil => esNil
  | .cons e es => esCons (wX e) (wEs es)
def wO : Oe → TO
  | .no => oNo
  | .so e => oSo (wX e)
def wI : It → TI
  | .seq e => iSeq (wX e)
  | .rng1 a => iR1 (wX a)
  | .rng2 a b => iR2 (wX a) (wX b)
  | .rng3 a b c => iR3 (wX a) (wX b) (wX c)
end
end
/-! ### statements -/
def tE (a : TX) : Env → AH → (D → AH → Prop) → Xc → Prop := fun env h Q X => a env h (fun r h1 => rv r h1 Q) X
def tT (a : TX) : Env → AH → (Bool → AH → Prop) → Xc → Prop := fun env h Q X => a env h (fun r h1 => gd (tru r h1) fun k => Q k h1) X
def sAsg (t : TG) (e : TX) : TS := fun env h K => tE e env h (fun d h1 => t d env h1 K.nx) (K.ex env)
def sSet (o i e : TX) : TS := fun env h K => tE e env h (fun d h1 => tE o env h1 (fun a h2 => tE i env h2 (fun k h3 => gd (setD a k d h3) fun h4 => K.nx env h4) (K.ex env)) (K.ex env)) (K.ex env)
def sAug (i : Nat) (op : Bop) (e : TX) : TS := fun env h K => gd (lk env i) fun x => e env h (fun r h1 => gd (augD op x r h1) fun p => rv p.1 p.2 fun d h2 => K.nx (env.set i (some d)) h2) (K.ex env)
def sExpr (e : TX) : TS := fun env h K => e env h (fun _ h1 => K.nx env h1) (K.ex env)
def sIf (c : TX) (a b : TS) : TS := fun env h K => tT c env h (fun k h1 => if k = true then a env h1 K else b env h1 K) (K.ex env)
def Ks.turn (K : Ks) (n : Env → AH → Prop) : Ks := ⟨n, K.rt, K.nx, n, K.ex⟩
def Ks.then (K : Ks) (n : Env → AH → Prop) : Ks := ⟨n, K.rt, K.bk, K.ct, K.ex⟩
def sWhl (c : TX) (b : TS) : TS := fun env h K => ∃ W : Nat → Env → AH → Prop, (∃ m, W m env h) ∧ ∀ m env h, W m env h → tT c env h (fun k h1 =>
  if k = true then b env h1 (K.turn fun env1 h2 => ∃ m', m' < m ∧ W m' env1 h2) else K.nx env h1) (K.ex env)
def bdF (t : TG) (b : TS) (K : Ks) : D → Env → AH → (Env → AH → Prop) → Prop := fun x env h k => t x env h fun env3 h3 => b env3 h3 (K.turn k)
def sFor (t : TG) (it : TI) (b : TS) : TS := fun env h K => it env h (fun s h1 => wFor s.chk (bdF t b K) K.nx s.items env h1) (K.ex env)
def sRet (e : TX) : TS := fun env h K => tE e env h K.rt (K.ex env)
def sRetn : TS := fun env h K => K.rt .non h
def sRais (c : Str) : TS := fun env h K => K.ex env c h
def sTry (Sub : Str → Str → Option Bool) (b : TS) (c : Str) (d : D) : TS := fun env h K => b env h ⟨K.nx, K.rt, K.bk, K.ct, fun env1 x h1 => gd (Sub x c) fun k => if k = true then K.rt d h1 else K.ex env1 x h1⟩
def sPass : TS := fun env h K => K.nx env h
def sBrk : TS := fun env h K => K.bk env h
def sCnt : TS := fun env h K => K.ct env h
def bCons (s r : TS) : TS := fun env h K => s env h (K.then fun env1 h1 => r env1 h1 K)
section
variable (cal : Cal) (G : Str → Option D) (Sub : Str → Str → Option Bool)
mutual
def wS : St → TS
  | .asg t e => sAsg (wTg t) (wX cal G e)
  | .set o i e => sSet (wX cal G o) (wX cal G i) (wX cal G e)
  | .aug i op e => sAug i op (wX cal G e)
  | .expr e => sExpr (wX cal G e)
  | .ifs c a b => sIf (wX cal G c) (wB a) (wB b)
  | .whl c b => sWhl (wX cal G c) (wB b)
  | .for_ t it b => sFor (wTg t) (wI cal G it) (wB b)
  | .ret e => sRet (wX cal G e)
  | .retn => sRetn
  | .rais c => sRais c
  | .tryx b c d => sTry Sub (wB b) c d
  | .pass => sPass
  | .brk => sBrk
  | .cnt => sCnt
def wB : Sts → TS
  | .nil => sPass
  | .cons s r => bCons (wS s) (wB r)
end
end
/-- the program: its defs, the constants of its top, which class of exceptions is below which -/
structure Prog where
  fn : Str → Option Fn
  gl : Str → Option D
  sub : Str → Str → Option Bool
def start (n : Nat) (ds : List D) : Env := ds.map some ++ List.replicate (n - ds.length) none
def ksOf (Q : D → AH → Prop) (X : Xc) : Ks := ⟨fun _ h => Q .non h, Q, fun _ _ => False, fun _ _ => False, fun _ => X⟩
/-- a part of the heap -/
def Sub (h' h : AH) : Prop := ∀ a o, h' a = some o → h a = some o
/-- what is wanted of a part of the heap: the rest is forgotten -/
def someQ (Q : D → AH → Prop) : D → AH → Prop := fun d h => ∃ h', Sub h' h ∧ Q d h'
def someX (X : Xc) : Xc := fun c h => ∃ h', Sub h' h ∧ X c h'
/-- a call, by at most n levels -/
def wC (P : Prog) : Nat → Cal
  | 0 => fun _ _ _ _ _ => False
  | n + 1 => fun f ds h Q X => gd (P.fn f) fun c => ds.length = c.np ∧ wB (wC P n) P.gl P.sub c.body (start c.nn ds) h (ksOf (someQ Q) (someX X))
end Py
namespace Py
open PySem (Str)
def Mono (cal : Cal) : Prop := ∀ f ds h (Q Q' : D → AH → Prop) (X X' : Xc), (∀ d h, Q d h → Q' d h) → (∀ c h, X c h → X' c h) → cal f ds h Q X → cal f ds h Q' X'
def MX (t : TX) : Prop := ∀ env h (Q Q' : Rv → AH → Prop) (X X' : Xc), (∀ r h, Q r h → Q' r h) → (∀ c h, X c h → X' c h) → t env h Q X → t env h Q' X'
def MEs (t : TEs) : Prop := ∀ env h (Q Q' : List D → AH → Prop) (X X' : Xc), (∀ r h, Q r h → Q' r h) → (∀ c h, X c h → X' c h) → t env h Q X → t env h Q' X'
def MO (t : TO) : Prop := ∀ env h (Q Q' : Option Int → AH → Prop) (X X' : Xc), (∀ r h, Q r h → Q' r h) → (∀ c h, X c h → X' c h) → t env h Q X → t env h Q' X'
def MI (t : TI) : Prop := ∀ env h (Q Q' : Src → AH → Prop) (X X' : Xc), (∀ r h, Q r h → Q' r h) → (∀ c h, X c h → X' c h) → t env h Q X → t env h Q' X'
def MG (t : TG) : Prop := ∀ d env h (k k' : Env → AH → Prop), (∀ e h, k e h → k' e h) → t d env h k → t d env h k'
def MGs (t : TGs) : Prop := ∀ d env h (k k' : Env → AH → Prop), (∀ e h, k e h → k' e h) → t d env h k → t d env h k'
theorem rv_mono {r : Rv} {h : AH} {Q Q' : D → AH → Prop} (m : ∀ d h, Q d h → Q' d h) (q : rv r h Q) : rv r h Q' := q.mono m
theorem gd_mono {α : Type} {o : Option α} {k k' : α → Prop} (m : ∀ a, k a → k' a) (h : gd o k) : gd o k' := h.mono m
theorem ite_mono {c : Prop} [Decidable c] {a b a' b' : Prop} (h1 : a → a') (h2 : b → b') (q : if c then a else b) : if c then a' else b' := by
  split at q
  · rw [if_pos (by assumption)]; exact h1 q
  · rw [if_neg (by assumption)]; exact h2 q
mutual
theorem mTg : ∀ t : Tg, MG (wTg t)
  | .nm i => fun d env h k k' m q => m _ _ q
  | .tp ts => fun d env h k k' m q => gd_mono (fun xs q => mTgs ts xs env h k k' m q) q
theorem mTgs : ∀ t : Tgs, MGs (wTgs t)
  | .nil => fun d env h k k' m q => ⟨q.1, m _ _ q.2⟩
  | .cons t ts => fun xs env h k k' m q => by
    cases xs with
    | nil => exact q
    | cons x r => exact mTg t x env h _ _ (fun e h q => mTgs ts r e h k k' m q) q
end
theorem wComp_mono {chk : AH → Prop} {step step' : D → AH → (Option D → AH → Prop) → Prop} (hs : ∀ x h k k', (∀ o h, k o h → k' o h) → step x h k → step' x h k') :
    ∀ (xs acc : List D) (h : AH) (Q Q' : List D → AH → Prop), (∀ a h, Q a h → Q' a h) → wComp chk step xs acc h Q → wComp chk step' xs acc h Q'
  | [], acc, h, Q, Q', m, q => ⟨q.1, m _ _ q.2⟩
  | x :: r, acc, h, Q, Q', m, q => by
    refine ⟨q.1, hs x h _ _ (fun o h1 q => ?_) q.2⟩
    cases o with
    | none => exact wComp_mono hs r acc h1 Q Q' m q
    | some y => exact ⟨q.1, wComp_mono hs r _ h1 Q Q' m q.2⟩
theorem wComp2_mono {chk : AH → Prop} {step step' : D → List D → AH → (List D → AH → Prop) → Prop} (hs : ∀ x a h k k', (∀ o h, k o h → k' o h) → step x a h k → step' x a h k') :
    ∀ (xs acc : List D) (h : AH) (Q Q' : List D → AH → Prop), (∀ a h, Q a h → Q' a h) → wComp2 chk step xs acc h Q → wComp2 chk step' xs acc h Q'
  | [], acc, h, Q, Q', m, q => ⟨q.1, m _ _ q.2⟩
  | x :: r, acc, h, Q, Q', m, q => ⟨q.1, hs x acc h _ _ (fun o h1 q => wComp2_mono hs r o h1 Q Q' m q) q.2⟩
theorem wFor_mono {chk : AH → Prop} {bd bd' : D → Env → AH → (Env → AH → Prop) → Prop} {nx nx' : Env → AH → Prop} (hb : ∀ x e h k k', (∀ e h, k e h → k' e h) → bd x e h k → bd' x e h k') (hn : ∀ e h, nx e h → nx' e h) :
    ∀ (xs : List D) (env : Env) (h : AH), wFor chk bd nx xs env h → wFor chk bd' nx' xs env h
  | [], env, h, q => ⟨q.1, hn _ _ q.2⟩
  | x :: r, env, h, q => ⟨q.1, hb x env h _ _ (fun e h1 q => wFor_mono hb hn r e h1 q) q.2⟩
section
variable {a b c e : TX} {es : TEs} {t t1 : TG} {it it1 : TI} {lo hi : TO}
theorem m2 (ha : MX a) (hb : MX b) {env : Env} {h : AH} {Q Q' : Rv → Rv → AH → Prop} {X X' : Xc} (m : ∀ x y h, Q x y h → Q' x y h) (mx : ∀ c h, X c h → X' c h)
    (q : a env h (fun x h1 => b env h1 (fun y h2 => Q x y h2) X) X) : a env h (fun x h1 => b env h1 (fun y h2 => Q' x y h2) X') X' :=
  ha _ _ _ _ _ _ (fun x h1 q => hb _ _ _ _ _ _ (fun y h2 => m x y h2) mx q) mx q
theorem mStepC (ht : MG t) (he : MX e) {env : Env} {own : List Nat} : ∀ x h k k', (∀ o h, k o h → k' o h) → stepC t env own e x h k → stepC t env own e x h k' := fun x h k k' mk q =>
  ht _ _ _ _ _ (fun env2 h3 q => he _ _ _ _ _ _ (fun r h4 q => rv_mono (fun d h5 q => mk _ _ q) q) (fun _ _ z => z) q) q
theorem mStepCi (ht : MG t) (hc : MX c) (he : MX e) {env : Env} {own : List Nat} : ∀ x h k k', (∀ o h, k o h → k' o h) → stepCi t env own c e x h k → stepCi t env own c e x h k' := fun x h k k' mk q =>
  ht _ _ _ _ _ (fun env2 h3 q => hc _ _ _ _ _ _ (fun b h4 q => gd_mono (fun b q => ite_mono (fun q => he _ _ _ _ _ _ (fun r h4 q => rv_mono (fun d h5 q => mk _ _ q) q) (fun _ _ z => z) q) (fun q => mk _ _ q) q) q) (fun _ _ z => z) q) q
theorem mStepC2 (ht : MG t) (ht1 : MG t1) (hi1 : MI it1) (he : MX e) {env : Env} {own own1 : List Nat} : ∀ x a h k k', (∀ o h, k o h → k' o h) → stepC2 t env own t1 it1 own1 e x a h k → stepC2 t env own t1 it1 own1 e x a h k' := fun x a h k k' mk q =>
  ht _ _ _ _ _ (fun env2 h3 q => hi1 _ _ _ _ _ _ (fun s1 h4 q => wComp_mono (mStepC ht1 he) _ _ _ _ _ mk q) (fun _ _ z => z) q) q
end
section
variable {cal : Cal} {G : Str → Option D} (hc : Mono cal)
include hc
mutual
theorem mX : ∀ e : Ex, MX (wX cal G e)
  | .lit d => fun env h Q Q' X X' m mx q => m _ _ q
  | .var i => fun env h Q Q' X X' m mx q => gd_mono (fun _ => m _ _) q
  | .glo x => fun env h Q Q' X X' m mx q => gd_mono (fun _ => m _ _) q
  | .bin op a b => fun env h Q Q' X X' m mx q => m2 (mX a) (mX b) (fun x y h2 q => gd_mono (fun _ => m _ _) q) mx q
  | .cmp op a b => fun env h Q Q' X X' m mx q => m2 (mX a) (mX b) (fun x y h2 q => gd_mono (fun _ => m _ _) q) mx q
  | .chain o1 o2 a b c => fun env h Q Q' X X' m mx q => m2 (mX a) (mX b) (fun x y h2 q => gd_mono (fun k q => ite_mono (fun q => mX c _ _ _ _ _ _ (fun z h3 q => gd_mono (fun _ => m _ _) q) mx q) (fun q => m _ _ q) q) q) mx q
  | .isc neg a c => fun env h Q Q' X X' m mx q => mX a _ _ _ _ _ _ (fun x h1 q => gd_mono (fun _ => m _ _) q) mx q
  | .and a b => fun env h Q Q' X X' m mx q => mX a _ _ _ _ _ _ (fun x h1 q => gd_mono (fun k q => ite_mono (fun q => mX b _ _ _ _ _ _ m mx q) (fun q => m _ _ q) q) q) mx q
  | .or a b => fun env h Q Q' X X' m mx q => mX a _ _ _ _ _ _ (fun x h1 q => gd_mono (fun k q => ite_mono (fun q => m _ _ q) (fun q => mX b _ _ _ _ _ _ m mx q) q) q) mx q
  | .not a => fun env h Q Q' X X' m mx q => mX a _ _ _ _ _ _ (fun x h1 q => gd_mono (fun _ => m _ _) q) mx q
  | .neg a => fun env h Q Q' X X' m mx q => mX a _ _ _ _ _ _ (fun x h1 q => gd_mono (fun _ => m _ _) q) mx q
  | .ite c a b => fun env h Q Q' X X' m mx q => mX c _ _ _ _ _ _ (fun x h1 q => gd_mono (fun k q => ite_mono (fun q => mX a _ _ _ _ _ _ m mx q) (fun q => mX b _ _ _ _ _ _ m mx q) q) q) mx q
  | .tup es => fun env h Q Q' X X' m mx q => mEs es _ _ _ _ _ _ (fun ds h1 q => ⟨q.1, m _ _ q.2⟩) mx q
  | .lst es => fun env h Q Q' X X' m mx q => mEs es _ _ _ _ _ _ (fun ds h1 q => ⟨q.1, m _ _ q.2⟩) mx q
  | .dct => fun env h Q Q' X X' m mx q => m _ _ q
  | .call f es => fun env h Q Q' X X' m mx q => mEs es _ _ _ _ _ _ (fun ds h1 q => hc _ _ _ _ _ _ _ (fun d h2 => m _ _) mx q) mx q
  | .callv i es => fun env h Q Q' X X' m mx q => gd_mono (fun f q => ⟨q.1, mEs es _ _ _ _ _ _ (fun ds h1 q => hc _ _ _ _ _ _ _ (fun d h2 => m _ _) mx q) mx q.2⟩) q
  | .b1 b a => fun env h Q Q' X X' m mx q => mX a _ _ _ _ _ _ (fun x h1 q => gd_mono (fun _ => m _ _) q) mx q
  | .b2 b a c => fun env h Q Q' X X' m mx q => mX a _ _ _ _ _ _ (fun x h1 q => rv_mono (fun x1 h2 q => mX c _ _ _ _ _ _ (fun y h3 q => rv_mono (fun y1 h4 q => gd_mono (fun _ => m _ _) q) q) mx q) q) mx q
  | .mt mm o es => fun env h Q Q' X X' m mx q => mX o _ _ _ _ _ _ (fun x h1 q => ⟨q.1, mEs es _ _ _ _ _ _ (fun ds h2 q => gd_mono (fun _ => m _ _) q) mx q.2⟩) mx q
  | .ix a b => fun env h Q Q' X X' m mx q => m2 (mX a) (mX b) (fun x y h2 q => gd_mono (fun _ => m _ _) q) mx q
  | .sl a lo hi => fun env h Q Q' X X' m mx q => mX a _ _ _ _ _ _ (fun x h1 q => mO lo _ _ _ _ _ _ (fun l h2 q => mO hi _ _ _ _ _ _ (fun u h3 q => gd_mono (fun _ => m _ _) q) mx q) mx q) mx q
  | .sls a lo hi st => fun env h Q Q' X X' m mx q => mX a _ _ _ _ _ _ (fun x h1 q => mO lo _ _ _ _ _ _ (fun l h2 q => mO hi _ _ _ _ _ _ (fun u h3 q => gd_mono (fun _ => m _ _) q) mx q) mx q) mx q
  | .rng t it => fun env h Q Q' X X' m mx q => mI it _ _ _ _ _ _ (fun s h1 q => ⟨q.1, m _ _ q.2⟩) mx q
  | .comp t it own e => fun env h Q Q' X X' m mx q => mI it _ _ _ _ _ _ (fun s h1 q => wComp_mono (mStepC (mTg t) (mX e)) _ _ _ _ _ (fun a h => m _ _) q) mx q
  | .compi t it own c e => fun env h Q Q' X X' m mx q => mI it _ _ _ _ _ _ (fun s h1 q => wComp_mono (mStepCi (mTg t) (mX c) (mX e)) _ _ _ _ _ (fun a h => m _ _) q) mx q
  | .comp2 t it own t1 it1 own1 e => fun env h Q Q' X X' m mx q => mI it _ _ _ _ _ _ (fun s h1 q => wComp2_mono (mStepC2 (mTg t) (mTg t1) (mI it1) (mX e)) _ _ _ _ _ (fun a h => m _ _) q) mx q
theorem mEs : ∀ es : Es, MEs (wEs cal G es)
  | .nil => fun env h Q Q' X X' m mx q => m _ _ q
  | .cons e es => fun env h Q Q' X X' m mx q => mX e _ _ _ _ _ _ (fun r h1 q => rv_mono (fun d h2 q => mEs es _ _ _ _ _ _ (fun ds h3 q => m _ _ q) mx q) q) mx q
theorem mO : ∀ o : Oe, MO (wO cal G o)
  | .no => fun env h Q Q' X X' m mx q => m _ _ q
  | .so e => fun env h Q Q' X X' m mx q => mX e _ _ _ _ _ _ (fun r h1 q => gd_mono (fun _ => m _ _) q) mx q
theorem mI : ∀ it : It, MI (wI cal G it)
  | .seq e => fun env h Q Q' X X' m mx q => mX e _ _ _ _ _ _ (fun r h1 q => gd_mono (fun _ => m _ _) q) mx q
  | .rng1 a => fun env h Q Q' X X' m mx q => mX a _ _ _ _ _ _ (fun r h1 q => gd_mono (fun _ q => ⟨q.1, m _ _ q.2⟩) q) mx q
  | .rng2 a b => fun env h Q Q' X X' m mx q => mX a _ _ _ _ _ _ (fun r h1 q => gd_mono (fun _ q => mX b _ _ _ _ _ _ (fun r2 h2 q => gd_mono (fun _ q => ⟨q.1, m _ _ q.2⟩) q) mx q) q) mx q
  | .rng3 a b c => fun env h Q Q' X X' m mx q => mX a _ _ _ _ _ _ (fun r h1 q => gd_mono (fun _ q => mX b _ _ _ _ _ _ (fun r2 h2 q => gd_mono (fun _ q => mX c _ _ _ _ _ _ (fun r3 h3 q => gd_mono (fun _ q => ⟨q.1, m _ _ q.2⟩) q) mx q) q) mx q) q) mx q
end
end
structure Ks.le (K K' : Ks) : Prop where
  nx : ∀ e h, K.nx e h → K'.nx e h
  rt : ∀ d h, K.rt d h → K'.rt d h
  bk : ∀ e h, K.bk e h → K'.bk e h
  ct : ∀ e h, K.ct e h → K'.ct e h
  ex : ∀ e c h, K.ex e c h → K'.ex e c h
theorem Ks.le.turn {K K' : Ks} (m : K.le K') {n n' : Env → AH → Prop} (hn : ∀ e h, n e h → n' e h) : (K.turn n).le (K'.turn n') := ⟨hn, m.rt, m.nx, hn, m.ex⟩
theorem Ks.le.then {K K' : Ks} (m : K.le K') {n n' : Env → AH → Prop} (hn : ∀ e h, n e h → n' e h) : (K.then n).le (K'.then n') := ⟨hn, m.rt, m.bk, m.ct, m.ex⟩
def MS (t : TS) : Prop := ∀ env h (K K' : Ks), K.le K' → t env h K → t env h K'
theorem tE_mono {a : TX} (ha : MX a) {env : Env} {h : AH} {Q Q' : D → AH → Prop} {X X' : Xc} (m : ∀ r h, Q r h → Q' r h) (mx : ∀ c h, X c h → X' c h) (q : tE a env h Q X) : tE a env h Q' X' := ha _ _ _ _ _ _ (fun r h1 q => rv_mono m q) mx q
theorem tT_mono {a : TX} (ha : MX a) {env : Env} {h : AH} {Q Q' : Bool → AH → Prop} {X X' : Xc} (m : ∀ r h, Q r h → Q' r h) (mx : ∀ c h, X c h → X' c h) (q : tT a env h Q X) : tT a env h Q' X' := ha _ _ _ _ _ _ (fun r h1 q => gd_mono (fun k => m _ _) q) mx q
section
variable {cal : Cal} {G : Str → Option D} {Sub : Str → Str → Option Bool} (hc : Mono cal)
include hc
mutual
theorem mS : ∀ s : St, MS (wS cal G Sub s)
  | .asg t e => fun env h K K' m q => tE_mono (mX hc e) (fun d h1 q => mTg t d _ _ _ _ m.nx q) (m.ex env) q
  | .set o i e => fun env h K K' m q => tE_mono (mX hc e) (fun d h1 q => tE_mono (mX hc o) (fun a h2 q => tE_mono (mX hc i) (fun k h3 q => gd_mono (fun h4 => m.nx _ _) q) (m.ex env) q) (m.ex env) q) (m.ex env) q
  | .aug i op e => fun env h K K' m q => gd_mono (fun x q => mX hc e _ _ _ _ _ _ (fun r h1 q => gd_mono (fun p q => rv_mono (fun d h2 => m.nx _ _) q) q) (m.ex env) q) q
  | .expr e => fun env h K K' m q => mX hc e _ _ _ _ _ _ (fun _ h1 => m.nx _ _) (m.ex env) q
  | .ifs c a b => fun env h K K' m q => tT_mono (mX hc c) (fun k h1 q => ite_mono (fun q => mB a _ _ _ _ m q) (fun q => mB b _ _ _ _ m q) q) (m.ex env) q
  | .whl c b => fun env h K K' m q => by
    obtain ⟨W, h0, hs⟩ := q
    exact ⟨W, h0, fun n env1 h1 w => tT_mono (mX hc c) (fun k h2 q => ite_mono (fun q => mB b _ _ _ _ (m.turn fun _ _ z => z) q) (fun q => m.nx _ _ q) q) (m.ex env1) (hs n env1 h1 w)⟩
  | .for_ t it b => fun env h K K' m q => mI hc it _ _ _ _ _ _ (fun s h1 q => wFor_mono (fun x e2 h2 k k' mk q => mTg t _ _ _ _ _ (fun e3 h3 q => mB b _ _ _ _ (m.turn mk) q) q) m.nx _ _ _ q) (m.ex env) q
  | .ret e => fun env h K K' m q => tE_mono (mX hc e) m.rt (m.ex env) q
  | .retn => fun env h K K' m q => m.rt _ _ q
  | .rais c => fun env h K K' m q => m.ex _ _ _ q
  | .tryx b c d => fun env h K K' m q => mB b env h ⟨K.nx, K.rt, K.bk, K.ct, fun env1 x h1 => gd (Sub x c) fun k => if k = true then K.rt d h1 else K.ex env1 x h1⟩ ⟨K'.nx, K'.rt, K'.bk, K'.ct, fun env1 x h1 => gd (Sub x c) fun k => if k = true then K'.rt d h1 else K'.ex env1 x h1⟩
    ⟨m.nx, m.rt, m.bk, m.ct, fun e1 x h1 q => gd_mono (fun k q => ite_mono (fun q => m.rt _ _ q) (fun q => m.ex _ _ _ q) q) q⟩ q
  | .pass => fun env h K K' m q => m.nx _ _ q
  | .brk => fun env h K K' m q => m.bk _ _ q
  | .cnt => fun env h K K' m q => m.ct _ _ q
theorem mB : ∀ s : Sts, MS (wB cal G Sub s)
  | .nil => fun env h K K' m q => m.nx _ _ q
  | .cons s r => fun env h K K' m q => mS s _ _ _ _ (m.then fun e h1 q => mB r _ _ _ _ m q) q
end
end
theorem someQ_mono {Q Q' : D → AH → Prop} (m : ∀ d h, Q d h → Q' d h) {d : D} {h : AH} (q : someQ Q d h) : someQ Q' d h := let ⟨h', s, q⟩ := q; ⟨h', s, m _ _ q⟩
theorem someX_mono {Q Q' : Xc} (m : ∀ d h, Q d h → Q' d h) {d : Str} {h : AH} (q : someX Q d h) : someX Q' d h := let ⟨h', s, q⟩ := q; ⟨h', s, m _ _ q⟩
theorem wC_mono (P : Prog) : ∀ n, Mono (wC P n)
  | 0 => fun _ _ _ _ _ _ _ _ _ q => q
  | n + 1 => fun f ds h Q Q' X X' m mx q => gd_mono (fun c q => ⟨q.1, mB (wC_mono P n) c.body (start c.nn ds) h (ksOf (someQ Q) (someX X)) (ksOf (someQ Q') (someX X')) ⟨fun _ h1 q => someQ_mono m q, fun _ h1 q => someQ_mono m q, fun _ _ z => z, fun _ _ z => z, fun _ c h1 q => someX_mono mx q⟩ q.2⟩) q
end Py
/-! What the abstract data and heap are of the layer's values and heap. -/
namespace Py
open L2 PySem.Spec PySem PyProof.Rows

/-- a list that stands locked -/
def SqF (K : PySem.W.Frag) (H : Hp) (a : Addr) (xs : List V) : Prop := (∃ o, H a = some (.frz o (.lst xs))) ∨
  ∃ (o : Obj) (its : Array Value) (n : Nat), K.lookup a = some o ∧ o.cls = .type "list" ∧
      o.dict = none ∧ o.data = .seq its n ∧ its.size ≤ sizeLine ∧ Vals xs its.toList
theorem SqF.seq {K : PySem.W.Frag} {H : Hp} {a : Addr} {xs : List V} (h : SqF K H a xs) : SqL K H a xs := h.elim (fun ⟨o, e⟩ => .inl (.inr ⟨o, e⟩)) .inr
/-- a tuple that carries no dict -/
def SqD (K : PySem.W.Frag) (H : Hp) (a : Addr) (xs : List V) : Prop := (∃ o, H a = some (.frz o (.tup xs)) ∧ o.dict = none) ∨
  ∃ (o : Obj) (its : Array Value) (n : Nat), K.lookup a = some o ∧ o.cls = .type "tuple" ∧ o.dict = none ∧ o.data = .seq its n ∧ its.size ≤ sizeLine ∧ Vals xs its.toList
theorem SqD.sq {K : PySem.W.Frag} {H : Hp} {a : Addr} {xs : List V} (h : SqD K H a xs) : SqT K H a xs :=
  h.elim (fun ⟨o, e, _⟩ => .inl (.inr ⟨o, e⟩)) fun ⟨o, its, n, k, c, _, d, z, r⟩ => .inr ⟨o, its, n, k, c, d, z, r⟩
mutual
inductive Rep (K : PySem.W.Frag) (M : Str → Option Value) (H : Hp) : V → D → Prop
  | non : Rep K M H .non .non
  | bl (b : Bool) : Rep K M H (.bl b) (.bl b)
  | int (i : Int) : Rep K M H (.int i) (.int i)
  | str (x : Str) : Rep K M H (.str x) (.str x)
  | tup {a : Addr} {vs : List V} {ds : List D} : SqD K H a vs → Reps K M H vs ds → Rep K M H (.ref a) (.tup ds)
  | loc (a : Addr) : Rep K M H (.ref a) (.loc a)
  | fn {a : Addr} {x : Str} : M x = some (.ref a) → Rep K M H (.ref a) (.fn x)
  | fl {a : Addr} {vs : List V} {ds : List D} : SqF K H a vs → Reps K M H vs ds → Rep K M H (.ref a) (.fl ds)
inductive Reps (K : PySem.W.Frag) (M : Str → Option Value) (H : Hp) : List V → List D → Prop
  | nil : Reps K M H [] []
  | cons {v : V} {vs : List V} {d : D} {ds : List D} : Rep K M H v d → Reps K M H vs ds → Reps K M H (v :: vs) (d :: ds)
end
/-- what is never changed stays -/
structure Mn (K : PySem.W.Frag) (H H' : Hp) : Prop where
  t : ∀ a xs, SqD K H a xs → SqD K H' a xs
  f : ∀ a xs, SqF K H a xs → SqF K H' a xs
section
variable {K : PySem.W.Frag} {M : Str → Option Value} {H H' : Hp}
mutual
theorem Rep.mono (m : Mn K H H') : ∀ {v : V} {d : D}, Rep K M H v d → Rep K M H' v d
  | _, _, .non => .non
  | _, _, .bl b => .bl b
  | _, _, .int i => .int i
  | _, _, .str x => .str x
  | _, _, .tup s r => .tup (m.t _ _ s) (Reps.mono m r)
  | _, _, .loc a => .loc a
  | _, _, .fn e => .fn e
  | _, _, .fl s r => .fl (m.f _ _ s) (Reps.mono m r)
theorem Reps.mono (m : Mn K H H') : ∀ {vs : List V} {ds : List D}, Reps K M H vs ds → Reps K M H' vs ds
  | _, _, .nil => .nil
  | _, _, .cons r t => .cons (Rep.mono m r) (Reps.mono m t)
end
theorem Reps.length : ∀ {vs : List V} {ds : List D}, Reps K M H vs ds → vs.length = ds.length
  | _, _, .nil => rfl
  | _, _, .cons _ t => by rw [List.length_cons, List.length_cons, Reps.length t]
theorem Reps.append : ∀ {vs ws : List V} {ds es : List D}, Reps K M H vs ds → Reps K M H ws es → Reps K M H (vs ++ ws) (ds ++ es)
  | _, _, _, _, .nil, r => r
  | _, _, _, _, .cons a t, r => .cons a (Reps.append t r)
theorem Reps.get : ∀ {vs : List V} {ds : List D} {i : Nat} {d : D}, Reps K M H vs ds → ds[i]? = some d → ∃ v, vs[i]? = some v ∧ Rep K M H v d
  | _, _, _, _, .nil, e =>
      by simp at e
  | _, _, 0, _, .cons a t, e => by
    simp at e
    subst e
    exact ⟨_, rfl, a⟩
  | _, _, i + 1, _, .cons a t, e => by
    obtain ⟨v, h1, h2⟩ := Reps.get (i := i) t (by simpa using e)
    exact ⟨v, by simpa using h1, h2⟩
theorem Reps.getV : ∀ {vs : List V} {ds : List D} {i : Nat} {v : V}, Reps K M H vs ds → vs[i]? = some v → ∃ d, ds[i]? = some d ∧ Rep K M H v d
  | _, _, _, _, .nil, e =>
      by simp at e
  | _, _, 0, _, .cons a t, e => by
    simp at e
    subst e
    exact ⟨_, rfl, a⟩
  | _, _, i + 1, _, .cons a t, e => by
    obtain ⟨v, h1, h2⟩ := Reps.getV (i := i) t (by simpa using e)
    exact ⟨v, by simpa using h1, h2⟩
theorem Reps.set : ∀ {vs : List V} {ds : List D} {v : V} {d : D} (i : Nat), Reps K M H vs ds → Rep K M H v d → Reps K M H (vs.set i v) (ds.set i d)
  | _, _, _, _, _, .nil, _ => .nil
  | _, _, _, _, 0, .cons a t, r => .cons r t
  | _, _, _, _, i + 1, .cons a t, r => .cons a (Reps.set i t r)
theorem Reps.take : ∀ {vs : List V} {ds : List D} (n : Nat), Reps K M H vs ds → Reps K M H (vs.take n) (ds.take n)
  | _, _, 0, _ => .nil
  | _, _, _ + 1, .nil => .nil
  | _, _, n + 1, .cons a t => .cons a (Reps.take n t)
theorem Reps.drop : ∀ {vs : List V} {ds : List D} (n : Nat), Reps K M H vs ds → Reps K M H (vs.drop n) (ds.drop n)
  | _, _, 0, r => r
  | _, _, _ + 1, .nil => .nil
  | _, _, n + 1, .cons a t => Reps.drop n t
theorem Reps.eraseIdx : ∀ {vs : List V} {ds : List D} (n : Nat), Reps K M H vs ds → Reps K M H (vs.eraseIdx n) (ds.eraseIdx n)
  | _, _, _, .nil => .nil
  | _, _, 0, .cons a t => t
  | _, _, n + 1, .cons a t => .cons a (Reps.eraseIdx n t)
theorem Reps.reverse : ∀ {vs : List V} {ds : List D}, Reps K M H vs ds → Reps K M H vs.reverse ds.reverse
  | _, _, .nil => .nil
  | _, _, .cons a t => by
    rw [List.reverse_cons,
        List.reverse_cons]
    exact (Reps.reverse t).append (.cons a .nil)
theorem Reps.rep {vs : List V} {ds : List D} (r : Reps K M H vs ds) : ∀ k : Nat, Reps K M H (List.replicate k vs).flatten (List.replicate k ds).flatten
  | 0 => .nil
  | k + 1 => by
    rw [List.replicate_succ, List.replicate_succ,
        List.flatten_cons, List.flatten_cons]
    exact r.append (Reps.rep r k)
theorem Reps.dropLast {vs : List V} {ds : List D} (r : Reps K M H vs ds) : Reps K M H vs.dropLast ds.dropLast := by
  rw [List.dropLast_eq_take, List.dropLast_eq_take, r.length]
  exact r.take _
theorem Reps.ofInts : ∀ ns : List Int, Reps K M H (ns.map V.int) (ns.map D.int)
  | [] => .nil
  | i :: r => .cons (.int i) (Reps.ofInts r)
theorem Reps.ints : ∀ {vs : List V} {ds : List D} {ns : List Int}, Reps K M H vs ds → intsL ds = some ns → vs = ns.map V.int ∧ ds = ns.map D.int
  | _, _, ns, .nil, e => by
    cases (Option.some.inj (show some [] = some ns from e))
    exact ⟨rfl, rfl⟩
  | _, _, ns, .cons (d := d) a t, e => by
    cases d with
    | int i =>
      rename_i vv vs ds
      have e' : (intsL ds).map (i :: ·) = some ns := e
      cases q : intsL ds with
      | none => rw [q] at e'; cases e'
      | some ms =>
        rw [q] at e'
        cases (Option.some.inj (show some (i :: ms) = some ns from e'))
        obtain ⟨e1, e2⟩ := Reps.ints t q
        cases a
        exact ⟨by rw [e1]; rfl, by rw [e2]; rfl⟩
    | _ => cases e
theorem Reps.bls : ∀ {vs : List V} {ds : List D} {ns : List Bool}, Reps K M H vs ds → blsL ds = some ns → vs = ns.map V.bl ∧ ds = ns.map D.bl
  | _, _, ns, .nil, e => by
    cases (Option.some.inj (show some [] = some ns from e))
    exact ⟨rfl, rfl⟩
  | _, _, ns, .cons (d := d) a t, e => by
    cases d with
    | bl i =>
      rename_i vv vs ds
      have e' : (blsL ds).map (i :: ·) = some ns := e
      cases q : blsL ds with
      | none => rw [q] at e'; cases e'
      | some ms =>
        rw [q] at e'
        cases (Option.some.inj (show some (i :: ms) = some ns from e'))
        obtain ⟨e1, e2⟩ := Reps.bls t q
        cases a
        exact ⟨by rw [e1]; rfl, by rw [e2]; rfl⟩
    | _ => cases e
end
/-- a dict of the abstract heap: see DctRel -/
def RD (K : PySem.W.Frag) (M : Str → Option Value) (H : Hp) (a : Addr) (kvs : List (D × D)) : Prop := ∃ φ, H a = some (.ext φ) ∧ False
/-- what stands at an address of the abstract heap -/
def RO (K : PySem.W.Frag) (M : Str → Option Value) (H : Hp) (a : Addr) : AO → Prop
  | .lst ds => ∃ vs, H a = some (.lst vs) ∧ Reps K M H vs ds
  | .dct kvs => RD K M H a kvs
def RelH (K : PySem.W.Frag) (M : Str → Option Value) (h : AH) (H : Hp) : Prop := ∀ a o, h a = some o → RO K M H a o
/-- from one pair of heaps to the next -/
structure Tr (h : AH) (H : Hp) (h' : AH) (H' : Hp) : Prop where
  keep : ∀ a o, H a = some o → h a = none → H' a = some o ∧ h' a = none
  grow : ∀ a, H a ≠ none → H' a ≠ none
/-- what an expression comes to: H0 the heap ahead of it -/
def RepR (K : PySem.W.Frag) (M : Str → Option Value) (H0 : Hp) (h : AH) (H : Hp) (v : V) : Rv → Prop
  | .v d => Rep K M H v d
  | .o x => ∃ p, v = .ref p ∧ H0 p = none ∧ h p = none ∧ RO K M H p x
section
variable {K : PySem.W.Frag} {M : Str → Option Value} {h h' h'' : AH} {H H' H'' H0 : Hp}
theorem Tr.refl : Tr h H h H := ⟨fun a o e n => ⟨e, n⟩, fun _ z => z⟩
theorem Tr.trans (x : Tr h H h' H') (y : Tr h' H' h'' H'') : Tr h H h'' H'' := ⟨fun a o e n => let ⟨e1, n1⟩ := x.keep a o e n; y.keep a o e1 n1, fun a z => y.grow a (x.grow a z)⟩
theorem RO.there {a : Addr} {o : AO} (r : RO K M H a o) : ∃ u, H a = some u := by
  cases o with
  | lst ds => obtain ⟨vs, e, _⟩ := r; exact ⟨_, e⟩
  | dct kvs => obtain ⟨φ, e, _⟩ := r; exact ⟨_, e⟩
theorem RelH.free (r : RelH K M h H) {a : Addr} (e : H a = none) : h a = none := by
  cases q : h a with
  | none => rfl
  | some o =>
    obtain ⟨u, z⟩ := (r a o q).there
    rw [e] at z
    cases z
theorem RelH.nfrz (r : RelH K M h H) {a : Addr} {o : Obj} {u : HO} (e : H a = some (.frz o u)) : h a = none := by
  cases q : h a with
  | none => rfl
  | some o =>
    have z := r a o q
    cases o with
    | lst ds =>
      obtain ⟨vs, e2, _⟩ := z
      rw [e] at e2; cases e2
    | dct kvs =>
      obtain ⟨φ, e2, _⟩ := z
      rw [e] at e2; cases e2
theorem Tr.mn (x : Tr h H h' H') (r : RelH K M h H) : Mn K H H' := by
  refine ⟨fun a xs s => ?_, fun a xs s => ?_⟩
  · rcases s with ⟨o, e, d⟩ | e
    · exact .inl ⟨o, (x.keep _ _ e (r.nfrz e)).1, d⟩
    · exact .inr e
  · rcases s with ⟨o, e⟩ | e
    · exact .inl ⟨o, (x.keep _ _ e (r.nfrz e)).1⟩
    · exact .inr e
theorem RO.mono {a : Addr} {o : AO} (m : Mn K H H') (e : H' a = H a) (r : RO K M H a o) : RO K M H' a o := by
  cases o with
  | lst ds => obtain ⟨vs, e1, r1⟩ := r; exact ⟨vs, e.trans e1, r1.mono m⟩
  | dct kvs => obtain ⟨φ, e1, r1⟩ := r; exact ⟨φ, e.trans e1, r1⟩
theorem RepR.mono {v : V} {r : Rv} (x : Tr h H h' H') (rel : RelH K M h H) (q : RepR K M H0 h H v r) : RepR K M H0 h' H' v r := by
  cases r with
  | v d => exact Rep.mono (x.mn rel) q
  | o u =>
    obtain ⟨p, e, n0, n, ro⟩ := q
    obtain ⟨w, hw⟩ := ro.there
    obtain ⟨h1, h2⟩ := x.keep p w hw n
    exact ⟨p, e, n0, h2, ro.mono (x.mn rel) (h1.trans hw.symm)⟩
theorem RepR.back {v : V} {r : Rv} (z : ∀ a, H0 a ≠ none → H'' a ≠ none) (q : RepR K M H'' h H v r) : RepR K M H0 h H v r := by
  cases r with
  | v d => exact q
  | o u =>
    obtain ⟨p, e, n0, n, ro⟩ := q
    refine ⟨p, e, ?_, n, ro⟩
    cases w : H0 p with
    | none => rfl
    | some y => exact absurd n0 (z p (by rw [w]; simp))
/-- a new tracked object that the abstract heap does not know -/
theorem Tr.new {p : Addr} {u : HO} (rel : RelH K M h H) (n : H p = none) : Tr h H h (upd H p u) := by
  refine ⟨fun a o e z => ⟨?_, z⟩, fun a z => ?_⟩
  · rw [upd_ne (ne_of_none e n)]; exact e
  · unfold upd
    split
    · simp
    · exact z
theorem RelH.new {p : Addr} {u : HO} (rel : RelH K M h H) (n : H p = none) : RelH K M h (upd H p u) := fun a o e => by
  have hp : a ≠ p := fun z => by
    rw [z, rel.free n] at e
    cases e
  exact (rel a o e).mono ((Tr.new rel n).mn rel) (upd_ne hp)
/-- .. and that it then knows -/
theorem RelH.take {p : Addr} {o : AO} (rel : RelH K M h H) (ro : RO K M H p o) : RelH K M (put h p o) H := fun a u e => by
  unfold put at e
  split at e
  · rename_i q
    cases e
    rw [q]; exact ro
  · exact rel a u e
theorem Tr.take {p : Addr} {o : AO} {H0 : Hp} {h0 : AH} (x : Tr h0 H0 h H) (n : H0 p = none) : Tr h0 H0 (put h p o) H := by
  refine ⟨fun a u e z => ?_, x.grow⟩
  obtain ⟨e1, e2⟩ := x.keep a u e z
  refine ⟨e1, ?_⟩
  rw [put_ne (ne_of_none e n)]
  exact e2
/-- an object is written -/
theorem Tr.write {p : Addr} {o o' : AO} {u : HO} (rel : RelH K M h H) (e : h p = some o) : Tr h H (put h p o') (upd H p u) := by
  refine ⟨fun a v q z => ?_, fun a z => ?_⟩
  · have hp : a ≠ p := fun w => by rw [w, e] at z; cases z
    exact ⟨by rw [upd_ne hp]; exact q, by rw [put_ne hp]; exact z⟩
  · unfold upd
    split
    · simp
    · exact z
theorem RelH.write {p : Addr} {o o' : AO} {u : HO} (rel : RelH K M h H) (e : h p = some o) (ro : Mn K H (upd H p u) → RO K M (upd H p u) p o') : RelH K M (put h p o') (upd H p u) := fun a v q => by
  have m := (Tr.write (o' := o') (u := u) rel e).mn rel
  unfold put at q
  split at q
  · rename_i w
    cases q
    rw [w]; exact ro m
  · rename_i w
    exact (rel a v q).mono m (upd_ne w)
end
end Py
/-! Tuples that are just made, tracked with their object: they carry no dict. -/
namespace Py
open L2 PySem.Spec PySem PyProof.Rows
section
variable {X : Cx} {pins : List (Addr × Obj)} {σ : L2.St} {H : Hp} {s : Shared} {Q : VK}
/-- what is wanted of a new tuple -/
def NewT (Q : VK) (H : Hp) (xs : List V) : Prop := ∀ p o, H p = none → o.dict = none → Q (.ref p) (upd H p (.frz o (.tup xs)))
theorem newT_at {h' : Heap} {xs : List V} {its : List Value} {tk : Nat} (I : L2.Inv X pins σ H { s with heap := h', toks := tk }) (r : Vals xs its) (hz : xs.length ≤ sizeLine) (q : NewT Q H xs) :
    EP X pins σ Q (.ref h'.objs.size) { s with heap := h'.push { cls := .type "tuple", data := .seq its.toArray }, toks := tk } := by
  have nn : H h'.objs.size = none := I.hok.fresh (Nat.le_refl _)
  refine ⟨.ref h'.objs.size, _, I.laid (a := h'.objs.size) (o := .frz { cls := .type "tuple", data := .seq its.toArray } (.tup xs)) (t' := tk) (fun b w z => Heap.get?_push_of_some _ z) (Nat.le_refl _) ?_, rfl, q _ _ nn rfl⟩
  exact ⟨Heap.get?_push_size _ rfl, hz, its, r, IsTup.new _ _⟩
theorem newT_ok {xs : List V} {its : List Value} (I : L2.Inv X pins σ H s) (r : Vals xs its) (hz : xs.length ≤ sizeLine) (q : NewT Q H xs) :
    EP X pins σ Q (.ref s.heap.objs.size) { s with heap := s.heap.push { cls := .type "tuple", data := .seq its.toArray } } := newT_at (s := s) (h' := s.heap) (tk := s.toks) I r hz q
end
section
variable {X : Cx}
/-- (a, b, ..) -/
def tTupX (t : TA) : L2.TE := fun σ H Q => t σ H fun xs H1 => xs.length ≤ sizeLine ∧ NewT Q H1 xs
theorem pe_tupX {es : List Expr} {k : Nat} {pos : Pos} {t : TA} (g : PA X es t) : PE X (.Tuple es k pos) (tTupX t) := ⟨fun pins s σ H Q I hq =>
  wpAny_Tuple_spliced (thn (g.run pos pins s σ H _ I hq) fun us s1 ⟨xs, H1, I1, r, z, q⟩ => ⟨by rw [← r.length]; exact z, newT_ok I1 r z q⟩)⟩
/-- t + u -/
def rCatX (K : PySem.W.Frag) : R2 := fun x y H Q => ∃ a b xs ys, x = .ref a ∧ y = .ref b ∧ SqT K H a xs ∧ SqT K H b ys ∧ xs.length + ys.length ≤ sizeLine ∧
  (xs = [] → Q (.ref b) H) ∧ (xs ≠ [] → ys = [] → Q (.ref a) H) ∧ NewT Q H (xs ++ ys)
theorem op_catX : OpR X (binaryOp .Add) (rCatX X.K) := by
  intro pins s σ H x y v u Q I rx ry hh
  obtain ⟨a, b, xs, ys, rfl, rfl, ha, hb, hz, q0, q1, q2⟩ := hh
  cases rx; cases ry
  obtain ⟨its, r1, p1, _⟩ :=
      I.tuple ha
  obtain ⟨its2, r2, p2, _⟩ :=
      I.tuple hb
  by_cases hx : xs = []
  · subst hx
    cases r1
    exact cat_tup0 p1 p2 ⟨.ref b,
        H, I, rfl, q0 rfl⟩
  · refine HT.cat_tup p1 p2 (fun z => hx (r1.nil_iff.mp z)) (fun z => ⟨.ref a, H, I, rfl, q1 hx (r2.nil_iff.mp z)⟩) (fun _ => newT_ok I (r1.append r2) (by rw [List.length_append]; exact hz) q2) ?_
    rw [← r1.length, ← r2.length]; exact hz
/-- t[lo:hi] -/
def rSlX (K : PySem.W.Frag) : V → Option Int → Option Int → Hp → VK → Prop := fun x lo hi H Q => ∃ a xs, x = .ref a ∧ SqT K H a xs ∧
  (HT.sIx xs.length 0 lo = 0 ∧ HT.sIx xs.length xs.length hi = xs.length → Q (.ref a) H) ∧ NewT Q H (cutV xs lo hi)
theorem sl_tupX : SlR X (rSlX X.K) := by
  intro pins s σ H x v vl vu lo hi sl Q I rx hs pl pu hh
  obtain ⟨a, xs, rfl, hx, q1, q2⟩ := hh
  cases rx
  obtain ⟨its, r, ht, hz⟩ :=
      I.tuple hx
  have hlen : its.toArray.size = xs.length := by rw [List.size_toArray, r.length]
  refine ⟨"tuple", _, slot_tuple_getitem.lookup, ht.typeIs, ?_⟩
  by_cases hw : HT.sIx xs.length 0 lo = 0 ∧
      HT.sIx xs.length xs.length hi = xs.length
  · exact getItem_tuple_whole ht hs pl pu (by rw [hlen]; exact hw) ⟨.ref a, H, I, rfl, q1 hw⟩
  · refine HT.getItem_tuple_cut ht hs pl pu (by rw [hlen]; exact hw) ?_ (by rw [hlen]; exact hz)
    rw [hlen]
    exact newT_ok I ((r.drop _).take _) (Nat.le_trans (cutV_length xs lo hi) hz) q2
/-- tuple(x) -/
theorem call_tupX : CallR X (.type "tuple") (fun xs H Q => ∃ p ys, xs = [.ref p] ∧ ((SqL X.K H p ys ∧ NewT Q H ys) ∨ (SqT X.K H p ys ∧ Q (.ref p) H))) := by
  intro pins s σ H xs us Q I r hh
  obtain ⟨p, ys, rfl, hh⟩ := hh
  obtain ⟨u, rfl, rx⟩ :=
      vals1 r
  cases rx
  rcases hh with ⟨hq, q⟩ | ⟨hq, q⟩
  · obtain ⟨its, r', pl, hz⟩ :=
        I.list hq
    have hlen := r'.length
    exact call_tuple_list pl.isList (fun h' kp => newT_at (s := s) (tk := s.toks) (I.kept (t' := s.toks) kp) r' hz q) (by simp only [List.size_toArray]; omega)
  · obtain ⟨its, r', pl, hz⟩ :=
        I.tuple hq
    exact call_tuple_same pl ⟨.ref p,
        H, I, rfl, q⟩
/-- tuple(range(a, b)) -/
def tTupRgX (te : L2.St → Hp → (Int → Int → Hp → Prop) → Prop) : L2.TE := fun σ H Q => te σ H fun a b H1 => RgOk a b ∧ NewT Q H1 (rgV a b)
theorem pe_tupRgX {e : Expr} {te : L2.St → Hp → (Int → Int → Hp → Prop) → Prop} {p pos : Pos} (hc : X.calm = true) (hg : Gl X "tuple") (hm : X.mg "tuple" = none) (he : PRg X e te) (na : starEach [e] X.env = (false, eval e X.env) :: starEach [] X.env) :
    PE X (.Call (.Name "tuple" p) [e] [] pos) (tTupRgX te) := by
  refine ⟨fun pins s σ H Q I hh => ?_⟩
  refine Call_ (ld_blt I hg hm boot_tuple (callWith_type1 (args_cons (thn (he pins s σ H _ I hh) fun x s1 ⟨r, a, b, t, u, v, H1, ex, hr, I1, ok, q⟩ => args_nil ?_) na) na))
  subst ex
  obtain ⟨b1, b2, b3, b4, b5⟩ :=
      ok
  refine call_tuple_range (n :=
      (b - a).toNat) (I1.ok.hd hc) hr (small_one b1 b2 b3 b4) (rangeSize_nat a b) b5 fun h' tk acc hk hi => ?_
  have w := newT_at (s := s1) (h' := h') (tk := tk) (its := acc.toList) (I1.kept (t' := tk) hk) (vals_rg hi) (by rw [rgV_length, sizeLine_eq]; omega) q
  rw [Array.toArray_toList] at w
  exact w
/-! ### t * k -/
theorem tmul_same (l : Addr) (items : Array Value) (n : Nat) (dd : Option Addr) (sl : Array (Option Value)) (x : Int) (u : Tok) (c0 : (decide (x < -(2 ^ 63)) || decide (x ≥ 2 ^ 63)) = false) (c1 : (items.isEmpty || x == 1) = true) :
    Meets (Builtin.«tuple.__mul__» ⟨[.ref l, .int x u], []⟩) (fun _ R s => s.heap.get? l = some { cls := .type "tuple", dict := dd, data := .seq items n, slots := sl } ∧ R (.ok (.ret (Value.ref l))) s) :=
  .of_wp fun prog
      w A R s h => by
    obtain ⟨hp, g, d, tk, os⟩ :=
        s
    obtain ⟨hl, h⟩ := h
    have f1 := AutoSeq1.idx_int
    wp_walk using
        wpAny_loadPart' hl
    repeat (first
      | (refine wpAny_ite_false (decide_eq_false (by rw [c0]; decide)) ?_; wp_walk using wpAny_loadPart' hl)
      | (refine wpAny_ite_true (decide_eq_true (by rw [c1])) ?_; wp_walk using wpAny_loadPart' hl))
    exact ⟨_, rfl, h⟩
theorem tmul_none (l : Addr) (items : Array Value) (n : Nat) (dd : Option Addr) (sl : Array (Option Value)) (x : Int) (u : Tok) (c0 : (decide (x < -(2 ^ 63)) || decide (x ≥ 2 ^ 63)) = false) (c1 : (items.isEmpty || x == 1) = false) (c2 : (decide (x ≤ 0) || items.isEmpty) = true) :
    Meets (Builtin.«tuple.__mul__» ⟨[.ref l, .int x u], []⟩) (fun _ R s =>
        s.heap.get? l = some { cls := .type "tuple", dict := dd, data := .seq items n, slots := sl } ∧
      R (.ok (.ret (Value.ref s.heap.objs.size))) { s with heap := s.heap.push { cls := Value.type "tuple", data := Data.seq #[] }, toks := s.toks }) :=
  .of_wp fun prog
      w A R s h => by
    obtain ⟨hp, g, d, tk, os⟩ :=
        s
    obtain ⟨hl, h⟩ := h
    have f1 := AutoSeq1.idx_int
    wp_walk using
        wpAny_loadPart' hl
    repeat (first
      | (refine wpAny_ite_false (decide_eq_false (by rw [c0]; decide)) ?_; wp_walk using wpAny_loadPart' hl)
      | (refine wpAny_ite_false (decide_eq_false (by rw [c1]; decide)) ?_; wp_walk using wpAny_loadPart' hl)
      | (refine wpAny_ite_true (decide_eq_true (by rw [c2])) ?_; wp_walk using wpAny_loadPart' hl)
      | (refine wpAny_ite_false (decide_eq_false (by simp only [List.size_toArray, List.length_nil]; omega)) ?_; wp_walk using wpAny_loadPart' hl))
    exact ⟨_, rfl, h⟩
def rRepX (K : PySem.W.Frag) : R2 := fun x y H Q => ∃ l k xs, x = .ref l ∧ y = .int k ∧ SqT K H l xs ∧ -(2 ^ 63) ≤ k ∧ k < 2 ^ 63 ∧ xs.length * k.toNat ≤ sizeLine ∧
  ((xs = [] ∨ k = 1) → Q (.ref l) H) ∧ NewT Q H (List.replicate k.toNat xs).flatten
theorem op_repX : OpR X (binaryOp .Mult) (rRepX X.K) := by
  intro pins s σ H x y v u Q I rx ry hh
  obtain ⟨l, k, xs, rfl, rfl, hT, h1, h2, hz, q1, q2⟩ := hh
  cases rx
  obtain ⟨t, rfl⟩ := ry
  obtain ⟨its, r, ⟨⟨cls, dd, data, sl⟩, ho, hc, n, hd⟩, hs⟩ :=
      I.tuple hT
  simp only at hc hd
  subst hc hd
  have hle : its.length = xs.length :=
      r.length.symm
  have c0 : (decide (k < -(2 ^ 63)) || decide (k ≥ 2 ^ 63)) = false := by simp only [Bool.or_eq_false_iff, decide_eq_false_iff_not]; omega
  have flen : (List.replicate k.toNat xs).flatten.length ≤ sizeLine := by
    rw [lm_len_rep_flat, Nat.mul_comm]; exact hz
  have he : (its.toArray.isEmpty = true) ↔ xs = [] := by
    cases r with
    | nil => simp
    | cons a b => simp
  by_cases c1 : (its.toArray.isEmpty || k == 1) = true
  · refine wpAny_binaryOp_repeat_ref (T := "tuple") (U := "int") (by decide) ⟨_, ho, rfl⟩ (fun s' => typeIs_int s' k t) noFill_tuple_mul F.fills_int_mul F.slot_int_rmul repeat_tuple F.slot_int_index.lookup
      (call_meets F.slot_int_rmul (typeIs_int s k t) F.entry_int_rmul
          (F.args_int_rmul_2 _ _) (int_rmul_tuple k t l its.toArray n dd sl)
        ⟨ho, rfl, ⟨_, ho, rfl⟩, call_meets F.slot_tuple_mul ⟨_, ho, rfl⟩ F.entry_tuple_mul (F.args_tuple_mul_2 _ _) (tmul_same l its.toArray n dd sl k t c0 c1) ⟨ho, ⟨.ref l, H, I, rfl, q1 ?_⟩⟩⟩)
    rw [Bool.or_eq_true, he, beq_iff_eq] at c1
    exact c1
  · have c1' : (its.toArray.isEmpty || k == 1) = false := by simpa using c1
    rw [Bool.or_eq_false_iff] at c1'
    by_cases c2 : k ≤ 0
    · have e0 : (List.replicate k.toNat xs).flatten = [] := by
        rw [show k.toNat = 0 by omega]; rfl
      refine wpAny_binaryOp_repeat_ref (T := "tuple") (U :=
          "int") (by decide) ⟨_, ho, rfl⟩ (fun s' => typeIs_int s' k t) noFill_tuple_mul F.fills_int_mul F.slot_int_rmul repeat_tuple F.slot_int_index.lookup
        (call_meets F.slot_int_rmul (typeIs_int s k t) F.entry_int_rmul
            (F.args_int_rmul_2 _ _) (int_rmul_tuple k t l its.toArray n dd sl)
          ⟨ho, rfl, ⟨_, ho, rfl⟩, call_meets F.slot_tuple_mul ⟨_, ho, rfl⟩ F.entry_tuple_mul (F.args_tuple_mul_2 _ _) (tmul_none l its.toArray n dd sl k t c0 (by rw [Bool.or_eq_false_iff]; exact c1') (by rw [decide_eq_true c2]; rfl)) ⟨ho, ?_⟩⟩)
      rw [e0] at q2
      exact newT_ok (its := []) I .nil (Nat.zero_le _) q2
    · have hsz0 : its.toArray.size = xs.length := by rw [List.size_toArray, hle]
      have hm : ((its.toArray.size : Nat) : Int) * k ≤ 16777216 := by
        rw [hsz0]
        have e1 : ((xs.length * k.toNat : Nat) : Int) = (xs.length : Int) * k := by rw [Int.natCast_mul, Int.toNat_of_nonneg (by omega)]
        rw [← e1]
        have := sizeLine_eq
        omega
      refine wpAny_binaryOp_repeat_ref (T := "tuple") (U :=
          "int") (by decide) ⟨_, ho, rfl⟩ (fun s' => typeIs_int s' k t) noFill_tuple_mul F.fills_int_mul F.slot_int_rmul repeat_tuple F.slot_int_index.lookup
        (call_meets F.slot_int_rmul (typeIs_int s k t) F.entry_int_rmul
            (F.args_int_rmul_2 _ _) (int_rmul_tuple k t l its.toArray n dd sl)
          ⟨ho, rfl, ⟨_, ho, rfl⟩, call_meets F.slot_tuple_mul ⟨_, ho, rfl⟩ F.entry_tuple_mul (F.args_tuple_mul_2 _ _)
            (tuple_mulW l its.toArray n dd sl k t c0 (by rw [Bool.or_eq_false_iff]; exact c1') (by rw [decide_eq_false c2, c1'.1]; rfl) (by omega)
              (by unfold Builtin.Tuple.tupleTooMany; rw [sizeLine_eq]; exact decide_eq_false (by omega)) (by rw [size_rep, List.size_toArray, lm_len_rep_flat, hle, Nat.mul_comm]; exact hz)) ⟨ho, ?_⟩⟩)
      rw [size_rep]
      exact newT_ok I (r.rep k.toNat) flen q2
end
end Py
namespace Py
open L2 PySem.Spec PySem PyProof.Rows
/-- what an operand is -/
def Opd (K : PySem.W.Frag) (M : Str → Option Value) (h : AH) (H : Hp) (v : V) : Rv → Prop
  | .v d => Rep K M H v d
  | .o x => ∃ p, v = .ref p ∧ h p = none ∧ RO K M H p x
/-- what follows a result, the abstract heap as it was -/
def Aft (K : PySem.W.Frag) (M : Str → Option Value) (h : AH) (H : Hp) (h' : AH) (Q : VK) (r : Rv) : Prop :=
  ∀ v H', Tr h H h' H' → RelH K M h' H' → RepR K M H h' H' v r → Q v H'
section
variable {K : PySem.W.Frag} {M : Str → Option Value} {h h' : AH} {H H' H0 : Hp} {Q : VK}
theorem RepR.opd {v : V} {r : Rv} (q : RepR K M H0 h H v r) : Opd K M h H v r := by
  cases r with
  | v d => exact q
  | o x => obtain ⟨p, e, _, n, ro⟩ := q; exact ⟨p, e, n, ro⟩
theorem Opd.mono {v : V} {r : Rv} (x : Tr h H h' H') (rel : RelH K M h H) (q : Opd K M h H v r) : Opd K M h' H' v r := by
  cases r with
  | v d => exact Rep.mono (x.mn rel) q
  | o u =>
    obtain ⟨p, e, n, ro⟩ := q
    obtain ⟨w, hw⟩ := ro.there
    obtain ⟨h1, h2⟩ := x.keep p w hw n
    exact ⟨p, e, h2, ro.mono (x.mn rel) (h1.trans hw.symm)⟩
theorem Aft.v {d : D} {v : V} (a : Aft K M h H h Q (.v d)) (rel : RelH K M h H) (r : Rep K M H v d) : Q v H := a v H .refl rel r
theorem Aft.newL {ds : List D} {vs : List V} {p : Addr} (a : Aft K M h H h Q (.o (.lst ds))) (rel : RelH K M h H) (n : H p = none) (r : Reps K M H vs ds) : Q (.ref p) (upd H p (.lst vs)) :=
  a _ _ (Tr.new rel n) (rel.new n) ⟨p, rfl, n, rel.free n, vs, upd_same, r.mono ((Tr.new rel n).mn rel)⟩
theorem Aft.newT {ds : List D} {vs : List V} (a : Aft K M h H h Q (.v (.tup ds))) (rel : RelH K M h H) (r : Reps K M H vs ds) : NewT Q H vs := fun p o n d =>
  a _ _ (Tr.new rel n) (rel.new n) (.tup (.inl ⟨o, upd_same, d⟩) (r.mono ((Tr.new rel n).mn rel)))
theorem opd_lt {v : V} {r : Rv} {xs : List D} (o : Opd K M h H v r) (rel : RelH K M h H) (e : ltV r h = some xs) : ∃ a vs, v = .ref a ∧ H a = some (.lst vs) ∧ Reps K M H vs xs := by
  unfold ltV at e
  split at e
  · rename_i ys q
    cases e
    unfold ob at q
    split at q
    · rename_i a
      cases o
      obtain ⟨vs, e1, r1⟩ := rel _ _ q
      exact ⟨_, vs, rfl, e1, r1⟩
    · cases q
      obtain ⟨p, e0, _, vs, e1, r1⟩ := o
      exact ⟨p, vs, e0, e1, r1⟩
    · cases q
  · cases e
theorem opd_ls {v : V} {r : Rv} {xs : List D} (o : Opd K M h H v r) (rel : RelH K M h H) (e : lsV r h = some xs) : ∃ a vs, v = .ref a ∧ SqL K H a vs ∧ Reps K M H vs xs := by
  unfold lsV at e
  split at e
  · cases e
    cases o with
    | fl s r => exact ⟨_, _, rfl, s.seq, r⟩
  · obtain ⟨a, vs, e1, e2, e3⟩ := opd_lt o rel (show ltV r h = some xs from e)
    exact ⟨a, vs, e1, .inl (.inl e2), e3⟩
theorem opd_sq {v : V} {r : Rv} {xs : List D} (o : Opd K M h H v r) (rel : RelH K M h H) (e : sqV r h = some xs) : ∃ a vs, v = .ref a ∧ (SqL K H a vs ∨ SqD K H a vs) ∧ Reps K M H vs xs := by
  unfold sqV at e
  split at e
  · cases e
    cases o with
    | tup s r => exact ⟨_, _, rfl, .inr s, r⟩
  · obtain ⟨a, vs, e1, e2, e3⟩ := opd_ls o rel e
    exact ⟨a, vs, e1, .inl e2, e3⟩
end
/-! ### operators -/
def opOf : Bop → Operator
  | .add => .Add | .sub => .Sub | .mul => .Mult | .fdiv => .FloorDiv | .mod => .Mod | .pow => .Pow | .shl => .LShift | .shr => .RShift | .band => .BitAnd | .bxor => .BitXor | .bor => .BitOr
def rBin (K : PySem.W.Frag) (M : Str → Option Value) (f : Rv → Rv → AH → Option Rv) : R2 := fun x y H Q => ∃ h xr yr r, RelH K M h H ∧ Opd K M h H x xr ∧ Opd K M h H y yr ∧ f xr yr h = some r ∧ Aft K M h H h Q r
section
variable {X : Cx}
theorem add_ok : OpR X (binaryOp .Add) (rBin X.K X.mg addD) := by
  intro pins s σ H x y v u Q I rx ry hh
  obtain ⟨h, xr, yr, r, rel, ox, oy, e, a⟩ := hh
  unfold addD at e
  split at e
  · cases e; cases ox; cases oy
    exact op_add pins s σ H _ _ v u Q I rx ry ⟨_, _, rfl, rfl, a.v rel (.int _)⟩
  · split at e
    · cases e; cases ox; cases oy
      exact op_add_str pins s σ H _ _ v u Q I rx ry ⟨_, _, rfl, rfl, by assumption, a.v rel (.str _)⟩
    · cases e
  · split at e
    · cases e
      rename_i xs ys hz
      cases ox with
      | tup s1 r1 =>
        cases oy with
        | tup s2 r2 =>
          refine op_catX pins s σ H _ _ v u Q I rx ry ⟨_, _, _, _, rfl, rfl, s1.sq, s2.sq, by rw [r1.length, r2.length]; exact hz, ?_⟩
          refine ⟨fun z => a.v rel ?_, fun _ z => a.v rel ?_, a.newT rel (r1.append r2)⟩
          · subst z
            cases r1
            exact .tup s2 r2
          · subst z
            cases r2
            rw [List.append_nil]
            exact .tup s1 r1
    · cases e
  · cases e; cases ox; cases oy
    exact op_add_ib pins s σ H _ _ v u Q I rx ry ⟨_, _, rfl, rfl, a.v rel (.int _)⟩
  · split at e
    · cases e
    · rename_i xs ex
      split at e
      · cases e
      · rename_i ys ey
        split at e
        · cases e
          rename_i hz
          obtain ⟨p, vs, rfl, h1, r1⟩ := opd_lt ox rel ex
          obtain ⟨q, ws, rfl, h2, r2⟩ := opd_lt oy rel ey
          exact op_cat pins s σ H _ _ v u Q I rx ry ⟨_, _, _, _, rfl, rfl, h1, h2, by rw [r1.length, r2.length]; exact hz, fun p hp => a.newL rel hp (r1.append r2)⟩
        · cases e
theorem mul_ok : OpR X (binaryOp .Mult) (rBin X.K X.mg mulD) := by
  intro pins s σ H x y v u Q I rx ry hh
  obtain ⟨h, xr, yr, r, rel, ox, oy, e, a⟩ := hh
  unfold mulD at e
  split at e
  · rename_i k
    cases oy
    split at e
    · rename_i i
      cases ox
      split at e
      · rename_i hz
        cases e
        rw [Bool.or_eq_true] at hz
        rcases hz with hz | hz
        · refine op_mul pins s σ H _ _ v u Q I rx ry ⟨_, _, rfl, rfl, ?_, a.v rel (.int _)⟩
          unfold mulOk at hz
          simp only [Bool.or_eq_true, Bool.and_eq_true, decide_eq_true_eq] at hz
          exact hz
        · refine op_mulW pins s σ H _ _ v u Q I rx ry ⟨_, _, rfl, rfl, ?_, a.v rel (.int _)⟩
          unfold wideOk at hz
          simp only [Bool.and_eq_true, decide_eq_true_eq] at hz
          exact wide_mul hz.1 hz.2 (by omega) (by omega) (by omega)
      · cases e
    · split at e
      · rename_i xs hz
        cases e
        cases ox with
        | tup s1 r1 =>
          refine op_repX pins s σ H _ _ v u Q I rx ry ⟨_, _, _, rfl, rfl, s1.sq, hz.1, hz.2.1, by rw [r1.length]; exact hz.2.2, fun z => a.v rel (.tup s1 ?_), a.newT rel (r1.rep _)⟩
          unfold rept
          rcases z with z | z
          · subst z
            cases r1
            rw [show (List.replicate k.toNat ([] : List D)).flatten = [] by simp]
            exact .nil
          · subst z
            rw [show (List.replicate (1 : Int).toNat xs).flatten = xs by simp]
            exact r1
      · cases e
    · split at e
      · rename_i xs ex
        split at e
        · rename_i hz
          cases e
          obtain ⟨p, vs, rfl, h1, r1⟩ := opd_lt ox rel ex
          exact op_rep pins s σ H _ _ v u Q I rx ry ⟨_, _, _, rfl, rfl, h1, hz.1, hz.2.1, by rw [r1.length]; exact hz.2.2, fun p hp => a.newL rel hp (r1.rep _)⟩
        · cases e
      · cases e
  · cases e
theorem int_ok {op : Bop} (h1 : op ≠ .add) (h2 : op ≠ .mul) : OpR X (binaryOp (opOf op)) (rBin X.K X.mg (binD op)) := by
  intro pins s σ H x y v u Q I rx ry hh
  obtain ⟨h, xr, yr, r, rel, ox, oy, e, a⟩ := hh
  have e' : ∃ i j k, xr = .v (.int i) ∧ yr = .v (.int j) ∧ intOp op i j = some k ∧ r = .v (.int k) := by
    unfold binD at e
    split at e
    · exact absurd rfl h1
    · exact absurd rfl h2
    · split at e
      · split at e
        · split at e
          · rename_i q
            cases e
            exact ⟨_, _, _, rfl, rfl, q, rfl⟩
          · cases e
        · cases e
      · cases e
  obtain ⟨i, j, k, rfl, rfl, ek, rfl⟩ := e'
  cases ox; cases oy
  have q := a.v rel (.int k)
  cases op with
  | add => exact absurd rfl h1
  | mul => exact absurd rfl h2
  | sub =>
    cases ek
    exact op_sub pins s σ H _ _ v u Q I rx ry ⟨_,
        _, rfl, rfl, q⟩
  | fdiv =>
    dsimp only [intOp] at ek
    split at ek
    · cases ek
      exact op_fdiv pins s σ H _ _ v u Q I rx ry ⟨_, _, rfl, rfl, by assumption, q⟩
    · cases ek
  | mod =>
    dsimp only [intOp] at ek
    split at ek
    · cases ek
      exact op_mod pins s σ H _ _ v u Q I rx ry ⟨_, _, rfl, rfl, by assumption, q⟩
    · cases ek
  | pow =>
    dsimp only [intOp] at ek
    split at ek
    · cases ek
      exact op_pow pins s σ H _ _ v u Q I rx ry ⟨_, _, rfl, rfl, by assumption, q⟩
    · cases ek
  | shl =>
    dsimp only [intOp] at ek
    split at ek
    · cases ek
      exact op_shl pins s σ H _ _ v u Q I rx ry ⟨_, _, rfl, rfl, by assumption, q⟩
    · cases ek
  | shr =>
    dsimp only [intOp] at ek
    split at ek
    · cases ek
      exact op_shr pins s σ H _ _ v u Q I rx ry ⟨_, _, rfl, rfl, by assumption, q⟩
    · cases ek
  | band =>
    cases ek
    exact op_and pins s σ H _ _ v u Q I rx ry ⟨_,
        _, rfl, rfl, q⟩
  | bxor =>
    cases ek
    exact op_xor pins s σ H _ _ v u Q I rx ry ⟨_,
        _, rfl, rfl, q⟩
  | bor =>
    cases ek
    exact op_or pins s σ H _ _ v u Q I rx ry ⟨_,
        _, rfl, rfl, q⟩
theorem bin_ok (op : Bop) : OpR X (binaryOp (opOf op)) (rBin X.K X.mg (binD op)) := by
  cases op with
  | add => exact add_ok
  | mul => exact mul_ok
  | _ => exact int_ok (fun z => nomatch z) (fun z => nomatch z)
/-- x op= y -/
def rAug (K : PySem.W.Frag) (M : Str → Option Value) (op : Bop) : R2 := fun x y H Q => ∃ h d yr r h', RelH K M h H ∧ Rep K M H x d ∧ Opd K M h H y yr ∧ augD op d yr h = some (r, h') ∧ Aft K M h H h' Q r
theorem aug_ok (op : Bop) : OpR X (inplaceOp (opOf op)) (rAug X.K X.mg op) := by
  intro pins s σ H x y v u Q I rx ry hh
  obtain ⟨h, d, yr, r, h', rel, ox, oy, e, a⟩ := hh
  unfold augD at e
  split at e
  · cases ox
    split at e
    · split at e
      · rename_i xs ex
        split at e
        · rename_i ys ey
          split at e
          · rename_i hz
            cases e
            obtain ⟨vs, h1, r1⟩ := rel _ _ ex
            obtain ⟨q, ws, rfl, h2, r2⟩ := opd_lt oy rel ey
            refine iop_ext pins s σ H _ _ v u Q I rx ry ⟨_, _, _, _, rfl, rfl, h1, h2, by rw [r1.length, r2.length]; exact hz, ?_⟩
            refine a _ _ (Tr.write rel ex) (RelH.write rel ex fun m => ⟨_, upd_same, (r1.append r2).mono m⟩) (.loc _)
          · cases e
        · cases e
      · cases e
    · cases e
  · cases ox
    split at e
    · cases oy
      split at e
      · cases e
        exact iop_add pins s σ H _ _ v u Q I rx ry ⟨_, _, rfl, rfl, a.v rel (.int _)⟩
      · cases e
        exact iop_sub pins s σ H _ _ v u Q I rx ry ⟨_, _, rfl, rfl, a.v rel (.int _)⟩
      · cases e
    · cases e
  · cases ox
    split at e
    · cases oy
      split at e
      · split at e
        · cases e
          exact iop_add_str pins s σ H _ _ v u Q I rx ry ⟨_, _, rfl, rfl, by assumption, a.v rel (.str _)⟩
        · cases e
      · cases e
    · cases e
  · cases e
end
end Py
namespace Py
open L2 PySem.Spec PySem PyProof.Rows
/-! ### data that are compared -/
mutual
def toP : D → PyData
  | .non => .none
  | .bl b => .bool b
  | .int i => .int i
  | .str s => .str s
  | .tup xs => .tuple (toPs xs)
  | .loc _ => .none
  | .fn _ => .none
  | .fl xs => .list (toPs xs)
def toPs : List D → List PyData
  | [] => []
  | x :: r => toP x :: toPs r
end
theorem toPs_length : ∀ xs : List D, (toPs xs).length = xs.length
  | [] => rfl
  | x :: r => by rw [toPs, List.length_cons, List.length_cons, toPs_length r]
mutual
theorem eqv_P : ∀ (n m : Nat) (d e : D), pu n d = true → pu m e = true → PyData.eqv (toP d) (toP e) = eqv d e
  | n + 1, m + 1, .tup xs, .tup ys, h1, h2 => by
    rw [pu, List.all_eq_true] at h1 h2
    rw [toP, toP, PyData.eqv, eqv]
    exact eqvs_P n m xs ys h1 h2
  | n, m, .non, e, _, _ => by cases e <;> (cases m <;> first | rfl | simp_all [pu, toP, PyData.eqv, eqv])
  | n, m, .bl b, e, _, _ => by cases e <;> (cases m <;> first | rfl | simp_all [pu, toP, PyData.eqv, eqv])
  | n, m, .int i, e, _, _ => by cases e <;> (cases m <;> first | rfl | simp_all [pu, toP, PyData.eqv, eqv])
  | n, m, .str s, e, _, _ => by cases e <;> (cases m <;> first | rfl | simp_all [pu, toP, PyData.eqv, eqv])
  | n + 1, 0, .tup xs, e, h1, h2 => by cases e <;> first | rfl | (simp_all [pu, toP, PyData.eqv, eqv]; done)
  | n + 1, m + 1, .tup xs, .non, h1, h2 => rfl
  | n + 1, m + 1, .tup xs, .bl _, h1, h2 => rfl
  | n + 1, m + 1, .tup xs, .int _, h1, h2 => rfl
  | n + 1, m + 1, .tup xs, .str _, h1, h2 => rfl
theorem eqvs_P : ∀ (n m : Nat) (xs ys : List D), (∀ x ∈ xs, pu n x = true) → (∀ y ∈ ys, pu m y = true) → PyData.eqvAll (toPs xs) (toPs ys) = eqvs xs ys
  | n, m, [], [], _, _ => rfl
  | n, m, [], y :: ys, _, _ => rfl
  | n, m, x :: xs, [], _, _ => rfl
  | n, m, x :: xs, y :: ys, h1, h2 => by
    rw [toPs, toPs, PyData.eqvAll, eqvs, eqv_P n m x y (h1 _ List.mem_cons_self) (h2 _ List.mem_cons_self), eqvs_P n m xs ys (fun z hz => h1 z (List.mem_cons_of_mem _ hz)) fun z hz => h2 z (List.mem_cons_of_mem _ hz)]
end
section
variable {K : PySem.W.Frag} {M : Str → Option Value} {h : AH} {H : Hp}
mutual
theorem dp_of : ∀ (n : Nat) (d : D) (v : V), Rep K M H v d → pu n d = true → Dp K H v (toP d) ∧ (toP d).canLay0 = true ∧ (toP d).depth ≤ n
  | n, .non, v, r, _ => by cases r; exact ⟨.non, rfl, Nat.zero_le _⟩
  | n, .bl b, v, r, _ => by cases r; exact ⟨.bl b, rfl, Nat.zero_le _⟩
  | n, .int i, v, r, _ => by cases r; exact ⟨.int i, rfl, Nat.zero_le _⟩
  | n, .str s, v, r, q => by
    cases r
    refine ⟨.str s, ?_, Nat.zero_le _⟩
    rw [toP, PyData.canLay0]
    cases n <;> exact q
  | n + 1, .tup xs, v, r, q => by
    cases r with
    | tup s rs =>
      rw [pu, List.all_eq_true] at q
      obtain ⟨a, b, c⟩ := dps_of n xs _ rs q
      exact ⟨.tup s.sq a, b, Nat.succ_le_succ c⟩
  | 0, .tup xs, v, r, q => by simp [pu] at q
  | n, .loc a, v, r, q => by cases n <;> simp [pu] at q
  | n, .fn x, v, r, q => by cases n <;> simp [pu] at q
  | n, .fl xs, v, r, q => by cases n <;> simp [pu] at q
theorem dps_of : ∀ (n : Nat) (xs : List D) (vs : List V), Reps K M H vs xs → (∀ x ∈ xs, pu n x = true) → DpAll K H vs (toPs xs) ∧ PyData.canLayAll0 (toPs xs) = true ∧ PyData.depthAll (toPs xs) ≤ n
  | n, [], vs, r, _ => by cases r; exact ⟨.nil, rfl, Nat.zero_le _⟩
  | n, x :: xs, vs, r, q => by
    cases r with
    | cons r1 r2 =>
      obtain ⟨a, b, c⟩ := dp_of n x _ r1 (q _ List.mem_cons_self)
      obtain ⟨a', b', c'⟩ := dps_of n xs _ r2 fun z hz => q z (List.mem_cons_of_mem _ hz)
      refine ⟨.cons a a', ?_, ?_⟩
      · rw [toPs, PyData.canLayAll0, b, b']; rfl
      · rw [toPs, PyData.depthAll]; omega
end
theorem shaped_of {n : Nat} {d : PyData} (h1 : d.canLay0 = true) (h2 : d.depth ≤ n) (h3 : n ≤ 64) : SeqAt.shaped d = true := by
  unfold SeqAt.shaped
  rw [h1, Bool.true_and]
  exact decide_eq_true
      (by omega)
/-- a list's items as data -/
theorem dl_of {a : Addr} {vs : List V} {xs : List D} (s : SqL K H a vs) (r : Reps K M H vs xs) (q : xs.all (pu 40) = true) : Dp K H (.ref a) (.list (toPs xs)) ∧ SeqAt.shaped (.list (toPs xs)) = true := by
  rw [List.all_eq_true] at q
  obtain ⟨p, b, c⟩ := dps_of 40 xs vs r q
  exact ⟨.lst s p, shaped_of (n := 41) b (by rw [PyData.depth]; omega) (by omega)⟩
theorem dt_of {a : Addr} {vs : List V} {xs : List D} (s : SqD K H a vs) (r : Reps K M H vs xs) (q : xs.all (pu 40) = true) : Dp K H (.ref a) (.tuple (toPs xs)) ∧ SeqAt.shaped (.tuple (toPs xs)) = true := by
  rw [List.all_eq_true] at q
  obtain ⟨p, b, c⟩ := dps_of 40 xs vs r q
  exact ⟨.tup s.sq p, shaped_of (n := 41) b (by rw [PyData.depth]; omega) (by omega)⟩
theorem any_P {d : D} (q : pu 40 d = true) : ∀ {xs : List D}, xs.all (pu 40) = true → ((toPs xs).any fun z => PyData.eqv z (toP d)) = xs.any fun z => eqv z d
  | [], _ => rfl
  | x :: xs, h => by
    rw [List.all_cons, Bool.and_eq_true]
        at h
    rw [toPs, List.any_cons, List.any_cons, eqv_P 40 40 x d h.1 q, any_P q h.2]
end
theorem lt_two (a b c d : Int) : PySem.W.dataLt (.tuple [.int a, .int b]) (.tuple [.int c, .int d]) = decide (a < c ∨ (a = c ∧ b < d)) := by
  show PyProof.Rows.lexLt itemOrd [.inl 1, .inl a, .inl 1, .inl b, .inl 0] [.inl 1, .inl c, .inl 1, .inl d, .inl 0] = _
  have e : ∀ x y : Int, itemLt (.inl x) (.inl y) = decide (x < y) := fun x y => rfl
  simp only [PyProof.Rows.lexLt, e]
  rcases Int.lt_trichotomy a c with h | h | h
  · simp [h]
  · subst h
    rcases Int.lt_trichotomy b d with h | h | h
    · simp [h]
    · simp [h]
    · have : ¬ b < d := by omega
      simp [this]
  · have h1 : ¬ a < c := by omega
    have h2 : ¬ a = c := by omega
    simp [h, h1, h2]
theorem two_rep {K : W.Frag} {M : Str → Option Value} {h : AH} {H : Hp} {x : V} {a b : Int} (ox : Opd K M h H x (.v (.tup [.int a, .int b]))) : Dp K H x (.tuple [.int a, .int b]) := by
  cases ox with
  | tup s r =>
    obtain ⟨d1, p1⟩ := dt_of s r (by rfl)
    exact d1
/-! ### == -/
def rCmp (K : PySem.W.Frag) (M : Str → Option Value) (f : Rv → Rv → AH → Option Bool) : R2 := fun x y H Q => ∃ h xr yr k, RelH K M h H ∧ Opd K M h H x xr ∧ Opd K M h H y yr ∧ f xr yr h = some k ∧ Q (.bl k) H
section
variable {X : Cx}
theorem eq_data (hu : X.A.units + 64 < cLine) {h : AH} {H : Hp} {x y : V} {xr yr : Rv} {k : Bool} (rel : RelH X.K X.mg h H) (ox : Opd X.K X.mg h H x xr) (oy : Opd X.K X.mg h H y yr) (e : eqD xr yr h = some k) :
    (∃ s t, x = .str s ∧ y = .str t ∧ k = decide (s = t)) ∨ ∃ d e, Dp X.K H x d ∧ Dp X.K H y e ∧ SeqAt.shaped d = true ∧ SeqAt.shaped e = true ∧ PyData.eqv d e = k := by
  unfold eqD at e
  split at e
  · cases e; cases ox; cases oy
    exact .inr ⟨_, _, .int _, .int _, rfl, rfl, rfl⟩
  · cases e; cases ox; cases oy
    exact .inl ⟨_, _, rfl, rfl, rfl⟩
  · split at e
    · rename_i xs ys q
      cases e
      rw [Bool.and_eq_true] at q
      cases ox with
      | tup s1 r1 =>
        cases oy with
        | tup s2 r2 =>
          obtain ⟨d1, p1⟩ := dt_of s1 r1 q.1
          obtain ⟨d2, p2⟩ := dt_of s2 r2 q.2
          refine .inr ⟨_, _, d1, d2, p1, p2, ?_⟩
          rw [PyData.eqv]
          exact eqvs_P 40 40 _ _ (List.all_eq_true.mp q.1) (List.all_eq_true.mp q.2)
    · cases e
  · split at e
    · rename_i xs ys ex ey
      split at e
      · rename_i q
        cases e
        rw [Bool.and_eq_true] at q
        obtain ⟨p, vs, rfl, s1, r1⟩ := opd_ls ox rel ex
        obtain ⟨p', ws, rfl, s2, r2⟩ := opd_ls oy rel ey
        obtain ⟨d1, p1⟩ := dl_of s1 r1 q.1
        obtain ⟨d2, p2⟩ := dl_of s2 r2 q.2
        refine .inr ⟨_, _, d1, d2, p1, p2, ?_⟩
        rw [PyData.eqv]
        exact eqvs_P 40 40 _ _ (List.all_eq_true.mp q.1) (List.all_eq_true.mp q.2)
      · cases e
    · split at e
      · split at e
        · rename_i d e' q
          cases e
          rw [Bool.and_eq_true] at q
          obtain ⟨d1, p1, l1⟩ := dp_of 40 _ _ ox q.1
          obtain ⟨d2, p2, l2⟩ := dp_of 40 _ _ oy q.2
          exact .inr ⟨_, _, d1, d2, shaped_of p1 l1 (by omega), shaped_of p2 l2 (by omega), eqv_P 40 40 _ _ q.1 q.2⟩
        · cases e
      · cases e
    · cases e
theorem eq_ok (hu : X.A.units + 64 < cLine) : OpR X (compareOp .Eq) (rCmp X.K X.mg eqD) := by
  intro pins s σ H x y v u Q I rx ry hh
  obtain ⟨h, xr, yr, k, rel, ox, oy, e, q⟩ := hh
  rcases eq_data hu rel ox oy e with ⟨a, b, rfl, rfl, rfl⟩ | ⟨d, e, d1, d2, p1, p2, rfl⟩
  · refine op_eq pins s σ H _ _ v u Q I rx ry ⟨rfl, ?_⟩
    have e1 : decide (V.str a = V.str b) = decide (a = b) := by simp
    rw [e1]; exact q
  · exact op_eqD hu pins s σ H _ _ v u Q I rx ry ⟨_, _, d1, d2, p1, p2, q⟩
theorem ne_ok (hu : X.A.units + 64 < cLine) : OpR X (compareOp .NotEq) (rCmp X.K X.mg fun x y h => (eqD x y h).map (!·)) := by
  intro pins s σ H x y v u Q I rx ry hh
  obtain ⟨h, xr, yr, k, rel, ox, oy, e, q⟩ := hh
  obtain ⟨k', e2, rfl⟩ := Option.map_eq_some_iff.mp e
  rcases eq_data hu rel ox oy e2 with ⟨a, b, rfl, rfl, rfl⟩ | ⟨d, e, d1, d2, p1, p2, rfl⟩
  · refine op_ne pins s σ H _ _ v u Q I rx ry ⟨rfl, ?_⟩
    have e1 : decide (V.str a = V.str b) = decide (a = b) := by simp
    rw [e1]; exact q
  · exact op_neD hu pins s σ H _ _ v u Q I rx ry ⟨_, _, d1, d2, p1, p2, q⟩
/-! ### in -/
theorem opd_dc {h : AH} {H : Hp} {v : V} {r : Rv} {kvs : List (D × D)} (o : Opd X.K X.mg h H v r) (rel : RelH X.K X.mg h H) (e : dcV r h = some kvs) : ∃ a, v = .ref a ∧ RD X.K X.mg H a kvs := by
  unfold dcV at e
  split at e
  · rename_i ys q
    cases e
    unfold ob at q
    split at q
    · rename_i a
      cases o
      exact ⟨_, rfl, rel _ _ q⟩
    · cases q
      obtain ⟨p, e0, _, r1⟩ := o
      exact ⟨p, e0, r1⟩
    · cases q
  · cases e
theorem in_data (hu : X.A.units + 65 < cLine) {pins : List (Addr × Obj)} {s : Shared} {σ : L2.St} {h : AH} {H : Hp} {x y : V} {v u : Value} {xr yr : Rv} {k : Bool} {Q : Value → Shared → Prop} {b : Bool} (I : L2.Inv X pins σ H s) (rx : RelV x v) (ry : RelV y u)
    (rel : RelH X.K X.mg h H) (ox : Opd X.K X.mg h H x xr) (oy : Opd X.K X.mg h H y yr) (e : inD xr yr h = some k) (q : Q (.bool (if b then !k else k)) s) :
    wpAny (model X.prog X.w) X.A (compareOp (if b then .NotIn else .In) v u) Q X.xe s := by
  unfold inD at e
  split at e
  · rename_i d
    split at e
    · rename_i ys ey
      split at e
      · rename_i p
        cases e
        rw [Bool.and_eq_true] at p
        obtain ⟨a, ws, rfl, hS, r2⟩ := opd_sq oy rel ey
        obtain ⟨d1, p1, l1⟩ := dp_of 40 _ _ ox p.1
        obtain ⟨as, h1⟩ := Dp.reads I _ _ _ d1 rx
        have s1 := shaped_of p1 l1 (by omega)
        have pe := any_P p.1 p.2
        rcases hS with hS | hS
        · obtain ⟨d2, s2⟩ := dl_of hS r2 p.2
          obtain ⟨bs, h2⟩ := Dp.reads I _ _ _ d2 ry
          cases b with
          | true => exact SeqAt.notIn_list_reads h2 h1 (SeqAt.canLay_of_shaped s2) (SeqAt.canLay_of_shaped s1) (room_in_shaped s1 hu) (by rw [pe]; exact q)
          | false => exact SeqAt.in_list_reads h2 h1 (SeqAt.canLay_of_shaped s2) (SeqAt.canLay_of_shaped s1) (room_in_shaped s1 hu) (by rw [pe]; exact q)
        · obtain ⟨d2, s2⟩ := dt_of hS r2 p.2
          obtain ⟨bs, h2⟩ := Dp.reads I _ _ _ d2 ry
          cases b with
          | true => exact SeqAt.notIn_tuple_reads h2 h1 (SeqAt.canLay_of_shaped s2) (SeqAt.canLay_of_shaped s1) (room_in_shaped s1 hu) (by rw [pe]; exact q)
          | false => exact SeqAt.in_tuple_reads h2 h1 (SeqAt.canLay_of_shaped s2) (SeqAt.canLay_of_shaped s1) (room_in_shaped s1 hu) (by rw [pe]; exact q)
      · cases e
    · split at e
      · rename_i kvs ek
        obtain ⟨a, _, φ, _, z⟩ := opd_dc oy rel ek
        exact z.elim
      · cases e
  · cases e
theorem in_ok (hu : X.A.units + 65 < cLine) : OpR X (compareOp .In) (rCmp X.K X.mg inD) := by
  intro pins s σ H x y v u Q I rx ry hh
  obtain ⟨h, xr, yr, k, rel, ox, oy, e, q⟩ := hh
  exact in_data (b := false) hu I rx ry rel ox oy e ⟨.bl k, H, I, rfl, q⟩
theorem nin_ok (hu : X.A.units + 65 < cLine) : OpR X (compareOp .NotIn) (rCmp X.K X.mg fun x y h => (inD x y h).map (!·)) := by
  intro pins s σ H x y v u Q I rx ry hh
  obtain ⟨h, xr, yr, k, rel, ox, oy, e, q⟩ := hh
  obtain ⟨k', e2, rfl⟩ := Option.map_eq_some_iff.mp e
  exact in_data (b := true) hu I rx ry rel ox oy e2 ⟨.bl (!k'), H, I, rfl, q⟩
theorem lt2_ok (hu : X.A.units + 64 < cLine) {pins : List (Addr × Obj)} {s : Shared} {σ : L2.St} {h : AH} {H : Hp} {x y : V} {v u : Value} {a b c d : Int} {Q : V → Hp → Prop} (I : L2.Inv X pins σ H s) (rx : RelV x v) (ry : RelV y u)
    (ox : Opd X.K X.mg h H x (.v (.tup [.int a, .int b]))) (oy : Opd X.K X.mg h H y (.v (.tup [.int c, .int d]))) (q : Q (.bl (decide (a < c ∨ (a = c ∧ b < d)))) H) : ∀ {prog w E}, wpAny (model prog w) X.A (compareOp .Lt v u) (fun r s' => ∃ z H', L2.Inv X pins σ H' s' ∧ RelV z r ∧ Q z H') E s := by
  intro prog w E
  obtain ⟨as, r1⟩ := Dp.reads I _ x v (two_rep ox) rx
  obtain ⟨bs, r2⟩ := Dp.reads I _ y u (two_rep oy) ry
  refine PySem.W.lt_data r1 r2 rfl (by simp) ?_ ?_
  · have e1 : (PyData.tuple [.int a, .int b]).depth ≤ 40 := by simp [PyData.depth, PyData.depthAll]
    omega
  · rw [lt_two]
    exact ⟨.bl _, H, I, rfl, q⟩
def copOf : Cop → CmpOp
  | .eq => .Eq | .ne => .NotEq | .lt => .Lt | .le => .LtE | .gt => .Gt | .ge => .GtE | .inn => .In | .nin => .NotIn
theorem cmp_ok (hu : X.A.units + 65 < cLine) (op : Cop) : OpR X (compareOp (copOf op)) (rCmp X.K X.mg (cmpD op)) := by
  cases op with
  | eq => exact eq_ok (by omega)
  | ne => exact ne_ok (by omega)
  | inn => exact in_ok hu
  | nin => exact nin_ok hu
  | lt =>
    intro pins s σ H x y v u Q I rx ry hh
    obtain ⟨h, xr, yr, k, rel, ox, oy, e, q⟩ := hh
    dsimp only [cmpD] at e
    split at e
    · cases e; cases ox; cases oy
      exact op_lt pins s σ H _ _ v u Q I rx ry ⟨_, _, rfl, rfl, q⟩
    · cases e
      exact lt2_ok (by omega) I rx ry ox oy q
    · cases e
  | le =>
    intro pins s σ H x y v u Q I rx ry hh
    obtain ⟨h, xr, yr, k, rel, ox, oy, e, q⟩ := hh
    dsimp only [cmpD] at e
    split at e
    · cases e; cases ox; cases oy
      exact op_le pins s σ H _ _ v u Q I rx ry ⟨_, _, rfl, rfl, q⟩
    · cases e
  | gt =>
    intro pins s σ H x y v u Q I rx ry hh
    obtain ⟨h, xr, yr, k, rel, ox, oy, e, q⟩ := hh
    dsimp only [cmpD] at e
    split at e
    · cases e; cases ox; cases oy
      exact op_gt pins s σ H _ _ v u Q I rx ry ⟨_, _, rfl, rfl, q⟩
    · cases e
  | ge =>
    intro pins s σ H x y v u Q I rx ry hh
    obtain ⟨h, xr, yr, k, rel, ox, oy, e, q⟩ := hh
    dsimp only [cmpD] at e
    split at e
    · cases e; cases ox; cases oy
      exact op_ge pins s σ H _ _ v u Q I rx ry ⟨_, _, rfl, rfl, q⟩
    · cases e
/-! ### truth -/
theorem tru_V {h : AH} {H : Hp} {v : V} {r : Rv} {k : Bool} (rel : RelH X.K X.mg h H) (o : Opd X.K X.mg h H v r) (e : tru r h = some k) : TruV X.K v H k := by
  have len : ∀ {vs : List V} {ds : List D}, Reps X.K X.mg H vs ds → (!ds.isEmpty) = !vs.isEmpty := fun {vs ds} r => by cases r <;> rfl
  unfold tru at e
  split at e
  · cases e; cases o; rfl
  · cases e; cases o; rfl
  · cases e; cases o; rfl
  · split at e
    · cases e; cases o
      rename_i s hz
      refine ⟨hz, ?_⟩
      rw [Bool.eq_iff_iff]
      simp
    · cases e
  · cases e
    cases o with
    | tup s r => exact .inr (.inl ⟨_, s.sq, len r⟩)
  · split at e
    · rename_i xs q
      cases e
      obtain ⟨a, vs, rfl, h1, r1⟩ := opd_lt (xs := xs) o rel (by unfold ltV; rw [q])
      exact .inl ⟨vs, .inl (.inl h1), len r1⟩
    · rename_i kvs q
      obtain ⟨a, _, φ, _, z⟩ := opd_dc (kvs := kvs) o rel (by unfold dcV; rw [q])
      exact z.elim
    · cases e
end
end Py
namespace Py
open L2 PySem.Spec PySem PyProof.Rows
section
variable {X : Cx}
/-! ### is None, is True -/
def rIs (K : PySem.W.Frag) (M : Str → Option Value) (c : D) (neg : Bool) : R2 := fun x y H Q => ∃ h xr k, RelH K M h H ∧ Opd K M h H x xr ∧ Rep K M H y c ∧ isD xr c = some k ∧ Q (.bl (k != neg)) H
theorem is_ok (c : D) (neg : Bool) : OpR X (compareOp (if neg then .IsNot else .Is)) (rIs X.K X.mg c neg) := by
  intro pins s σ H x y v u Q I rx ry hh
  obtain ⟨h, xr, k, rel, ox, oy, e, q⟩ := hh
  unfold isD at e
  split at e
  · cases oy
    have ek : decide (x = V.non) = k := by
      split at e
      · cases e; cases ox; rfl
      · cases e
        rename_i hne
        refine decide_eq_false fun z => ?_
        subst z
        cases xr with
        | v d => cases ox; exact hne rfl
        | o w => obtain ⟨p, e1, _⟩ := ox; cases e1
    cases neg with
    | true => exact op_notN pins s σ H _ _ v u Q I rx ry ⟨rfl, by rw [ek]; cases k <;> exact q⟩
    | false => exact op_isN pins s σ H _ _ v u Q I rx ry ⟨rfl, by rw [ek]; cases k <;> exact q⟩
  · cases oy
    rename_i b
    split at e
    · cases e; cases ox
      rename_i a
      have ea : decide (a = b) = (a == b) := by cases a <;> cases b <;> rfl
      cases neg with
      | true => exact op_notBl pins s σ H _ _ v u Q I rx ry ⟨_, _, rfl, rfl, by rw [ea]; revert q; cases (a == b) <;> exact id⟩
      | false => exact op_isBl pins s σ H _ _ v u Q I rx ry ⟨_, _, rfl, rfl, by rw [ea]; revert q; cases (a == b) <;> exact id⟩
    · cases e
  · cases e
/-! ### items -/
def rIxD (K : PySem.W.Frag) (M : Str → Option Value) : R2 := fun x y H Q => ∃ h xr yr d, RelH K M h H ∧ Opd K M h H x xr ∧ Opd K M h H y yr ∧ ixD xr yr h = some d ∧ ∀ v, Rep K M H v d → Q v H
theorem ixN_eq : Py.ixN = L2.ixN := rfl
theorem atI_eq {α : Type} (xs : List α) (i : Int) : Py.atI xs i = L2.atI xs i := rfl
theorem at_rep {K : PySem.W.Frag} {M : Str → Option Value} {H : Hp} {vs : List V} {xs : List D} {i : Int} {d : D} (r : Reps K M H vs xs) (e : Py.atI xs i = some d) : ∃ v, L2.atI vs i = some v ∧ Rep K M H v d := by
  rw [atI_eq] at e
  unfold L2.atI at e ⊢
  rw [r.length]
  cases q : L2.ixN xs.length i with
  | none =>
      rw [q] at e; cases e
  | some j =>
    rw [q] at e
    obtain ⟨v, h1, h2⟩ := r.get (show xs[j]? = some d from e)
    exact ⟨v, h1, h2⟩
theorem ix_ok : IxR X (rIxD X.K X.mg) := by
  intro value slice pins s σ H x y v u Q I rx ry hh hs
  obtain ⟨h, xr, yr, d, rel, ox, oy, e, q⟩ := hh
  unfold ixD at e
  split at e
  · split at e
    · rename_i xs ex
      split at e
      · cases oy
        obtain ⟨a, vs, rfl, hS, r⟩ := opd_sq ox rel ex
        obtain ⟨w, h1, h2⟩ := at_rep r e
        rcases hS with hS | hS
        · exact ix_list value slice pins s σ H _ _ v u Q I rx ry ⟨_, _, _, _, rfl, rfl, hS, h1, q _ h2⟩ hs
        · exact ix_tup value slice pins s σ H _ _ v u Q I rx ry ⟨_, _, _, _, rfl, rfl, hS.sq, h1, q _ h2⟩ hs
      · cases e
    · split at e
      · rename_i kvs ek
        obtain ⟨a, _, φ, _, z⟩ := opd_dc ox rel ek
        exact z.elim
      · cases e
  · cases e
/-! ### slices -/
def rSlD (K : PySem.W.Frag) (M : Str → Option Value) : V → Option Int → Option Int → Hp → VK → Prop := fun x lo hi H Q => ∃ h xr r, RelH K M h H ∧ Opd K M h H x xr ∧ slD xr lo hi h = some r ∧ Aft K M h H h Q r
theorem cut_rep {K : PySem.W.Frag} {M : Str → Option Value} {H : Hp} {vs : List V} {xs : List D} (lo hi : Option Int) (r : Reps K M H vs xs) : Reps K M H (cutV vs lo hi) (cut xs lo hi) := by
  unfold cutV cut
  rw [r.length]
  exact (r.drop _).take _
theorem sl_ok : SlR X (rSlD X.K X.mg) := by
  intro pins s σ H x v vl vu lo hi sl Q I rx hs pl pu hh
  obtain ⟨h, xr, r, rel, ox, e, a⟩ := hh
  unfold slD at e
  split at e
  · cases e
    cases ox with
    | tup s1 r1 =>
      refine sl_tupX pins s σ H _ v vl vu lo hi sl Q I rx hs pl pu ⟨_, _, rfl, s1.sq, fun z => a.v rel (.tup s1 ?_), a.newT rel (cut_rep lo hi r1)⟩
      have e0 := cut_rep lo hi r1
      unfold cutV at e0
      rw [z.1, z.2, Nat.sub_zero, List.drop_zero, List.take_length] at e0
      exact e0
  · split at e
    · rename_i xs ex
      cases e
      obtain ⟨p, vs, rfl, s1, r1⟩ := opd_ls ox rel ex
      exact sl_list pins s σ H _ v vl vu lo hi sl Q I rx hs pl pu ⟨_, _, rfl, s1, fun q hq => a.newL rel hq (cut_rep lo hi r1)⟩
    · cases e
/-! ### a[i] = v -/
def rSetD (K : PySem.W.Frag) (M : Str → Option Value) : V → V → V → Hp → (Hp → Prop) → Prop := fun o i v H Q => ∃ h d k e h', RelH K M h H ∧ Rep K M H o d ∧ Rep K M H i k ∧ Rep K M H v e ∧ setD d k e h = some h' ∧ ∀ H', Tr h H h' H' → RelH K M h' H' → Q H'
theorem set_ok : PSet X (rSetD X.K X.mg) := by
  intro pins s σ H o i x ov iv u Q I ro ri rx hh
  obtain ⟨h, d, k, e, h', rel, po, pi, px, q, a⟩ := hh
  unfold setD at q
  split at q
  · cases po
    split at q
    · rename_i xs ex
      split at q
      · cases pi
        obtain ⟨j, hj, rfl⟩ := Option.map_eq_some_iff.mp q
        obtain ⟨vs, h1, r1⟩ := rel _ _ ex
        refine set_list pins s σ H _ _ _ ov iv u Q I ro ri rx ⟨_, _, _, j, rfl, rfl, h1, by rw [r1.length]; exact hj, a _ (Tr.write rel ex) (RelH.write rel ex fun m => ⟨_, upd_same, (r1.set j px).mono m⟩)⟩
      · cases q
    · rename_i kvs ek
      obtain ⟨φ, _, z⟩ := rel _ _ ek
      exact z.elim
    · cases q
  · cases q
/-! ### built-ins of one argument -/
def bi1 (K : PySem.W.Frag) (M : Str → Option Value) (b : Bi) : List V → Hp → VK → Prop := fun xs H Q => ∃ x h xr r, xs = [x] ∧ RelH K M h H ∧ Opd K M h H x xr ∧ b1D b xr h = some r ∧ Aft K M h H h Q r
theorem maxI_mem : ∀ (r : List Int) (i m : Int), r.foldl (fun m x => if m < x then x else m) i = m → (m = i ∨ m ∈ r) ∧ i ≤ m ∧ ∀ x ∈ r, x ≤ m
  | [], i, m, e => by
    cases e
    exact ⟨.inl rfl, Int.le_refl _, fun _ z => nomatch z⟩
  | x :: r, i, m, e => by
    obtain ⟨a, b, c⟩ := maxI_mem r (if i < x then x else i) m e
    have hx : (if i < x then x else i) = i ∨ (if i < x then x else i) = x := by split <;> simp
    have h1 : i ≤ (if i < x then x else i) ∧ x ≤ (if i < x then x else i) := by split <;> omega
    refine ⟨?_, by omega, fun y hy => ?_⟩
    · rcases a with a | a
      · rcases hx with z | z
        · exact .inl (a.trans z)
        · exact .inr (List.mem_cons.mpr (.inl (a.trans z)))
      · exact .inr (List.mem_cons_of_mem _ a)
    · rcases List.mem_cons.mp hy with z | z
      · rw [z]; omega
      · exact c y z
theorem minI_mem : ∀ (r : List Int) (i m : Int), r.foldl (fun m x => if x < m then x else m) i = m → (m = i ∨ m ∈ r) ∧ m ≤ i ∧ ∀ x ∈ r, m ≤ x
  | [], i, m, e => by
    cases e
    exact ⟨.inl rfl, Int.le_refl _, fun _ z => nomatch z⟩
  | x :: r, i, m, e => by
    obtain ⟨a, b, c⟩ := minI_mem r (if x < i then x else i) m e
    have hx : (if x < i then x else i) = i ∨ (if x < i then x else i) = x := by split <;> simp
    have h1 : (if x < i then x else i) ≤ i ∧ (if x < i then x else i) ≤ x := by split <;> omega
    refine ⟨?_, by omega, fun y hy => ?_⟩
    · rcases a with a | a
      · rcases hx with z | z
        · exact .inl (a.trans z)
        · exact .inr (List.mem_cons.mpr (.inl (a.trans z)))
      · exact .inr (List.mem_cons_of_mem _ a)
    · rcases List.mem_cons.mp hy with z | z
      · rw [z]; omega
      · exact c y z
theorem maxI_of {ns : List Int} {m : Int} (e : maxI ns = some m) : m ∈ ns ∧ ∀ x ∈ ns, x ≤ m := by
  cases ns with
  | nil => cases e
  | cons i r =>
    obtain ⟨a, b, c⟩ := maxI_mem r i m (Option.some.inj e)
    refine ⟨List.mem_cons.mpr a, fun x hx => ?_⟩
    rcases List.mem_cons.mp hx with z | z
    · rw [z]; exact b
    · exact c x z
theorem minI_of {ns : List Int} {m : Int} (e : minI ns = some m) : m ∈ ns ∧ ∀ x ∈ ns, m ≤ x := by
  cases ns with
  | nil => cases e
  | cons i r =>
    obtain ⟨a, b, c⟩ := minI_mem r i m (Option.some.inj e)
    refine ⟨List.mem_cons.mpr a, fun x hx => ?_⟩
    rcases List.mem_cons.mp hx with z | z
    · rw [z]; exact b
    · exact c x z
theorem insI_perm (x : Int) : ∀ l : List Int, (insI x l).Perm (x :: l)
  | [] => .refl _
  | y :: r => by
    unfold insI
    split
    · exact .refl _
    · exact ((insI_perm x r).cons y).trans (.swap x y r)
theorem insI_sorted (x : Int) : ∀ l : List Int, l.Pairwise (· ≤ ·) → (insI x l).Pairwise (· ≤ ·)
  | [], _ => by simp [insI]
  | y :: r, h => by
    unfold insI
    rw [List.pairwise_cons] at h
    split
    · rename_i q
      refine List.pairwise_cons.mpr ⟨fun z hz => ?_, List.pairwise_cons.mpr h⟩
      rcases List.mem_cons.mp hz with e | e
      · rw [e]; exact q
      · have := h.1 z e; omega
    · rename_i q
      refine List.pairwise_cons.mpr ⟨fun z hz => ?_, insI_sorted x r h.2⟩
      rcases List.mem_cons.mp ((insI_perm x r).mem_iff.mp hz) with e | e
      · rw [e]; omega
      · exact h.1 z e
theorem sortI_perm : ∀ l : List Int, (sortI l).Perm l
  | [] => .refl _
  | x :: r =>
      (insI_perm x _).trans ((sortI_perm r).cons x)
theorem sortI_sorted : ∀ l : List Int, (sortI l).Pairwise (· ≤ ·)
  | [] => .nil
  | x :: r => insI_sorted x _ (sortI_sorted r)
theorem sorted_eq {l m : List Int} (p : l.Perm m) (h1 : l.Pairwise (· ≤ ·)) (h2 : m.Pairwise (· ≤ ·)) : l = m :=
  List.Perm.eq_of_pairwise (le := (· ≤ ·)) (fun a b _ _ x y => Int.le_antisymm x y) h1 h2 p
theorem len_ok : CallR X (.builtin "len") (bi1 X.K X.mg .len) := by
  intro pins s σ H xs us Q I rv hh
  obtain ⟨x, h, xr, r, rfl, rel, ox, e, a⟩ := hh
  dsimp only [b1D] at e
  split at e
  · rename_i ys ey
    cases e
    obtain ⟨p, vs, rfl, hS, r1⟩ := opd_sq ox rel ey
    exact call_len_seq pins s σ H _ us Q I rv ⟨_, _, rfl, hS.imp id SqD.sq, a.v rel (by rw [r1.length]; exact .int _)⟩
  · split at e
    · rename_i kvs ek
      obtain ⟨p, _, φ, _, z⟩ := opd_dc ox rel ek
      exact z.elim
    · split at e
      · split at e
        · cases e; cases ox
          exact call_len_str pins s σ H _ us Q I rv ⟨_, rfl, by assumption, a.v rel (.int _)⟩
        · cases e
      · cases e
theorem int_ok1 : CallR X (.type "int") (bi1 X.K X.mg .int) := by
  intro pins s σ H xs us Q I rv hh
  obtain ⟨x, h, xr, r, rfl, rel, ox, e, a⟩ := hh
  dsimp only [b1D] at e
  split at e
  · cases e; cases ox
    exact call_int1 pins s σ H _ us Q I rv (.inl ⟨_, rfl, a.v rel (.int _)⟩)
  · cases e; cases ox
    exact call_int1 pins s σ H _ us Q I rv (.inr ⟨_, rfl, a.v rel (.int _)⟩)
  · cases e
theorem bool_ok1 : CallR X (.type "bool") (bi1 X.K X.mg .bool) := by
  intro pins s σ H xs us Q I rv hh
  obtain ⟨x, h, xr, r, rfl, rel, ox, e, a⟩ := hh
  dsimp only [b1D] at e
  split at e
  · cases e; cases ox
    exact call_bool1 pins s σ H _ us Q I rv (.inl ⟨_, rfl, a.v rel (.bl _)⟩)
  · cases e; cases ox
    exact call_bool1 pins s σ H _ us Q I rv (.inr ⟨_, rfl, a.v rel (.bl _)⟩)
  · cases e
theorem str_ok1 : CallR X (.type "str") (bi1 X.K X.mg .str) := by
  intro pins s σ H xs us Q I rv hh
  obtain ⟨x, h, xr, r, rfl, rel, ox, e, a⟩ := hh
  dsimp only [b1D] at e
  split at e
  · split at e
    · cases e; cases ox
      exact call_str_int pins s σ H _ us Q I rv ⟨_, rfl, by assumption, a.v rel (.str _)⟩
    · cases e
  · cases e
theorem tup_ok1 : CallR X (.type "tuple") (bi1 X.K X.mg .tup) := by
  intro pins s σ H xs us Q I rv hh
  obtain ⟨x, h, xr, r, rfl, rel, ox, e, a⟩ := hh
  dsimp only [b1D] at e
  obtain ⟨ys, ey, rfl⟩ := Option.map_eq_some_iff.mp e
  obtain ⟨p, vs, rfl, hS, r1⟩ := opd_sq ox rel ey
  rcases hS with hS | hS
  · exact call_tupX pins s σ H _ us Q I rv ⟨_, _, rfl, .inl ⟨hS, a.newT rel r1⟩⟩
  · exact call_tupX pins s σ H _ us Q I rv ⟨_, _, rfl, .inr ⟨hS.sq, a.v rel (.tup hS r1)⟩⟩
theorem lst_ok1 : CallR X (.type "list") (bi1 X.K X.mg .lst) := by
  intro pins s σ H xs us Q I rv hh
  obtain ⟨x, h, xr, r, rfl, rel, ox, e, a⟩ := hh
  dsimp only [b1D] at e
  obtain ⟨ys, ey, rfl⟩ := Option.map_eq_some_iff.mp e
  obtain ⟨p, vs, rfl, hS, r1⟩ := opd_sq ox rel ey
  exact call_list_of pins s σ H _ us Q I rv ⟨_, _, rfl, hS.imp id SqD.sq, fun l hl => a.newL rel hl r1⟩
theorem abs_ok1 : CallR X (.builtin "abs") (bi1 X.K X.mg .abs) := by
  intro pins s σ H xs us Q I rv hh
  obtain ⟨x, h, xr, r, rfl, rel, ox, e, a⟩ := hh
  dsimp only [b1D] at e
  split at e
  · cases e; cases ox
    exact L2.call_abs pins s σ H _ us Q I rv ⟨_, rfl, a.v rel (.int _)⟩
  · cases e
theorem any_ok1 (hc : X.calm = true) : CallR X (.builtin "any") (bi1 X.K X.mg .any) := by
  intro pins s σ H xs us Q I rv hh
  obtain ⟨x, h, xr, r, rfl, rel, ox, e, a⟩ := hh
  dsimp only [b1D] at e
  split at e
  · rename_i ys ey
    obtain ⟨bs, eb, rfl⟩ := Option.map_eq_some_iff.mp e
    obtain ⟨p, vs, rfl, hS, r1⟩ := opd_ls ox rel ey
    obtain ⟨rfl, _⟩ := r1.bls eb
    exact cr_any hc pins s σ H _ us Q I rv ⟨_, _, rfl, hS, a.v rel (.bl _)⟩
  · cases e
theorem all_ok1 (hc : X.calm = true) : CallR X (.builtin "all") (bi1 X.K X.mg .all) := by
  intro pins s σ H xs us Q I rv hh
  obtain ⟨x, h, xr, r, rfl, rel, ox, e, a⟩ := hh
  dsimp only [b1D] at e
  split at e
  · rename_i ys ey
    obtain ⟨bs, eb, rfl⟩ := Option.map_eq_some_iff.mp e
    obtain ⟨p, vs, rfl, hS, r1⟩ := opd_ls ox rel ey
    obtain ⟨rfl, _⟩ := r1.bls eb
    exact cr_all hc pins s σ H _ us Q I rv ⟨_, _, rfl, hS, a.v rel (.bl _)⟩
  · cases e
theorem sum_ok1 (hc : X.calm = true) : CallR X (.builtin "sum") (bi1 X.K X.mg .sum) := by
  intro pins s σ H xs us Q I rv hh
  obtain ⟨x, h, xr, r, rfl, rel, ox, e, a⟩ := hh
  dsimp only [b1D] at e
  split at e
  · rename_i ys ey
    obtain ⟨bs, eb, rfl⟩ := Option.map_eq_some_iff.mp e
    obtain ⟨p, vs, rfl, hS, r1⟩ := opd_ls ox rel ey
    obtain ⟨rfl, _⟩ := r1.ints eb
    exact cr_sum hc pins s σ H _ us Q I rv ⟨_, _, rfl, hS, a.v rel (.int _)⟩
  · cases e
theorem max_ok1 (hc : X.calm = true) : CallR X (.builtin "max") (bi1 X.K X.mg .max) := by
  intro pins s σ H xs us Q I rv hh
  obtain ⟨x, h, xr, r, rfl, rel, ox, e, a⟩ := hh
  dsimp only [b1D] at e
  split at e
  · rename_i ys ey
    obtain ⟨m, eb, rfl⟩ := Option.map_eq_some_iff.mp e
    obtain ⟨ns, en, em⟩ := Option.bind_eq_some_iff.mp eb
    obtain ⟨p, vs, rfl, hS, r1⟩ := opd_ls ox rel ey
    obtain ⟨rfl, _⟩ := r1.ints en
    obtain ⟨h1, h2⟩ := maxI_of em
    refine cr_max hc pins s σ H _ us Q I rv ⟨_, _, rfl, hS, List.length_pos_of_mem h1, fun k hk hl => ?_⟩
    have : k = m := Int.le_antisymm (h2 k hk) (hl m h1)
    rw [this]
    exact a.v rel (.int _)
  · cases e
theorem min_ok1 (hc : X.calm = true) : CallR X (.builtin "min") (bi1 X.K X.mg .min) := by
  intro pins s σ H xs us Q I rv hh
  obtain ⟨x, h, xr, r, rfl, rel, ox, e, a⟩ := hh
  dsimp only [b1D] at e
  split at e
  · rename_i ys ey
    obtain ⟨m, eb, rfl⟩ := Option.map_eq_some_iff.mp e
    obtain ⟨ns, en, em⟩ := Option.bind_eq_some_iff.mp eb
    obtain ⟨p, vs, rfl, hS, r1⟩ := opd_ls ox rel ey
    obtain ⟨rfl, _⟩ := r1.ints en
    obtain ⟨h1, h2⟩ := minI_of em
    refine cr_min hc pins s σ H _ us Q I rv ⟨_, _, rfl, hS, List.length_pos_of_mem h1, fun k hk hl => ?_⟩
    have : k = m := Int.le_antisymm (hl m h1) (h2 k hk)
    rw [this]
    exact a.v rel (.int _)
  · cases e
theorem sorted_ok1 : CallR X (.builtin "sorted") (bi1 X.K X.mg .sorted) := by
  intro pins s σ H xs us Q I rv hh
  obtain ⟨x, h, xr, r, rfl, rel, ox, e, a⟩ := hh
  dsimp only [b1D] at e
  split at e
  · rename_i ys ey
    obtain ⟨ns, en, rfl⟩ := Option.map_eq_some_iff.mp e
    obtain ⟨p, vs, rfl, hS, r1⟩ := opd_ls ox rel ey
    obtain ⟨rfl, _⟩ := r1.ints en
    refine cr_sortedI pins s σ H _ us Q I rv ⟨_, _, rfl, hS, fun ns' p hp hs hq => ?_⟩
    have : ns' = sortI ns := sorted_eq (hp.trans (sortI_perm ns).symm) hs (sortI_sorted ns)
    rw [this]
    exact a.newL rel hq (Reps.ofInts _)
  · cases e
def tyOf : Ty → String
  | .int => "int" | .bool => "bool" | .str => "str" | .tup => "tuple"
theorem isa_ok (t : Ty) : CallR X (.builtin "isinstance") (fun xs H Q => ∃ x h xr k, xs = [x, .ty (tyOf t)] ∧ RelH X.K X.mg h H ∧ Opd X.K X.mg h H x xr ∧ isTy xr t h = some k ∧ Q (.bl k) H) := by
  intro pins s σ H xs us Q I rv hh
  obtain ⟨x, h, xr, k, rfl, rel, ox, e, q⟩ := hh
  unfold isTy at e
  split at e
  · cases e; cases ox
    exact call_isi pins s σ H _ us Q I rv ⟨_, _, _, _, _, rfl, .ty _, .base .non, kit_ty (b := tyOf t) (by cases t <;> decide +kernel), q⟩
  · cases ox
    exact call_isi pins s σ H _ us Q I rv ⟨_, _, _, _, k, rfl, .ty _, .base (.bl _), kit_ty (b := tyOf t) (by cases t <;> (cases e; decide +kernel)), q⟩
  · cases ox
    exact call_isi pins s σ H _ us Q I rv ⟨_, _, _, _, k, rfl, .ty _, .base (.int _), kit_ty (b := tyOf t) (by cases t <;> (cases e; decide +kernel)), q⟩
  · cases ox
    exact call_isi pins s σ H _ us Q I rv ⟨_, _, _, _, k, rfl, .ty _, .base (.str _), kit_ty (b := tyOf t) (by cases t <;> (cases e; decide +kernel)), q⟩
  · cases ox with
    | tup s1 r1 =>
      have ty : ∀ {a : Addr} {ws : List V}, SqT X.K H a ws → TyX X.K H (.ref a) (.type "tuple") := fun {a ws} z => by
        rcases z with (z | ⟨o, z⟩) | ⟨o, its, n, z, c, _⟩
        · exact .base (.tup z)
        · exact .fTuple z
        · exact .kTuple z c
      exact call_isi pins s σ H _ us Q I rv ⟨_, _, _, _, k, rfl, .ty _, ty s1.sq, kit_ty (b := tyOf t) (by cases t <;> (cases e; decide +kernel)), q⟩
  · split at e
    · rename_i ys ey
      cases e
      obtain ⟨p, vs, rfl, hS, r1⟩ := opd_ls ox rel ey
      have ty : TyX X.K H (.ref p) (.type "list") := by
        rcases hS with (z | ⟨o, z⟩) | ⟨o, its, n, z, c, _⟩
        · exact .base (.lst z)
        · exact .base (.frz z)
        · exact .kList z c
      exact call_isi pins s σ H _ us Q I rv ⟨_, _, _, _, _, rfl, .ty _, ty, kit_ty (b := tyOf t) (by cases t <;> decide +kernel), q⟩
    · cases e
theorem b2_ok (hc : X.calm = true) (b : B2) : CallR X (.builtin (match b with | .min => "min" | .max => "max")) (fun xs H Q => ∃ x y d e r, xs = [x, y] ∧ Rep X.K X.mg H x d ∧ Rep X.K X.mg H y e ∧ b2D b d e = some r ∧ ∀ v, Rep X.K X.mg H v r → Q v H) := by
  intro pins s σ H xs us Q I rv hh
  obtain ⟨x, y, d, e, r, rfl, px, py, q, a⟩ := hh
  unfold b2D at q
  split at q
  · cases q; cases px; cases py
    exact call_min2 hc pins s σ H _ us Q I rv ⟨_, _, rfl, a _ (.int _)⟩
  · cases q; cases px; cases py
    exact call_max2 hc pins s σ H _ us Q I rv ⟨_, _, rfl, a _ (.int _)⟩
  · cases q
end
end Py
namespace Py
open L2 PySem.Spec PySem PyProof.Rows
section
variable {X : Cx}
/-- the value is of a built-in type, and carries no dict -/
def TyC (X : Cx) (T : String) (x : V) (H : Hp) : Prop := ∀ (pins : List (Addr × Obj)) (s : Shared) (σ : L2.St) (v : Value), L2.Inv X pins σ H s → RelV x v → s.TypeIs v T ∧ ∀ a, v = .ref a → ∃ w, s.heap.get? a = some w ∧ w.dict = none
/-- the method that a name is, of a value of that type, and what it asks -/
structure IsM (X : Cx) (T : String) (name : Str) (id : String) (r : V → List V → Hp → VK → Prop) : Prop where
  pa : PlainAttrs T
  slot : Slot T name id
  ty : typeOf (.builtin id) = pure (.type "method_descriptor")
  m : MtR X id r
def tMtG (X : Cx) (name : Str) (to : L2.TE) (t : TA) : L2.TE := fun σ H Q => to σ H fun x H1 => ∃ T id r, IsM X T name id r ∧ TyC X T x H1 ∧ t σ H1 fun xs H2 => r x xs H2 Q
theorem pe_mtG0 {o : Expr} {to : L2.TE} {name : Str} {apos cpos : Pos} (ho : PE X o to) (hbase : attributeBase o name X.env (eval o X.env) = eval o X.env) (hline : (apos.endLine == cpos.line) = true) :
    PE X (.Call (.Attribute o name apos) [] [] cpos) (tMtG X name to tNil) := by
  refine ⟨fun pins s σ H Q I hh => ?_⟩
  refine wpAny_Call_method0_late hbase hline (thn (ho.run pins s σ H _ I hh) fun v s1 ⟨x, H1, I1, r1, T, id, r, g, ty, q1⟩ => ?_)
  obtain ⟨h1, h2⟩ := ty pins s1 σ v I1 r1
  exact ⟨T, id, g.pa, g.slot, g.ty, h1, h2, Calls.callWith_builtin rfl (PySem.evalArgs_none (g.m pins s1 σ H1 x [] v [] Q I1 r1 .nil q1))⟩
theorem pe_mtG {o e : Expr} {es : List Expr} {to : L2.TE} {t : TA} {name : Str} {apos cpos : Pos} (ho : PE X o to) (ha : PA X (e :: es) t) (hbase : attributeBase o name X.env (eval o X.env) = eval o X.env) (hline : (apos.endLine == cpos.line) = true)
    (hfew : ((backTo cpos (starEach (e :: es) X.env)).all (fun x =>
        !x.1) && (backToKw cpos (keywordEach [] X.env)).all (fun x => x.1.isSome)
      && decide ((e :: es).length + ([] : List Keyword).length + (if ([] : List Keyword).isEmpty then 0 else 1) < 30)) = true)
    (hs : starEach (e :: es) X.env = (false, eval e X.env) :: starEach es X.env) (hplain : (backTo cpos (starEach es X.env)).any (·.1) = false) :
    PE X (.Call (.Attribute o name apos) (e :: es) [] cpos) (tMtG X name to t) := by
  refine ⟨fun pins s σ H Q I hh => ?_⟩
  refine wpAny_Call_method_late hbase hfew hline rfl (thn (ho.run pins s σ H _ I hh) fun v s1 ⟨x, H1, I1, r1, T, id, r, g, ty, q1⟩ => ?_)
  obtain ⟨h1, h2⟩ := ty pins s1 σ v I1 r1
  refine ⟨T, id, g.pa, g.slot, g.ty, h1, h2, ?_⟩
  have hA :=
      ha.run cpos pins s1 σ H1 _ I1 q1
  rw [hs] at hA ⊢
  refine Calls.callWith_builtin (by show (false || (backTo cpos (starEach es X.env)).any (·.1)) = false; rw [hplain]; rfl) (Calls.evalArgs_plain ?_)
  exact thn hA fun us s2 ⟨vs, H2, I2, r2, q2⟩ => g.m pins s2 σ H2 x vs v us Q I2 r1 r2 q2
theorem tyC_list {a : Addr} {xs : List V} {H : Hp} (hS : SqL X.K H a xs) : TyC X "list" (.ref a) H := fun pins s σ v I r => tyV_is I r (.inl ⟨rfl, xs, hS⟩)
theorem tyC_tup {a : Addr} {xs : List V} {H : Hp} (hS : SqD X.K H a xs) : TyC X "tuple" (.ref a) H := fun pins s σ v I r => by
  cases r
  rcases hS with ⟨o, e, d⟩ | ⟨o, its, n, k, c, d, _⟩
  · obtain ⟨e1, _, its, _, p⟩ := I.hok _ _ e
    exact ⟨p.typeIs, fun b z => by cases z; exact ⟨o, e1, d⟩⟩
  · exact tyV_is (x := V.ref a) I rfl (Or.inr (Or.inl ⟨rfl, o, k, c, d⟩))
/-! ### the methods -/
def rMt (K : PySem.W.Frag) (M : Str → Option Value) (m : Mt) (b : Rv → Prop) : V → List V → Hp → VK → Prop := fun x vs H Q => ∃ h xr ds p, RelH K M h H ∧ Opd K M h H x xr ∧ b xr ∧ Reps K M H vs ds ∧ mtD m xr ds h = some p ∧ Aft K M h H p.2 Q p.1
def anyR : Rv → Prop := fun _ => True
def isTupR : Rv → Prop := fun r => ∃ xs, r = .v (.tup xs)
def notTupR : Rv → Prop := fun r => ∀ xs, r ≠ .v (.tup xs)
theorem mLs_of {o : Rv} {h : AH} {k : Nat → List D → Option (Rv × AH)} {p : Rv × AH} (e : mLs o h k = some p) : ∃ a xs, o = .v (.loc a) ∧ h a = some (.lst xs) ∧ k a xs = some p := by
  unfold mLs at e
  split at e
  · split at e
    · exact ⟨_, _, rfl, by assumption, e⟩
    · cases e
  · cases e
theorem reps1 {K : PySem.W.Frag} {M : Str → Option Value} {H : Hp} {vs : List V} {d : D} (r : Reps K M H vs [d]) : ∃ v, vs = [v] ∧ Rep K M H v d := by
  cases r with
  | cons a t => cases t; exact ⟨_, rfl, a⟩
theorem reps2 {K : PySem.W.Frag} {M : Str → Option Value} {H : Hp} {vs : List V} {d e : D} (r : Reps K M H vs [d, e]) : ∃ v w, vs = [v, w] ∧ Rep K M H v d ∧ Rep K M H w e := by
  cases r with
  | cons a t => cases t with
    | cons b t => cases t; exact ⟨_, _, rfl, a, b⟩
theorem asInt_of {d : D} {i : Int} (e : asInt (.v d) = some i) : d = .int i := by
  unfold asInt at e
  split at e
  · rename_i q
    cases q; cases e; rfl
  · cases e
theorem append_ok : MtR X "list.append" (rMt X.K X.mg .append anyR) := by
  intro pins s σ H x vs v us Q I rx rs hh
  obtain ⟨h, xr, ds, p, rel, ox, _, rd, e, a⟩ := hh
  obtain ⟨l, xs, rfl, el, e⟩ := mLs_of e
  cases ox
  split at e
  · split at e
    · cases e
      obtain ⟨w, rfl, pw⟩ := reps1 rd
      obtain ⟨ws, h1, r1⟩ := rel _ _ el
      refine mt_append pins s σ H _ _ v us Q I rx rs ⟨_, _, _, rfl, rfl, h1, by rw [r1.length]; assumption, ?_⟩
      exact a _ _ (Tr.write rel el) (RelH.write rel el fun m => ⟨_, upd_same, (r1.append (.cons pw .nil)).mono m⟩) .non
    · cases e
  · cases e
theorem pop_ok : MtR X "list.pop" (rMt X.K X.mg .pop anyR) := by
  intro pins s σ H x vs v us Q I rx rs hh
  obtain ⟨h, xr, ds, p, rel, ox, _, rd, e, a⟩ := hh
  obtain ⟨l, xs, rfl, el, e⟩ := mLs_of e
  cases ox
  split at e
  · split at e
    · rename_i y ey
      cases e
      cases rd
      obtain ⟨ws, h1, r1⟩ := rel _ _ el
      obtain ⟨w, hw, pw⟩ := r1.get ey
      refine mt_pop pins s σ H _ _ v us Q I rx rs ⟨_, _, w, rfl, rfl, h1, by rw [r1.length]; exact hw, ?_⟩
      have t := Tr.write (o' := .lst xs.dropLast) (u := .lst ws.dropLast) rel el
      exact a _ _ t (RelH.write rel el fun m => ⟨_, upd_same, r1.dropLast.mono m⟩) (Rep.mono (t.mn rel) pw)
    · cases e
  · cases e
theorem popi_ok : MtR X "list.pop" (rMt X.K X.mg .popi anyR) := by
  intro pins s σ H x vs v us Q I rx rs hh
  obtain ⟨h, xr, ds, p, rel, ox, _, rd, e, a⟩ := hh
  obtain ⟨l, xs, rfl, el, e⟩ := mLs_of e
  cases ox
  split at e
  · split at e
    · rename_i i ei
      split at e
      · rename_i hi
        split at e
        · rename_i k ek
          split at e
          · rename_i y ey
            cases e
            obtain ⟨w0, rfl, pw0⟩ := reps1 rd
            rw [asInt_of ei] at pw0
            cases pw0
            obtain ⟨ws, h1, r1⟩ := rel _ _ el
            obtain ⟨w, hw, pw⟩ := r1.get ey
            refine mt_popAt pins s σ H _ _ v us Q I rx rs ⟨_, _, i, k, w, rfl, rfl, h1, hi.1, hi.2, (ixN_seq (by rw [r1.length]; exact ek)).1, hw, ?_⟩
            have t := Tr.write (o' := .lst (xs.eraseIdx k)) (u := .lst (ws.eraseIdx k)) rel el
            exact a _ _ t (RelH.write rel el fun m => ⟨_, upd_same, (r1.eraseIdx k).mono m⟩) (Rep.mono (t.mn rel) pw)
          · cases e
        · cases e
      · cases e
    · cases e
  · cases e
theorem insert_ok : MtR X "list.insert" (rMt X.K X.mg .insert anyR) := by
  intro pins s σ H x vs v us Q I rx rs hh
  obtain ⟨h, xr, ds, p, rel, ox, _, rd, e, a⟩ := hh
  obtain ⟨l, xs, rfl, el, e⟩ := mLs_of e
  cases ox
  split at e
  · split at e
    · rename_i i ei
      split at e
      · rename_i hi
        cases e
        obtain ⟨w0, w, rfl, pw0, pw⟩ := reps2 rd
        rw [asInt_of ei] at pw0
        cases pw0
        obtain ⟨ws, h1, r1⟩ := rel _ _ el
        refine mt_insert pins s σ H _ _ v us Q I rx rs ⟨_, _, i, w, rfl, rfl, h1, by rw [r1.length]; exact hi.2.2, hi.1, hi.2.1, ?_⟩
        exact a _ _ (Tr.write rel el) (RelH.write rel el fun m => ⟨_, upd_same, (((r1.take _).append (.cons pw .nil)).append (r1.drop _)).mono m⟩) .non
      · cases e
    · cases e
  · cases e
theorem reverse_ok : MtR X "list.reverse" (rMt X.K X.mg .reverse anyR) := by
  intro pins s σ H x vs v us Q I rx rs hh
  obtain ⟨h, xr, ds, p, rel, ox, _, rd, e, a⟩ := hh
  obtain ⟨l, xs, rfl, el, e⟩ := mLs_of e
  cases ox
  split at e
  · cases e
    cases rd
    obtain ⟨ws, h1, r1⟩ := rel _ _ el
    refine mt_reverse pins s σ H _ _ v us Q I rx rs ⟨_, _, rfl, rfl, h1, ?_⟩
    exact a _ _ (Tr.write rel el) (RelH.write rel el fun m => ⟨_, upd_same, r1.reverse.mono m⟩) .non
  · cases e
theorem extend_ok : MtR X "list.extend" (rMt X.K X.mg .extend anyR) := by
  intro pins s σ H x vs v us Q I rx rs hh
  obtain ⟨h, xr, ds, p, rel, ox, _, rd, e, a⟩ := hh
  obtain ⟨l, xs, rfl, el, e⟩ := mLs_of e
  cases ox
  split at e
  · split at e
    · rename_i ys ey
      split at e
      · rename_i hz
        cases e
        obtain ⟨w, rfl, pw⟩ := reps1 rd
        obtain ⟨ws, h1, r1⟩ := rel _ _ el
        obtain ⟨b, zs, rfl, h2, r2⟩ := opd_lt (r := .v _) pw rel ey
        refine mt_extend pins s σ H _ _ v us Q I rx rs ⟨_, _, _, _, rfl, rfl, h1, h2, by rw [r1.length, r2.length]; exact hz, ?_⟩
        exact a _ _ (Tr.write rel el) (RelH.write rel el fun m => ⟨_, upd_same, (r1.append r2).mono m⟩) .non
      · cases e
    · cases e
  · cases e
theorem idx_of {ys : List D} {x : D} {j : Nat} (e : idx ys x = some j) : (∃ z, ys[j]? = some z ∧ eqv z x = true) ∧ ∀ m z, m < j → ys[m]? = some z → eqv z x = false := by
  unfold idx at e
  rw [List.findIdx?_eq_some_iff_getElem] at e
  obtain ⟨h1, h2, h3⟩ := e
  refine ⟨⟨ys[j], List.getElem?_eq_getElem h1, h2⟩, fun m z hm hz => ?_⟩
  obtain ⟨h4, rfl⟩ := List.getElem?_eq_some_iff.mp hz
  have := h3 m hm
  simpa using this
theorem toPs_get {i : Nat} : ∀ {xs : List D}, (toPs xs)[i]? = xs[i]?.map toP := by
  induction i with
  | zero => intro xs; cases xs <;> rfl
  | succ i ih => intro xs; cases xs with
    | nil => rfl
    | cons x r => rw [toPs, List.getElem?_cons_succ, List.getElem?_cons_succ]; exact ih
theorem index_list_ok (hu : X.A.units + 65 < cLine) : MtR X "list.index" (rMt X.K X.mg .index notTupR) := by
  intro pins s σ H x vs v us Q I rx rs hh
  obtain ⟨h, xr, ds, p, rel, ox, nt, rd, e, a⟩ := hh
  dsimp only [mtD] at e
  split at e
  · rename_i d
    split at e
    · rename_i ys ey
      split at e
      · rename_i hp
        split at e
        · rename_i j ej
          cases e
          rw [Bool.and_eq_true] at hp
          obtain ⟨w, rfl, pw⟩ := reps1 rd
          have ey' : lsV xr h = some ys := by
            unfold sqV at ey
            split at ey
            · exact absurd rfl (nt _)
            · exact ey
          obtain ⟨q, ws, rfl, hS, r1⟩ := opd_ls ox rel ey'
          obtain ⟨d1, p1, l1⟩ := dp_of 40 _ _ pw hp.1
          obtain ⟨d2, s2⟩ := dl_of hS r1 hp.2
          obtain ⟨⟨z, hz, hzd⟩, hno⟩ := idx_of ej
          have all := List.all_eq_true.mp hp.2
          refine mt_indexD hu pins s σ H _ _ v us Q I rx rs ⟨q, w, toP d, toPs ys, j, toP z, rfl, rfl, d2, d1, s2, shaped_of p1 l1 (by omega), by rw [toPs_get, hz]; rfl, ?_, fun m z' hm hz' => ?_, a.v rel (.int _)⟩
          · rw [eqv_P 40 40 z d (all z (List.mem_of_getElem? hz)) hp.1]; exact hzd
          · rw [toPs_get] at hz'
            obtain ⟨y, hy, rfl⟩ := Option.map_eq_some_iff.mp hz'
            rw [eqv_P 40 40 y d (all y (List.mem_of_getElem? hy)) hp.1]
            exact hno m y hm hy
        · cases e
      · cases e
    · cases e
  · cases e
theorem index_tup_ok (hu : X.A.units + 65 < cLine) : MtR X "tuple.index" (rMt X.K X.mg .index isTupR) := by
  intro pins s σ H x vs v us Q I rx rs hh
  obtain ⟨h, xr, ds, p, rel, ox, ⟨ys, rfl⟩, rd, e, a⟩ := hh
  dsimp only [mtD] at e
  split at e
  · rename_i d
    split at e
    · rename_i zs ey
      split at e
      · rename_i hp
        split at e
        · rename_i j ej
          cases e
          rw [Bool.and_eq_true] at hp
          cases ey
          obtain ⟨w, rfl, pw⟩ := reps1 rd
          cases ox with
          | tup hS r1 =>
            cases rx
            obtain ⟨u, rfl, ru⟩ := vals1 rs
            obtain ⟨d1, p1, l1⟩ := dp_of 40 _ _ pw hp.1
            have s1 := shaped_of p1 l1 (by omega)
            obtain ⟨as1, h1⟩ := Dp.reads I _ _ _ d1 ru
            have all := List.all_eq_true.mp hp.2
            obtain ⟨q1, b1, c1⟩ := dps_of 40 _ _ r1 all
            obtain ⟨its, rv, ⟨⟨cls, dd, data, sls⟩, ho, hc, n, hdt⟩, hlen⟩ := I.tuple hS.sq
            simp only at hc hdt
            subst hc hdt
            obtain ⟨as2, h2⟩ := Dp.readsAll I _ _ its q1 rv
            have hmap : its.map (SeqAt.readOf s.heap) = toPs ys := SeqAt.readsAll_map _ its as2 b1 h2
            have hvl := rv.length
            have hrl := r1.length
            obtain ⟨⟨z, hz, hzd⟩, hno⟩ := idx_of ej
            obtain ⟨hjy, _⟩ := List.getElem?_eq_some_iff.mp hz
            have hj : j < its.toArray.size := by rw [List.size_toArray]; omega
            have at_ : ∀ (m : Nat) (hm : m < its.toArray.size) (z' : D), ys[m]? = some z' → SeqAt.readOf s.heap its.toArray[m] = toP z' := fun m hm z' hz' => by
              have hml : m < its.length :=
                  by simpa using hm
              have e1 : (its.map (SeqAt.readOf s.heap))[m]? = some (toP z') := by rw [hmap, toPs_get, hz']; rfl
              rw [List.getElem?_map, List.getElem?_eq_getElem hml] at e1
              simpa using e1
            have hroom : X.A.units + 1 + min (PyData.depthAll (toPs ys)) (toP d).depth < cLine := room_in_shaped s1 hu
            refine call_meets F.slot_tuple_index ⟨_, ho, rfl⟩
                F.entry_tuple_index (F.args_tuple_index_2 _ _)
              (TI.tuple_indexAt _ its.toArray n dd sls u (fun w => PyData.eqv (SeqAt.readOf s.heap w) (toP d)) j hj ?_ ?_) ⟨ho, SeqAt.items_eqAt (vs := its.toArray) h2 h1 b1 p1 hroom, ?_⟩
            · show PyData.eqv (SeqAt.readOf s.heap its.toArray[j]) (toP d) = true
              rw [at_ j hj z hz, eqv_P 40 40 z d (all z (List.mem_of_getElem? hz)) hp.1]
              exact hzd
            · intro m hm hmj
              have hmd : m < ys.length := by omega
              have hz' := List.getElem?_eq_getElem hmd
              show PyData.eqv (SeqAt.readOf s.heap its.toArray[m]) (toP d) = false
              rw [at_ m hm _ hz', eqv_P 40 40 _ d (all _ (List.mem_of_getElem? hz')) hp.1]
              exact hno m _ hmj hz'
            · exact ⟨.int (j : Nat), H, I.tok _, ⟨_, rfl⟩, a.v rel (.int _)⟩
        · cases e
      · cases e
    · cases e
  · cases e
end
end Py
namespace Py
open L2 PySem.Spec PySem PyProof.Rows
theorem rsize_nn (i j c : Int) (h : c ≠ 0) : 0 ≤ Builtin.Range.rangeSize i j c := by
  unfold
      Builtin.Range.rangeSize
  split
  · split
    · have := Int.ediv_nonneg (a := j - i - 1) (b := c) (by omega) (by omega)
      omega
    · omega
  · split
    · have := Int.ediv_nonneg (a := i - j - 1) (b := -c) (by omega) (by omega)
      omega
    · omega
theorem rsize_le (i j c : Int) (h : c ≠ 0) (h1 : -(2 ^ 62) ≤ i) (h2 : i < 2 ^ 62) (h3 : -(2 ^ 62) ≤ j) (h4 : j < 2 ^ 62) : Builtin.Range.rangeSize i j c < 2 ^ 63 := by
  unfold
      Builtin.Range.rangeSize
  split
  · split
    · have := Int.ediv_le_self (a := j - i - 1) c (by omega)
      omega
    · omega
  · split
    · have := Int.ediv_le_self (a := i - j - 1) (-c) (by omega)
      omega
    · omega
theorem rgC_of {i j c : Int} (h : (small62 i && small62 j && stepOk c) = true) : RgC i j c (rngN i j c) := by
  unfold small62 stepOk at h
  simp only [Bool.and_eq_true,
      decide_eq_true_eq] at h
  obtain ⟨⟨⟨h1, h2⟩, h3, h4⟩, ⟨h5, h6⟩, h7⟩ := h
  have n0 := rsize_nn i j c h5
  have n1 := rsize_le i j c h5 (by omega) (by omega) (by omega) (by omega)
  refine ⟨h5, by omega, ?_, (Int.toNat_of_nonneg n0).symm⟩
  unfold Builtin.Range.small
  generalize Builtin.Range.rangeSize i j c = n at n0 n1
  simp only [Builtin.Range.rangeFitsLong, Bool.and_eq_true, Bool.or_eq_true, decide_eq_true_eq, beq_iff_eq]
  refine ⟨⟨⟨⟨⟨by omega, by omega⟩, by omega, by omega⟩, by omega, by omega⟩, by omega, by omega⟩, .inr ?_⟩
  split <;> simp only [Bool.and_eq_true, decide_eq_true_eq] <;> omega
end Py
/-! From the syntax of the model to the syntax that is read here. -/
namespace Py
open L2 PySem.Spec PySem PyProof.Rows
def visB (sc : Scope) (x : Str) : Bool := match sc.names.lookup x with
  | some .local => true
  | some .cell => true
  | some .free => true
  | _ => false
def locB (sc : Scope) (x : Str) : Bool := match sc.names.lookup x with
  | some .local => true
  | some .cell => true
  | _ => false
def lclB (sc : Scope) (x : Str) : Bool := match sc.names.lookup x with
  | some .local => true
  | _ => false
def gloB (sc : Scope) (x : Str) : Bool := match sc.names.lookup x with
  | some .globalImplicit => true
  | _ => false
def okN (x : Str) : Bool := !(x == ("super" : Str)) && !(x == ("__debug__" : Str)) && !(x == ("__classdict__" : Str)) && !(x == ("__name__" : Str))
def slot (N : List Str) (x : Str) : Option Nat := N.findIdx? (· == x)
def blts : List Str := ["len", "int", "bool", "str", "tuple", "list", "abs", "any", "all", "sum", "min", "max", "sorted", "isinstance", "range", "set", "dict"]
def bltB (x : Str) : Bool := blts.contains x
def trC : Const → Option D
  | .none => some .non
  | .bool b => some (.bl b)
  | .int i => some (.int i)
  | .str s => some (.str s)
  | _ => none
def trOp : Operator → Option Bop
  | .Add => some .add | .Sub => some .sub | .Mult => some .mul | .FloorDiv => some .fdiv | .Mod => some .mod | .Pow => some .pow
  | .LShift => some .shl | .RShift => some .shr | .BitAnd => some .band | .BitXor => some .bxor | .BitOr => some .bor
  | _ => none
def trCop : CmpOp → Option Cop
  | .Eq => some .eq | .NotEq => some .ne | .Lt => some .lt | .LtE => some .le | .Gt => some .gt | .GtE => some .ge | .In => some .inn | .NotIn => some .nin
  | _ => none
def trIs : CmpOp → Option Bool
  | .Is => some false
  | .IsNot => some true
  | _ => none
/-- a constant that stands behind is -/
def trIsC : PySem.Expr → Option D
  | .Constant .none _ _ => some .non
  | .Constant (.bool b) _ _ => some (.bl b)
  | _ => none
def trEs (f : PySem.Expr → Option Ex) : List PySem.Expr → Option Es
  | [] => some .nil
  | e :: es => do
    let a ← f e
    let r ← trEs f es
    return .cons a r
def trBool (f : PySem.Expr → Option Ex) (op : BoolOp) : List PySem.Expr → Option Ex
  | [] => none
  | [a] => f a
  | a :: r => do
    let x ← f a
    let y ← trBool f op r
    return match op with
      | .And => .and x y
      | .Or => .or x y
def trO (f : PySem.Expr → Option Ex) : Option PySem.Expr → Option Oe
  | none => some .no
  | some e => do
    let a ← f e
    return .so a
/-- a slice's step that is told -/
def stN : PySem.Expr → Option Int
  | .Constant (.int i) _ _ => if i = 0 ∨ i = 1 then none else some i
  | .UnaryOp .USub (.Constant (.int i) _ _) _ => if i = 0 ∨ i = -1 then none else some (-i)
  | _ => none
def tyN (x : Str) : Option Ty := if x = "int" then some .int else if x = "bool" then some .bool else if x = "str" then some .str else if x = "tuple" then some .tup else none
/-- built-ins of one argument -/
def b1N (x : Str) : Option Bi :=
  if x = "len" then some .len else if x = "int" then some .int else if x = "bool" then some .bool else if x = "str" then some .str else if x = "tuple" then some .tup else if x = "list" then some .lst
  else if x = "abs" then some .abs else if x = "any" then some .any else if x = "all" then some .all else if x = "sum" then some .sum else if x = "min" then some .min else if x = "max" then some .max
  else if x = "sorted" then some .sorted else none
def b2N (x : Str) : Option B2 := if x = "min" then some .min else if x = "max" then some .max else none
def mtN (m : Str) (n : Nat) : Option Mt :=
  if m = "append" ∧ n = 1 then some .append else if m = "pop" ∧ n = 0 then some .pop else if m = "pop" ∧ n = 1 then some .popi else if m = "index" ∧ n = 1 then some .index else if m = "reverse" ∧ n = 0 then some .reverse
  else if m = "extend" ∧ n = 1 then some .extend else if m = "insert" ∧ n = 2 then some .insert else none
/-- range(..) of a def's or a block's names -/
def isRng (sc : Scope) (f : PySem.Expr) : Bool := match f with
  | .Name x _ => decide (x = "range") && gloB sc x
  | _ => false
def trI (sc : Scope) (f : PySem.Expr → Option Ex) (e : PySem.Expr) : Option It := match e with
  | .Call g es [] _ => if isRng sc g then (match es with
      | [a] => do
        let x ← f a
        return .rng1 x
      | [a, b] => do
        let x ← f a
        let y ← f b
        return .rng2 x y
      | [a, b, c] => do
        let x ← f a
        let y ← f b
        let z ← f c
        return .rng3 x y z
      | _ => none)
    else do
      let x ← f e
      return .seq x
  | _ => do
    let x ← f e
    return .seq x
/-- a target: ok tells which names may be stored -/
def trT (N : List Str) (ok : Str → Bool) : Nat → PySem.Expr → Option Tg
  | 0, _ => none
  | n + 1, e => match e with
    | .Name x _ => if ok x then (slot N x).map .nm else none
    | .Tuple es _ _ => (go n es).map .tp
    | _ => none
where
  go (n : Nat) : List PySem.Expr → Option Tgs
    | [] => some .nil
    | e :: es => do
      let a ← trT N ok n e
      let r ← go n es
      return .cons a r
mutual
def tgIn (p : Nat → Bool) : Tg → Bool
  | .nm i => p i
  | .tp ts => tgsIn p ts
def tgsIn (p : Nat → Bool) : Tgs → Bool
  | .nil => true
  | .cons t ts => tgIn p t && tgsIn p ts
end
/-- a block's own names with their slots -/
def ownOf (N : List Str) : List (Str × NameKind) → List (Str × Nat)
  | [] => []
  | (x, k) :: r => match k with
    | .local => (match slot N x with
      | some i => (x, i) :: ownOf N r
      | none => ownOf N r)
    | .cell => (match slot N x with
      | some i => (x, i) :: ownOf N r
      | none => ownOf N r)
    | _ => ownOf N r
def trE (F : Str → Bool) (N : List Str) : Nat → Scope → PySem.Expr → Option Ex
  | 0, _, _ => none
  | n + 1, sc, e => match e with
    | .Constant c _ _ => (trC c).map .lit
    | .Name x _ => if okN x then (if visB sc x then (slot N x).map .var else if gloB sc x && !bltB x then some (.glo x) else none) else none
    | .BinOp a op b _ => do
      let o ← trOp op
      let x ← trE F N n sc a
      let y ← trE F N n sc b
      return .bin o x y
    | .UnaryOp op a _ => match op with
      | .Not => do
        let x ← trE F N n sc a
        return .not x
      | .USub => do
        let x ← trE F N n sc a
        return .neg x
      | _ => none
    | .BoolOp op es _ => trBool (trE F N n sc) op es
    | .IfExp c a b _ => do
      let z ← trE F N n sc c
      let x ← trE F N n sc a
      let y ← trE F N n sc b
      return .ite z x y
    | .Compare a ops bs _ => match ops, bs with
      | [o], [b] => (match trIs o with
        | some neg => do
          let c ← trIsC b
          let x ← trE F N n sc a
          return .isc neg x c
        | none => do
          let o1 ← trCop o
          let x ← trE F N n sc a
          let y ← trE F N n sc b
          return .cmp o1 x y)
      | [o, o'], [b, c] => do
        let o1 ← trCop o
        let o2 ← trCop o'
        let x ← trE F N n sc a
        let y ← trE F N n sc b
        let z ← trE F N n sc c
        return .chain o1 o2 x y z
      | _, _ => none
    | .Tuple es _ _ => (trEs (trE F N n sc) es).map .tup
    | .List es _ => (trEs (trE F N n sc) es).map .lst
    | .Call f es [] pos => match f with
      | .Name x _ => if okN x then
          (if visB sc x then (match es with
            | [] => none
            | _ => do
              let i ← slot N x
              let r ← trEs (trE F N n sc) es
              return .callv i r)
          else if gloB sc x then (if bltB x then (match es with
              | [a] => (match trI sc (trE F N n sc) a with
                | some (.seq _) => do
                  let b ← b1N x
                  let y ← trE F N n sc a
                  return .b1 b y
                | some (.rng1 i) => if x = "tuple" then some (.rng true (.rng1 i)) else if x = "list" then some (.rng false (.rng1 i)) else none
                | some (.rng2 i j) => if x = "tuple" then some (.rng true (.rng2 i j)) else if x = "list" then some (.rng false (.rng2 i j)) else none
                | some _ => none
                | none => none)
              | [a, b] => if x = "isinstance" then (match b with
                  | .Name t _ => if gloB sc t then do
                      let ty ← tyN t
                      let y ← trE F N n sc a
                      return .b1 (.isa ty) y
                    else none
                  | _ => none)
                else do
                  let o ← b2N x
                  let y ← trE F N n sc a
                  let z ← trE F N n sc b
                  return .b2 o y z
              | _ => none)
            else if F x then do
              let r ← trEs (trE F N n sc) es
              return .call x r
            else none)
          else none) else none
      | .Attribute o m apos => if apos.endLine == pos.line then do
          let k ← mtN m es.length
          let x ← trE F N n sc o
          let r ← trEs (trE F N n sc) es
          return .mt k x r
        else none
      | _ => none
    | .Subscript a i _ => match i with
      | .Slice lo hi st _ => (match st with
        | none => do
          let x ← trE F N n sc a
          let l ← trO (trE F N n sc) lo
          let u ← trO (trE F N n sc) hi
          return .sl x l u
        | some sp => do
          let k ← stN sp
          let x ← trE F N n sc a
          let l ← trO (trE F N n sc) lo
          let u ← trO (trE F N n sc) hi
          return .sls x l u k)
      | _ => do
        let x ← trE F N n sc a
        let y ← trE F N n sc i
        return .ix x y
    | .ListComp elt gens scope _ => match gens with
      | [⟨t, it, ifs, 0⟩] =>
        let own := ownOf N scope.names
        if blkC N sc scope own then do
          let t' ← trT N (locB scope) 4 t
          if tgIn (own.map (·.2)).contains t' then do
            let it' ← trI sc (trE F N n sc) it
            let e' ← trE F N n (relS scope sc) elt
            match ifs with
            | [] => some (.comp t' it' (own.map (·.2)) e')
            | [c] => do
              let c' ← trE F N n (relS scope sc) c
              return .compi t' it' (own.map (·.2)) c' e'
            | _ => none
          else none
        else none
      | [⟨t, it, [], 0⟩, ⟨t1, it1, [], 0⟩] =>
        let own := ownOf N scope.names
        if blkC N sc scope own then do
          let t' ← trT N (locB scope) 4 t
          let t1' ← trT N (locB scope) 4 t1
          if tgIn (own.map (·.2)).contains t' && tgIn (own.map (·.2)).contains t1' then do
            let it' ← trI sc (trE F N n sc) it
            let it1' ← trI (relS scope sc) (trE F N n (relS scope sc)) it1
            let e' ← trE F N n (relS scope sc) elt
            return .comp2 t' it' (own.map (·.2)) t1' it1' (own.map (·.2)) e'
          else none
        else none
      | _ => none
    | _ => none
end Py
/-! From statements of the model to the statements that are read here. -/
namespace Py
open L2 PySem.Spec PySem PyProof.Rows
def trN : Nat := 60
/-- does a comprehension store its name itself -/
def swB (sc : Scope) (t : Str) (p : Pos) : PySem.Expr → Bool
  | .ListComp _ _ s q => lclB sc t && p.line == q.line && !(s.names.any fun y => y.1 == t && (y.2 == .local || y.2 == .cell))
  | _ => false
def isStar : PySem.Expr → Bool
  | .Starred .. => true
  | _ => false
/-- the names stored from the right, where that is so: none is not known -/
def swC (sc : Scope) (ts vs : List PySem.Expr) : Option (Option (List Str)) :=
  if (!(ts.length == 2 || ts.length == 3) || vs.length != ts.length) = true then some none
  else if vs.any isStar = true then some none
  else
    let ln := (ts.head?.map (·.pos.line)).getD 0
    let ns := ts.filterMap fun t => match t with
      | .Name x p => if (sc.names.lookup x == some .local && p.line == ln) = true then some x else none
      | _ => none
    if (ns.length != ts.length || ns.eraseDups.length != ns.length) = true then some none
    else if vs.all (foldedForSure 8) = true then some none
    else if vs.all (constantsAlone 8) = true then none
    else some (some ns)
def nmS (N : List Str) (sc : Scope) (e : PySem.Expr) : Option Nat := match e with
  | .Name x _ => if lclB sc x = true then slot N x else none
  | _ => none
section
variable (F Xs : Str → Bool) (N : List Str)
def trS : Nat → Scope → PySem.Stmt → Option St
  | 0, _, _ => none
  | n + 1, sc, st => match st with
    | .Assign [tg] e _ => (match tg with
      | .Name x _ => if locB sc x = true then do
          let i ← slot N x
          let v ← trE F N trN sc e
          return .asg (.nm i) v
        else none
      | .Tuple ts _ _ => (match e with
        | .Tuple vs _ _ => (match swC sc ts vs with
          | none => none
          | some none => do
            let t ← trT N (locB sc) 6 tg
            let v ← trE F N trN sc e
            return .asg t v
          | some (some _) => (match ts, vs with
            | [a, b], [c, d] => do
              let i ← nmS N sc a
              let j ← nmS N sc b
              let r ← trEs (trE F N trN sc) [c, d]
              if i = j then none else return .asg (.tp (.cons (.nm i) (.cons (.nm j) .nil))) (.tup r)
            | [a, b, l], [c, d, m] => do
              let i ← nmS N sc a
              let j ← nmS N sc b
              let k ← nmS N sc l
              let r ← trEs (trE F N trN sc) [c, d, m]
              if i = j ∨ i = k ∨ j = k then none else return .asg (.tp (.cons (.nm i) (.cons (.nm j) (.cons (.nm k) .nil)))) (.tup r)
            | _, _ => none))
        | _ => do
          let t ← trT N (locB sc) 6 tg
          let v ← trE F N trN sc e
          return .asg t v)
      | .Subscript o i _ => (match i with
        | .Slice _ _ _ _ => none
        | _ => do
          let v ← trE F N trN sc e
          let a ← trE F N trN sc o
          let k ← trE F N trN sc i
          return .set a k v)
      | _ => none)
    | .AugAssign (.Name x _) op e _ => if locB sc x = true then do
        let i ← slot N x
        let o ← trOp op
        let v ← trE F N trN sc e
        return .aug i o v
      else none
    | .Expr e _ => (match e with
      | .Constant (.str _) _ _ => some .pass
      | .ListComp _ _ _ _ => none
      | _ => do
        let v ← trE F N trN sc e
        return .expr v)
    | .If c a b _ => do
      let z ← trE F N trN sc c
      let x ← go n sc a
      let y ← go n sc b
      return .ifs z x y
    | .While c b [] _ => do
      let z ← trE F N trN sc c
      let x ← go n sc b
      return .whl z x
    | .For tg it b [] _ => do
      let t ← trT N (locB sc) 6 tg
      let z ← trI sc (trE F N trN sc) it
      let x ← go n sc b
      return .for_ t z x
    | .Return (some e) _ => do
      let v ← trE F N trN sc e
      return .ret v
    | .Return none _ => some .retn
    | .Raise (some (.Call (.Name c _) [.Constant (.str _) _ _] [] _)) none _ => if (Xs c && gloB sc c && okN c) = true then some (.rais c) else none
    | .Try b [.ExceptHandler (some (.Name c _)) none [.Return (some (.Constant k _ _)) _] _] [] [] _ => if (Xs c && gloB sc c && okN c) = true then do
        let x ← go n sc b
        let d ← trC k
        return .tryx x c d
      else none
    | .Pass _ => some .pass
    | .Break _ => some .brk
    | .Continue _ => some .cnt
    | _ => none
where
  go (n : Nat) (sc : Scope) : List PySem.Stmt → Option Sts
    | [] => some .nil
    | s :: r => do
      let a ← trS n sc s
      let b ← go n sc r
      return .cons a b
end
end Py
/-! Slices with a step. -/
namespace Py
open L2 PySem.Spec PySem PyProof.Rows
theorem vals_pick {xs : List V} {its : List Value} (r : Vals xs its) : ∀ is : List Nat, Vals (is.filterMap fun k => xs[k]?) (is.filterMap fun k => its[k]?)
  | [] => .nil
  | k :: is => by
    have ih := vals_pick r is
    by_cases hk : k < xs.length
    · have h1 : xs[k]? = some xs[k] := List.getElem?_eq_getElem hk
      obtain ⟨u, h2, h3⟩ := Vals.get r h1
      rw [List.filterMap_cons, List.filterMap_cons, h1, h2]
      exact .cons h3 ih
    · have h1 : xs[k]? = none := List.getElem?_eq_none (by omega)
      have h2 : its[k]? = none := List.getElem?_eq_none (by rw [← r.length]; omega)
      rw [List.filterMap_cons, List.filterMap_cons, h1, h2]
      exact ih
theorem reps_pick {K : PySem.W.Frag} {M : Str → Option Value} {H : Hp} {vs : List V} {xs : List D} (r : Reps K M H vs xs) : ∀ is : List Nat, Reps K M H (is.filterMap fun k => vs[k]?) (is.filterMap fun k => xs[k]?)
  | [] => .nil
  | k :: is => by
    have ih := reps_pick r is
    by_cases hk : k < xs.length
    · have h1 : xs[k]? = some xs[k] := List.getElem?_eq_getElem hk
      obtain ⟨u, h2, h3⟩ := r.get h1
      rw [List.filterMap_cons, List.filterMap_cons, h1, h2]
      exact .cons h3 ih
    · have h1 : xs[k]? = none := List.getElem?_eq_none (by omega)
      have h2 : vs[k]? = none := List.getElem?_eq_none (by rw [r.length]; omega)
      rw [List.filterMap_cons, List.filterMap_cons, h1, h2]
      exact ih
section
variable {prog : Program} {w : World} {A :
    Around} {E : Value → Shared → Prop} {s : Shared}
theorem sliceApplied_st {sl : Addr} {vl vu vs : Value} {lo hi : Option Int} {st : Int} {n : Nat} {Q : Int × Int × Nat → Shared → Prop} (hs : s.heap.IsSliceOf sl vl vu vs) (pl : IsPart vl lo) (pu : IsPart vu hi) (ps : IsPart vs (some st)) (h0 : st ≠ 0)
    (h : Q ((Builtin.Slice.sliceAdjust lo hi st n).1, st, Builtin.Slice.slicePlaces (Builtin.Slice.sliceAdjust lo hi st n).1 (Builtin.Slice.sliceAdjust lo hi st n).2 st) s) : wpAny (model prog w) A (Builtin.Slice.sliceApplied (.ref sl) (pure (n : Int))) Q E s := by
  obtain ⟨os, hos, hcs, hds⟩ :=
      id hs
  unfold Builtin.Slice.sliceApplied
      Builtin.Slice.sliceFields
  refine wpAny_bind (wpAny_bind (wpAny_field hos hds (x := vl) rfl (wpAny_bind (wpAny_field hos hds (x := vu) rfl (wpAny_bind (wpAny_field hos hds (x := vs) rfl (wpAny_pure ?_)))))))
  refine wpAny_bind (HT.slicePart_ ps ?_)
  show wpAny _ _ (if (st == 0) = true then _ else _) _ _ s
  rw [if_neg (by
      simpa using h0)]
  refine wpAny_bind (HT.slicePart_ pl (wpAny_bind (HT.slicePart_ pu (wpAny_bind (wpAny_pure ?_)))))
  exact wpAny_pure h
theorem getItem_tuple_st {t sl : Addr} {items : Array Value} {vl vu vs : Value} {lo hi : Option Int} {st : Int} {Q : Value → Shared → Prop} (ht : IsTup s.heap t items) (hs : s.heap.IsSliceOf sl vl vu vs) (pl : IsPart vl lo) (pu : IsPart vu hi) (ps : IsPart vs (some st)) (h0 : st ≠ 0) (h1 : st ≠ 1)
    (h : Q (.ref s.heap.objs.size) { s with heap := s.heap.push { cls := .type "tuple", data := .seq (pkT st lo hi items.toList).toArray } })
    (hsz : (pkT st lo hi items.toList).length ≤ sizeLine) : wpAny (model prog w) A (getItem (.ref t) (.ref sl)) Q E s := by
  have htake : sizeOk (.seq (pkT st lo hi items.toList).toArray) := by
    show (pkT st lo hi items.toList).toArray.size ≤ sizeLine
    rw [List.size_toArray]
    exact hsz
  obtain ⟨os, hos, hcs, hds⟩ :=
      id hs
  have hTs : s.TypeIs (.ref sl) "slice" :=
      ⟨os, hos, hcs⟩
  unfold getItem
  try with_reducible
      refine wpAny_holding ?_
  first | (refine wpAny_bind (wpAny_pure ?_)) | skip
  refine wpAny_bind (wpAny_sequenceKey
      ht.typeIs (by decide) ?_)
  refine wpAny_bind (wpAny_callSpecial?_slot (name :=
      Str.ofString "__getitem__") ht.typeIs PyProof.Rows.slot_tuple_getitem
    (wpAny_call_entry PyProof.Rows.slot_tuple_getitem
        ht.typeIs entry_tuple_getitem ?_ (args_tuple_getitem _ _)))
  show wpAny _ _ (Builtin.Tuple.tupleItemsOf
      (.ref t) >>= _) _ _ s
  refine wpAny_bind
      (tupleItemsOf_ ht ?_)
  refine wpAny_bind
      (wpAny_typeOf hTs ?_)
  rw [if_pos (by decide)]
  refine wpAny_bind (sliceApplied_st hs pl pu ps h0 ?_)
  have hno : ¬ (((Builtin.Slice.sliceAdjust lo hi st items.size).1 == 0 && st == 1 && (Builtin.Slice.slicePlaces (Builtin.Slice.sliceAdjust lo hi st items.size).1 (Builtin.Slice.sliceAdjust lo hi st items.size).2 st) == items.size) = true) := by
    intro q
    rw [Bool.and_eq_true,
        Bool.and_eq_true] at q
    exact h1 (eq_of_beq q.1.2)
  show wpAny _ _ (if ((Builtin.Slice.sliceAdjust lo hi st items.size).1 == 0 && st == 1 && (Builtin.Slice.slicePlaces (Builtin.Slice.sliceAdjust lo hi st items.size).1 (Builtin.Slice.sliceAdjust lo hi st items.size).2 st) == items.size) = true then _ else _) _ _ s
  have e : ((List.range (Builtin.Slice.slicePlaces (Builtin.Slice.sliceAdjust lo hi st items.size).1 (Builtin.Slice.sliceAdjust lo hi st items.size).2 st)).filterMap fun (k : Nat) => items[((Builtin.Slice.sliceAdjust lo hi st items.size).1 + (k : Int) * st).toNat]?) = pkT st lo hi items.toList := by
    unfold pkT
    rw [Array.length_toList, List.filterMap_map]
    congr 1
    funext k
    simp
  rw [if_neg hno, e]
  first
    | exact wpAny_bind (m :=
        Builtin.Tuple.tupleExact _) (wpAny_newObj_type (wpAny_pure ⟨_, rfl, wpAny_pure h⟩) htake)
    | exact wpAny_bind (m :=
        Builtin.Tuple.tupleExact _) (wpAny_newObj_type (wpAny_bind (wpAny_pure (wpAny_pure ⟨_, rfl, wpAny_pure h⟩))) htake)
    | exact wpAny_bind (wpAny_bind (m :=
        Builtin.Tuple.tupleExact _) (wpAny_newObj_type (wpAny_pure (wpAny_pure ⟨_, rfl, wpAny_pure h⟩)) htake))
    | exact wpAny_bind (wpAny_bind (m :=
        Builtin.Tuple.tupleExact _) (wpAny_newObj_type (wpAny_pure ⟨_, rfl, wpAny_pure h⟩) htake))
end
section
variable {X : Cx} {e : Expr} {te : L2.TE} {lo hi : Option Expr} {tl th : L2.TO} {pos p2 : Pos}
def tSls (K : PySem.W.Frag) (st : Int) (te : L2.TE) (tl th : L2.TO) : L2.TE := fun σ H Q => te σ H fun x H1 => tl σ H1 fun l H2 => th σ H2 fun u H3 => ∃ a xs, x = .ref a ∧
  ((SqL K H3 a xs ∧ (pkL st l u xs).length ≤ sizeLine ∧ ∀ p, H3 p = none → Q (.ref p) (upd H3 p (.lst (pkL st l u xs)))) ∨ (SqT K H3 a xs ∧ (pkT st l u xs).length ≤ sizeLine ∧ NewT Q H3 (pkT st l u xs)))
theorem po_st {sp : Expr} {k : Int} (h : stN sp = some k) : k ≠ 0 ∧ k ≠ 1 ∧ ∀ (pins : List (Addr × Obj)) (s : Shared) (σ : L2.St) (H : Hp), L2.Inv X pins σ H s →
    wpAny (model X.prog X.w) X.A (evalPart (some sp) X.env) (fun u s' => L2.Inv X pins σ H s' ∧ IsPart u (some k)) X.xe s := by
  unfold stN at h
  split at h
  · split at h
    · cases h
    · rename_i hi
      cases h
      refine ⟨fun z => hi (.inl z), fun z => hi (.inr z), fun pins s σ H I => ?_⟩
      exact thn ((po_some pe_int).run pins s σ H (fun o H' => o = some k ∧ H' = H) I ⟨k, rfl, rfl, rfl⟩) fun u s' ⟨o, H', I', p, e1, e2⟩ => by
        subst e1 e2
        exact ⟨I', p⟩
  · split at h
    · cases h
    · rename_i i _ _ _ hi
      injection h with h
      subst h
      refine ⟨fun z => hi (.inl (by omega)), fun z => hi (.inr (by omega)), fun pins s σ H I => ?_⟩
      exact thn ((po_some (pe_un un_neg pe_int)).run pins s σ H (fun o H' => o = some (-i) ∧ H' = H) I ⟨i, rfl, -i, rfl, rfl, rfl⟩) fun u s' ⟨o, H', I', p, e1, e2⟩ => by
        subst e1 e2
        exact ⟨I', p⟩
  · cases h
theorem pe_sls {sp : Expr} {k : Int} (hk : stN sp = some k) (he : PE X e te) (hl : PO X lo tl) (hu : PO X hi th) : PE X (.Subscript e (.Slice lo hi (some sp) p2) pos) (tSls X.K k te tl th) := by
  refine ⟨fun pins s σ H Q I h =>
      ?_⟩
  obtain ⟨k0, k1, hp⟩ := po_st (X := X) hk
  refine Subscript_ (thn (he.run pins s σ H _ I h) fun v s1 ⟨x, H1, I1, r1, q1⟩ =>
      ?_)
  refine wpAny_Slice (thn (hl.run pins s1 σ H1 _ I1 q1) fun vl s2 ⟨l, H2, I2, pl, q2⟩ =>
      thn (hu.run pins s2 σ H2 _ I2 q2) fun vu s3 ⟨u, H3, I3, pu, q3⟩ => ?_)
  refine thn (hp pins s3 σ H3 I3) fun vs s4 ⟨I4, ps⟩ => ?_
  have I5 : L2.Inv X pins σ H3 { s4 with heap := s4.heap.push { cls := .type "slice", data := .fields #[vl, vu, vs] } } := I4.kept (t' := s4.toks) fun b ob q => Heap.get?_push_of_some _ q
  obtain ⟨a, xs, rfl, q3⟩ := q3
  cases r1
  show wpAny (model X.prog X.w) X.A (subscriptTail e (.Slice lo hi (some sp) p2) (.ref a) (.ref s4.heap.objs.size)) (EP X pins σ Q) X.xe { s4 with heap := s4.heap.push { cls := .type "slice", data := .fields #[vl, vu, vs] } }
  rcases q3 with ⟨hx, hz, q⟩ | ⟨hx, hz, q⟩
  · obtain ⟨its, r, ht, hz1⟩ := I5.list hx
    have hlen := r.length
    refine tail_any (ops :=
        [.ref a, .ref s4.heap.objs.size]) ht.isList.typeIs (PySem.slot_list_getitem.lookup) ?_ (by with_unfolding_all rfl)
    refine wpAny_getItem_list_slice ht.isList (Heap.IsSliceOf.new _ vl vu vs) pl pu ps (by simpa using k0) ?_ (by rw [List.size_toArray]; omega)
    have e1 : slicePick its.toArray l u (some k) = (pkL k l u its).toArray := by
      unfold slicePick pkL
      rw [List.size_toArray]
      congr 2
      funext z
      simp
    rw [e1]
    have r2 : Vals (pkL k l u xs) (pkL k l u its) := by
      unfold pkL
      rw [hlen]
      exact vals_pick r _
    refine ⟨.ref _, _, I5.laid (t' := s4.toks) (o := .lst (pkL k l u xs)) (fun b ob q => Heap.get?_push_of_some _ q) (Nat.le_refl _) ?_, rfl, q _ (I5.hok.fresh (Nat.le_refl _))⟩
    exact ⟨hz, _, 0, r2, Heap.get?_push_size _ rfl⟩
  · obtain ⟨its, r, ht, hz1⟩ := I5.tuple hx
    have hlen := r.length
    have r2 : Vals (pkT k l u xs) (pkT k l u its) := by
      unfold pkT
      rw [hlen]
      exact vals_pick r _
    refine tail_any (ops := [.ref a, .ref s4.heap.objs.size]) ht.typeIs (slot_tuple_getitem.lookup) ?_ (by with_unfolding_all rfl)
    exact getItem_tuple_st ht (Heap.IsSliceOf.new _ vl vu vs) pl pu ps k0 k1 (newT_ok I5 r2 hz q) (by rw [← r2.length]; exact hz)
theorem sls_ok {h : AH} {H : Hp} {x : V} {xr : Rv} {l u : Option Int} {k : Int} {r : Rv} {Q : VK} (rel : RelH X.K X.mg h H) (ox : Opd X.K X.mg h H x xr) (e : slsD xr l u k h = some r) (a : Aft X.K X.mg h H h Q r) : ∃ p xs, x = .ref p ∧
    ((SqL X.K H p xs ∧ (pkL k l u xs).length ≤ sizeLine ∧ ∀ q, H q = none → Q (.ref q) (upd H q (.lst (pkL k l u xs)))) ∨ (SqT X.K H p xs ∧ (pkT k l u xs).length ≤ sizeLine ∧ NewT Q H (pkT k l u xs))) := by
  unfold slsD at e
  split at e
  · split at e
    · rename_i xs hz
      cases e
      cases ox with
      | tup s1 r1 =>
        rename_i p vs
        have r2 : Reps X.K X.mg H (pkT k l u vs) (pkT k l u xs) := by
          unfold pkT
          rw [r1.length]
          exact reps_pick r1 _
        exact ⟨_, _, rfl, .inr ⟨s1.sq, by rw [r2.length, sizeLine_eq]; exact hz, a.newT rel r2⟩⟩
    · cases e
  · split at e
    · rename_i xs ex
      split at e
      · rename_i hz
        cases e
        obtain ⟨p, vs, rfl, s1, r1⟩ := opd_ls ox rel ex
        have r2 : Reps X.K X.mg H (pkL k l u vs) (pkL k l u xs) := by
          unfold pkL
          rw [r1.length]
          exact reps_pick r1 _
        exact ⟨_, _, rfl, .inl ⟨s1, by rw [r2.length, sizeLine_eq]; exact hz, fun q hq => a.newL rel hq r2⟩⟩
      · cases e
    · cases e
end
end Py
/-! The abstract reading is sound: what it says of a piece of syntax, the layer's readings say. -/
namespace Py
open L2 PySem.Spec PySem PyProof.Rows

/-- the slots hold the data -/
structure RelS (K : PySem.W.Frag) (M : Str → Option Value) (H : Hp) (σ : L2.St) (env : Env) : Prop where
  len : σ.length = env.length
  at_ : ∀ (i : Nat) (d : D), env[i]? = some (some d) → ∃ v, σ[i]? = some (some v) ∧ Rep K M H v d
/-- what may be thrown -/
def Xok (K : PySem.W.Frag) (M : Str → Option Value) (W : WX) (σ : L2.St) (h : AH) (H : Hp) (X0 : Xc) : Prop :=
  ∀ c h' H' d a, X0 c h' → Tr h H h' H' → RelH K M h' H' → M c = some (.ref a) → W (.ref a) d σ H'
structure Now (K : PySem.W.Frag) (M : Str → Option Value) (W : WX) (σ : L2.St) (env : Env) (h : AH) (H : Hp) (X0 : Xc) : Prop where
  rel : RelH K M h H
  rs : RelS K M H σ env
  xo : Xok K M W σ h H X0
section
variable {K : PySem.W.Frag} {M : Str → Option Value} {W : WX} {σ : L2.St} {env : Env} {h h' : AH} {H H' : Hp} {X0 : Xc}
theorem RelS.mono (m : Mn K H H') (r : RelS K M H σ env) : RelS K M H' σ env := ⟨r.len, fun i d e => let ⟨v, e1, q⟩ := r.at_ i d e; ⟨v, e1, q.mono m⟩⟩
theorem Xok.mono (x : Tr h H h' H') (q : Xok K M W σ h H X0) : Xok K M W σ h' H' X0 := fun c h2 H2 d a x0 t r e => q c h2 H2 d a x0 (x.trans t) r e
theorem Now.go (n : Now K M W σ env h H X0) (x : Tr h H h' H') (r : RelH K M h' H') : Now K M W σ env h' H' X0 := ⟨r, n.rs.mono (x.mn n.rel), n.xo.mono x⟩
theorem RelS.set {v : V} {d : D} (r : RelS K M H σ env) (q : Rep K M H v d) (i : Nat) : RelS K M H (σ.set i (some v)) (env.set i (some d)) := by
  refine ⟨by rw [List.length_set, List.length_set, r.len], fun j e he => ?_⟩
  by_cases hj : i = j
  · subst hj
    by_cases hl : i < env.length
    · rw [List.getElem?_set_self hl] at he
      cases he
      exact ⟨v, List.getElem?_set_self (by rw [r.len]; exact hl), q⟩
    · rw [List.getElem?_eq_none (by simpa using hl)] at he
      cases he
  · rw [List.getElem?_set_ne hj] at he ⊢
    exact r.at_ j e he
theorem RelS.setN (r : RelS K M H σ env) (i : Nat) : RelS K M H (σ.set i none) (env.set i none) := by
  refine ⟨by rw [List.length_set, List.length_set, r.len], fun j e he => ?_⟩
  by_cases hj : i = j
  · subst hj
    by_cases hl : i < env.length
    · rw [List.getElem?_set_self hl] at he
      cases he
    · rw [List.getElem?_eq_none (by simpa using hl)] at he
      cases he
  · rw [List.getElem?_set_ne hj] at he ⊢
    exact r.at_ j e he
theorem RelS.wipe (r : RelS K M H σ env) : ∀ vs : List Nat, RelS K M H (L2.wipe σ vs) (Py.wipe env vs)
  | [] => r
  | v :: vs => (RelS.wipe r vs).setN v
theorem RelS.lk {i : Nat} {d : D} (r : RelS K M H σ env) (e : lk env i = some d) : ∃ v, σ[i]? = some (some v) ∧ Rep K M H v d := by
  unfold Py.lk at e
  split at e
  · rename_i d' h'
    cases e
    exact r.at_ _ _ h'
  · cases e
end

/-! ### the readings -/
section
variable (K : PySem.W.Frag) (M : Str → Option Value) (W : WX)
def tOf (m : TX) : L2.TE := fun σ H Q => ∃ env h Q0 X0, Now K M W σ env h H X0 ∧ m env h Q0 X0 ∧ ∀ r h' v H', Q0 r h' → Tr h H h' H' → RelH K M h' H' → RepR K M H h' H' v r → Q v H'
def ttOf (m : Env → AH → (Bool → AH → Prop) → Xc → Prop) : L2.TT := fun σ H Q => ∃ env h Q0 X0, Now K M W σ env h H X0 ∧ m env h Q0 X0 ∧ ∀ k h' H', Q0 k h' → Tr h H h' H' → RelH K M h' H' → Q k H'
def taOf (m : TEs) : L2.TA := fun σ H Q => ∃ env h Q0 X0, Now K M W σ env h H X0 ∧ m env h Q0 X0 ∧ ∀ ds h' vs H', Q0 ds h' → Tr h H h' H' → RelH K M h' H' → Reps K M H' vs ds → Q vs H'
def toOf (m : TO) : L2.TO := fun σ H Q => ∃ env h Q0 X0, Now K M W σ env h H X0 ∧ m env h Q0 X0 ∧ ∀ o h' H', Q0 o h' → Tr h H h' H' → RelH K M h' H' → Q o H'
/-- what was made between Hp and H0, and is not known, is kept -/
def Kp (Hpre : Hp) (h0 : AH) (H0 : Hp) (h : AH) (H : Hp) : Prop := ∀ p o, Hpre p = none → H0 p = some o → h0 p = none → H p = some o ∧ h p = none
def Walks (s : Src) (J : L2.It) (Hpre : Hp) (h0 : AH) (H0 : Hp) : Prop := ∀ h H, Kp Hpre h0 H0 h H → Mn K H0 H → RelH K M h H → s.chk h → ∀ i,
  (∀ d, s.items[i]? = some d → J.go i H ∧ ∀ x H', J.yld i H x H' → H' = H ∧ Rep K M H x d) ∧ (s.items.length ≤ i → J.stop i H)
def tiOf (m : TI) : L2.TI := fun σ H R => ∃ env h Q0 X0, Now K M W σ env h H X0 ∧ m env h Q0 X0 ∧ ∀ s h' J H', Q0 s h' → Tr h H h' H' → RelH K M h' H' → Walks K M s J H h' H' → R J H'
/-- only slots of p change -/
def Ag (p : Nat → Bool) (σ σ' : L2.St) : Prop := σ'.length = σ.length ∧ ∀ i : Nat, p i = false → σ'[i]? = σ[i]?
def tgOf (p : Nat → Bool) (m : TG) : L2.TG := fun v σ H Q => ∃ d env h Q0, RelH K M h H ∧ RelS K M H σ env ∧ Rep K M H v d ∧ m d env h Q0 ∧
  ∀ env' h' σ' H', Q0 env' h' → Tr h H h' H' → RelH K M h' H' → RelS K M H' σ' env' → Ag p σ σ' → Q σ' H'
def tgsOf (p : Nat → Bool) (m : TGs) : L2.TGs := fun vs σ H Q => ∃ ds env h Q0, RelH K M h H ∧ RelS K M H σ env ∧ Reps K M H vs ds ∧ m ds env h Q0 ∧
  ∀ env' h' σ' H', Q0 env' h' → Tr h H h' H' → RelH K M h' H' → RelS K M H' σ' env' → Ag p σ σ' → Q σ' H'
end
section
variable {X : Cx}
theorem PE_le {e : Expr} {t t' : L2.TE} (g : PE X e t) (m : ∀ σ H Q, t' σ H Q → t σ H Q) : PE X e t' := ⟨fun pins s σ H Q I q => g.run pins s σ H Q I (m σ H Q q)⟩
theorem PT_le {e : Expr} {t t' : L2.TT} (g : PT X e t) (m : ∀ σ H Q, t' σ H Q → t σ H Q) : PT X e t' := ⟨fun pins s σ H Q I q => g.run pins s σ H Q I (m σ H Q q)⟩
theorem PW_le {e : Expr} {t t' : L2.TT} (g : PW X e t) (m : ∀ σ H Q, t' σ H Q → t σ H Q) : PW X e t' := ⟨fun wh pins s σ H Q I q => g.run wh pins s σ H Q I (m σ H Q q)⟩
theorem PA_le {e : List Expr} {t t' : L2.TA} (g : PA X e t) (m : ∀ σ H Q, t' σ H Q → t σ H Q) : PA X e t' := ⟨fun pos pins s σ H Q I q => g.run pos pins s σ H Q I (m σ H Q q)⟩
theorem PI_le {tg e : Expr} {t t' : L2.TI} (g : PI X tg e t) (m : ∀ σ H R, t' σ H R → t σ H R) : PI X tg e t' := ⟨fun pins s σ H R I q => g.run pins s σ H R I (m σ H R q)⟩
theorem PO_le {e : Option Expr} {t t' : L2.TO} (g : PO X e t) (m : ∀ σ H R, t' σ H R → t σ H R) : PO X e t' := ⟨fun pins s σ H R I q => g.run pins s σ H R I (m σ H R q)⟩
theorem PG_le {e : Expr} {t t' : L2.TG} (g : PG X e t) (m : ∀ v σ H R, t' v σ H R → t v σ H R) : PG X e t' := ⟨fun pins s σ H v u Q I r q => g.run pins s σ H v u Q I r (m v σ H Q q)⟩
theorem PS_le {e : Stmt} {t t' : L2.TS} (g : PS X e t) (m : ∀ D σ H, t' D σ H → t D σ H) : PS X e t' := ⟨fun pins s σ H D I q => g.run pins s σ H D I (m D σ H q)⟩
theorem PSs_le {e : List Stmt} {t t' : L2.TS} (g : PSs X e t) (m : ∀ D σ H, t' D σ H → t D σ H) : PSs X e t' := ⟨fun pins s σ H D I q => g.run pins s σ H D I (m D σ H q)⟩
end

section
variable {K : PySem.W.Frag} {M : Str → Option Value} {W : WX} {a b c e : TX}
variable {σ : L2.St} {H : Hp}
/-- the operand of a made or known object, behind another step -/
theorem opd2 {H0 : Hp} {h1 h2 : AH} {H1 H2 : Hp} {v : V} {r : Rv} (q : RepR K M H0 h1 H1 v r) (x : Tr h1 H1 h2 H2) (rel : RelH K M h1 H1) : Opd K M h2 H2 v r := (q.opd).mono x rel
theorem aft_of {Q0 : Rv → AH → Prop} {Q : VK} {h h2 : AH} {H2 : Hp} {r : Rv} (hq : ∀ r h' v H', Q0 r h' → Tr h H h' H' → RelH K M h' H' → RepR K M H h' H' v r → Q v H') (x : Tr h H h2 H2) (rel : RelH K M h2 H2) (q : Q0 r h2) : Aft K M h2 H2 h2 Q r :=
  fun v H3 t r3 rp => hq r h2 v H3 q (x.trans t) r3 (rp.back x.grow)
end
end Py
/-! The abstract reading is sound: expressions. -/
namespace Py
open L2 PySem.Spec PySem PyProof.Rows
abbrev eOf (X : Cx) (W : WX) (m : TX) : L2.TE := tOf X.K X.mg W m
abbrev cOf (X : Cx) (W : WX) (m : TX) : L2.TT := ttOf X.K X.mg W (tT m)
abbrev aOf (X : Cx) (W : WX) (m : TEs) : L2.TA := taOf X.K X.mg W m
abbrev oOf (X : Cx) (W : WX) (m : TO) : L2.TO := toOf X.K X.mg W m
abbrev iOf (X : Cx) (W : WX) (m : TI) : L2.TI := tiOf X.K X.mg W m
abbrev gOf (X : Cx) (p : Nat → Bool) (m : TG) : L2.TG := tgOf X.K X.mg p m
/-- a test that is plainly the truth of its value -/
def PlainT (X : Cx) (e : Expr) : Prop := ∀ whole, isTrue e X.env whole = (do let v ← whole; standAt e.pos; holding [v] (truthy v))
section
variable {X : Cx} {W : WX} {a b c e : Expr} {pos : Pos} {ma mb mc : TX}
theorem s_truth (ha : PE X a (eOf X W ma)) (he : PlainT X a) : PT X a (cOf X W ma) := PT_le (pt_truth ha he) fun σ H Q ⟨env, h, Q0, X0, n, q, hq⟩ =>
  ⟨env, h, _, X0, n, q, fun r h1 v1 H1 ⟨k, e, q1⟩ t1 r1 p1 => ⟨k, tru_V r1 p1.opd e, hq k h1 H1 q1 t1 r1⟩⟩
theorem s_lit {d : D} {v : V} (g : PE X a (tC v)) (hd : ∀ H, Rep X.K X.mg H v d) : PE X a (eOf X W (xLit d)) := PE_le g fun σ H Q ⟨env, h, Q0, X0, n, q, hq⟩ =>
  hq _ _ _ _ q .refl n.rel (hd H)
theorem s_var {i : Nat} (g : PE X a (tVar i)) : PE X a (eOf X W (xVar i)) := PE_le g fun σ H Q ⟨env, h, Q0, X0, n, ⟨d, e, q⟩, hq⟩ =>
  let ⟨v, e1, r⟩ := n.rs.lk e
  ⟨v, e1, hq _ _ _ _ q .refl n.rel r⟩
theorem s_bin (op : Bop) (ha : PE X a (eOf X W ma)) (hb : PE X b (eOf X W mb)) : PE X (.BinOp a (opOf op) b pos) (eOf X W (xBin op ma mb)) :=
  PE_le (pe_op (bin_ok op) ha hb) fun σ H Q ⟨env, h, Q0, X0, n, q, hq⟩ => ⟨env, h, _, X0, n, q, fun x h1 v1 H1 q1 t1 r1 p1 =>
    ⟨env, h1, _, X0, n.go t1 r1, q1, fun y h2 v2 H2 ⟨r, e, q2⟩ t2 r2 p2 => ⟨h2, x, y, r, r2, opd2 p1 t2 r1, p2.opd, e, aft_of hq (t1.trans t2) r2 q2⟩⟩⟩
theorem s_neg (ha : PE X a (eOf X W ma)) : PE X (.UnaryOp .USub a pos) (eOf X W (xNeg ma)) :=
  PE_le (pe_un un_neg ha) fun σ H Q ⟨env, h, Q0, X0, n, q, hq⟩ => ⟨env, h, _, X0, n, q, fun x h1 v1 H1 ⟨i, e, q1⟩ t1 r1 p1 => by
    unfold asInt at e
    split at e
    · cases e
      cases p1
      exact ⟨_, rfl, hq _ _ _ _ q1 t1 r1 (.int _)⟩
    · cases e⟩
theorem s_cmp (hu : X.A.units + 65 < cLine) (op : Cop) (ha : PE X a (eOf X W ma)) (hb : PE X b (eOf X W mb)) (hm : behindInMarks (copOf op) b = false) :
    PE X (.Compare a [copOf op] [b] pos) (eOf X W (xCmp op ma mb)) ∧ PT X (.Compare a [copOf op] [b] pos) (cOf X W (xCmp op ma mb)) := by
  constructor
  · exact PE_le (pe_cmpR (cmp_ok hu op) ha hb hm) fun σ H Q ⟨env, h, Q0, X0, n, q, hq⟩ => ⟨env, h, _, X0, n, q, fun x h1 v1 H1 q1 t1 r1 p1 =>
      ⟨env, h1, _, X0, n.go t1 r1, q1, fun y h2 v2 H2 ⟨k, e, q2⟩ t2 r2 p2 => ⟨h2, x, y, k, r2, opd2 p1 t2 r1, p2.opd, e, hq _ _ _ _ q2 (t1.trans t2) r2 (.bl k)⟩⟩⟩
  · exact PT_le (pt_cmpR (cmp_ok hu op) ha hb hm) fun σ H Q ⟨env, h, Q0, X0, n, q, hq⟩ => ⟨env, h, _, X0, n, q, fun x h1 v1 H1 q1 t1 r1 p1 =>
      ⟨env, h1, _, X0, n.go t1 r1, q1, fun y h2 v2 H2 ⟨k, e, k', e', q2⟩ t2 r2 p2 => ⟨h2, x, y, k, r2, opd2 p1 t2 r1, p2.opd, e, k, rfl, by
        have e2 : some k = some k' := e'
        cases e2
        exact hq _ _ _ q2 (t1.trans t2) r2⟩⟩⟩
theorem s_chain (hu : X.A.units + 65 < cLine) (o1 o2 : Cop) (ha : PE X a (eOf X W ma)) (hb : PE X b (eOf X W mb)) (hc : PE X c (eOf X W mc)) (hm : lastMarks [copOf o1, copOf o2] [b, c] = false) :
    PE X (.Compare a [copOf o1, copOf o2] [b, c] pos) (eOf X W (xChain o1 o2 ma mb mc)) ∧ PT X (.Compare a [copOf o1, copOf o2] [b, c] pos) (cOf X W (xChain o1 o2 ma mb mc)) := by
  constructor
  · exact PE_le (pe_chain (cmp_ok hu o1) (cmp_ok hu o2) ha hb hc hm) fun σ H Q ⟨env, h, Q0, X0, n, q, hq⟩ => ⟨env, h, _, X0, n, q, fun x h1 v1 H1 q1 t1 r1 p1 =>
      ⟨env, h1, _, X0, n.go t1 r1, q1, fun y h2 v2 H2 ⟨k, e, q2⟩ t2 r2 p2 => ⟨h2, x, y, k, r2, opd2 p1 t2 r1, p2.opd, e, k, rfl, by
        cases k with
        | false => exact hq _ _ _ _ q2 (t1.trans t2) r2 (.bl false)
        | true => exact ⟨env, h2, _, X0, (n.go t1 r1).go t2 r2, q2, fun z h3 v3 H3 ⟨k2, e2, q3⟩ t3 r3 p3 => ⟨h3, y, z, k2, r3, opd2 p2 t3 r2, p3.opd, e2, hq _ _ _ _ q3 ((t1.trans t2).trans t3) r3 (.bl k2)⟩⟩⟩⟩⟩
  · exact PT_le (pt_chain (cmp_ok hu o1) (cmp_ok hu o2) ha hb hc hm) fun σ H Q ⟨env, h, Q0, X0, n, q, hq⟩ => ⟨env, h, _, X0, n, q, fun x h1 v1 H1 q1 t1 r1 p1 =>
      ⟨env, h1, _, X0, n.go t1 r1, q1, fun y h2 v2 H2 ⟨k, e, q2⟩ t2 r2 p2 => ⟨h2, x, y, k, r2, opd2 p1 t2 r1, p2.opd, e, k, rfl, by
        cases k with
        | false =>
          obtain ⟨k', e', q2⟩ := q2
          cases (show some false = some k' from e')
          exact ⟨false, rfl, hq _ _ _ q2 (t1.trans t2) r2⟩
        | true => exact ⟨env, h2, _, X0, (n.go t1 r1).go t2 r2, q2, fun z h3 v3 H3 ⟨k2, e2, k', e', q3⟩ t3 r3 p3 => ⟨h3, y, z, k2, r3, opd2 p2 t3 r2, p3.opd, e2, k2, rfl, by
            cases (show some k2 = some k' from e')
            exact hq _ _ _ q3 ((t1.trans t2).trans t3) r3⟩⟩⟩⟩⟩
theorem s_isc (neg : Bool) (d : D) {v : V} (ha : PE X a (eOf X W ma)) (hb : PE X b (tC v)) (hd : ∀ H, Rep X.K X.mg H v d) :
    PE X (.Compare a [if neg then .IsNot else .Is] [b] pos) (eOf X W (xIsc neg ma d)) ∧ PT X (.Compare a [if neg then .IsNot else .Is] [b] pos) (cOf X W (xIsc neg ma d)) := by
  have hm : behindInMarks (if neg then .IsNot else .Is) b = false := by cases neg <;> exact nomark b
  constructor
  · exact PE_le (pe_cmpR (is_ok d neg) ha hb hm) fun σ H Q ⟨env, h, Q0, X0, n, q, hq⟩ => ⟨env, h, _, X0, n, q, fun x h1 v1 H1 ⟨k, e, q1⟩ t1 r1 p1 =>
      ⟨h1, x, k, r1, p1.opd, hd _, e, hq _ _ _ _ q1 t1 r1 (.bl _)⟩⟩
  · exact PT_le (pt_cmpR (is_ok d neg) ha hb hm) fun σ H Q ⟨env, h, Q0, X0, n, q, hq⟩ => ⟨env, h, _, X0, n, q, fun x h1 v1 H1 ⟨k, e, k', e', q1⟩ t1 r1 p1 =>
      ⟨h1, x, k, r1, p1.opd, hd _, e, _, rfl, by
        cases (show some (k != neg) = some k' from e')
        exact hq _ _ _ q1 t1 r1⟩⟩
theorem s_not (ha : PE X a (eOf X W ma) ∧ PT X a (cOf X W ma)) : PE X (.UnaryOp .Not a pos) (eOf X W (xNot ma)) ∧ PT X (.UnaryOp .Not a pos) (cOf X W (xNot ma)) := by
  constructor
  · exact PE_le (pe_notT ha.1) fun σ H Q ⟨env, h, Q0, X0, n, q, hq⟩ => ⟨env, h, _, X0, n, q, fun x h1 v1 H1 ⟨k, e, q1⟩ t1 r1 p1 => ⟨k, tru_V r1 p1.opd e, hq _ _ _ _ q1 t1 r1 (.bl _)⟩⟩
  · exact PT_le (pt_not ha.2) fun σ H Q ⟨env, h, Q0, X0, n, q, hq⟩ => ⟨env, h, fun k h1 => Q0 (!k) h1, X0, n, by
      simp only [tT, xNot, tru, gd_some] at q ⊢
      exact q, fun k h1 H1 q1 t1 r1 => hq _ _ _ q1 t1 r1⟩
theorem s_ite (hm : MX ma) (hm' : MX mb) (hc : PT X c (cOf X W mc)) (ha : PE X a (eOf X W ma) ∧ PT X a (cOf X W ma)) (hb : PE X b (eOf X W mb) ∧ PT X b (cOf X W mb)) : PE X (.IfExp c a b pos) (eOf X W (xIte mc ma mb)) ∧ PT X (.IfExp c a b pos) (cOf X W (xIte mc ma mb)) := by
  constructor
  · exact PE_le (pe_ifExp hc ha.1 hb.1) fun σ H Q ⟨env, h, Q0, X0, n, q, hq⟩ => ⟨env, h, _, X0, n, q, fun k h1 H1 q1 t1 r1 => by
      cases k with
      | true => exact ⟨env, h1, Q0, X0, n.go t1 r1, q1, fun r h2 v2 H2 q2 t2 r2 p2 => hq r h2 v2 H2 q2 (t1.trans t2) r2 (p2.back t1.grow)⟩
      | false => exact ⟨env, h1, Q0, X0, n.go t1 r1, q1, fun r h2 v2 H2 q2 t2 r2 p2 => hq r h2 v2 H2 q2 (t1.trans t2) r2 (p2.back t1.grow)⟩⟩
  · refine ⟨fun pins s σ H Q I ⟨env, h, Q0, X0, n, q, hq⟩ => ?_⟩
    refine isTrue_IfExp (thn (hc.run pins s σ H (fun k H1 => (if k = true then cOf X W ma else cOf X W mb) σ H1 Q) I ⟨env, h, _, X0, n, q, fun k h1 H1 q1 t1 r1 => ?_⟩) fun d s1 ⟨H1, I1, q1⟩ => ?_)
    · cases k with
      | true => exact ⟨env, h1, Q0, X0, n.go t1 r1, q1, fun r h2 H2 q2 t2 r2 => hq r h2 H2 q2 (t1.trans t2) r2⟩
      | false => exact ⟨env, h1, Q0, X0, n.go t1 r1, q1, fun r h2 H2 q2 t2 r2 => hq r h2 H2 q2 (t1.trans t2) r2⟩
    · cases d with
      | true => exact ha.2.run pins s1 σ H1 Q I1 q1
      | false => exact hb.2.run pins s1 σ H1 Q I1 q1
theorem s_one {op : BoolOp} (ha : PE X a (eOf X W ma) ∧ PT X a (cOf X W ma)) : PE X (.BoolOp op [a] pos) (eOf X W ma) ∧ PW X (.BoolOp op [a] pos) (cOf X W ma) := by
  constructor
  · exact pe_one ha.1
  · cases op with
    | And => exact pw_and1 ha.2
    | Or => exact pw_or1 ha.2
theorem s_and {rest : List Expr} (mm : MX ma) (ha : PE X a (eOf X W ma) ∧ PT X a (cOf X W ma)) (hb : PE X (.BoolOp .And (b :: rest) pos) (eOf X W mb) ∧ PW X (.BoolOp .And (b :: rest) pos) (cOf X W mb)) :
    PE X (.BoolOp .And (a :: b :: rest) pos) (eOf X W (xAnd ma mb)) ∧ PW X (.BoolOp .And (a :: b :: rest) pos) (cOf X W (xAnd ma mb)) := by
  constructor
  · exact PE_le (pe_andT ha.1 hb.1) fun σ H Q ⟨env, h, Q0, X0, n, q, hq⟩ => ⟨env, h, _, X0, n, q, fun x h1 v1 H1 ⟨k, e, q1⟩ t1 r1 p1 => ⟨k, tru_V r1 p1.opd e, by
      cases k with
      | true => exact ⟨env, h1, Q0, X0, n.go t1 r1, q1, fun r h2 v2 H2 q2 t2 r2 p2 => hq r h2 v2 H2 q2 (t1.trans t2) r2 (p2.back t1.grow)⟩
      | false => exact hq _ _ _ _ q1 t1 r1 p1⟩⟩
  · exact PW_le (pw_and ha.2 hb.2) fun σ H Q ⟨env, h, Q0, X0, n, q, hq⟩ => ⟨env, h, fun k h1 => if k = true then tT mb env h1 Q0 X0 else Q0 false h1, X0, n, by
      refine mm _ _ _ _ _ _ (fun x h1 q => ?_) (fun _ _ z => z) q
      obtain ⟨k, e, q⟩ := q
      refine ⟨k, e, ?_⟩
      cases k with
      | true => exact q
      | false =>
        obtain ⟨k', e', q⟩ := q
        rw [e] at e'
        cases e'
        exact q, fun k h1 H1 q1 t1 r1 => by
      cases k with
      | true => exact ⟨env, h1, Q0, X0, n.go t1 r1, q1, fun r h2 H2 q2 t2 r2 => hq r h2 H2 q2 (t1.trans t2) r2⟩
      | false => exact hq _ _ _ q1 t1 r1⟩
theorem s_or {rest : List Expr} (mm : MX ma) (ha : PE X a (eOf X W ma) ∧ PT X a (cOf X W ma)) (hb : PE X (.BoolOp .Or (b :: rest) pos) (eOf X W mb) ∧ PW X (.BoolOp .Or (b :: rest) pos) (cOf X W mb)) :
    PE X (.BoolOp .Or (a :: b :: rest) pos) (eOf X W (xOr ma mb)) ∧ PW X (.BoolOp .Or (a :: b :: rest) pos) (cOf X W (xOr ma mb)) := by
  constructor
  · exact PE_le (pe_orT ha.1 hb.1) fun σ H Q ⟨env, h, Q0, X0, n, q, hq⟩ => ⟨env, h, _, X0, n, q, fun x h1 v1 H1 ⟨k, e, q1⟩ t1 r1 p1 => ⟨k, tru_V r1 p1.opd e, by
      cases k with
      | false => exact ⟨env, h1, Q0, X0, n.go t1 r1, q1, fun r h2 v2 H2 q2 t2 r2 p2 => hq r h2 v2 H2 q2 (t1.trans t2) r2 (p2.back t1.grow)⟩
      | true => exact hq _ _ _ _ q1 t1 r1 p1⟩⟩
  · exact PW_le (pw_or ha.2 hb.2) fun σ H Q ⟨env, h, Q0, X0, n, q, hq⟩ => ⟨env, h, fun k h1 => if k = true then Q0 true h1 else tT mb env h1 Q0 X0, X0, n, by
      refine mm _ _ _ _ _ _ (fun x h1 q => ?_) (fun _ _ z => z) q
      obtain ⟨k, e, q⟩ := q
      refine ⟨k, e, ?_⟩
      cases k with
      | false => exact q
      | true =>
        obtain ⟨k', e', q⟩ := q
        rw [e] at e'
        cases e'
        exact q, fun k h1 H1 q1 t1 r1 => by
      cases k with
      | false => exact ⟨env, h1, Q0, X0, n.go t1 r1, q1, fun r h2 H2 q2 t2 r2 => hq r h2 H2 q2 (t1.trans t2) r2⟩
      | true => exact hq _ _ _ q1 t1 r1⟩
/-! ### arguments -/
/-- a made object becomes known -/
theorem rv_take {K : PySem.W.Frag} {M : Str → Option Value} {h0 h : AH} {H0 H : Hp} {v : V} {r : Rv} {Q0 : D → AH → Prop} (q : rv r h Q0) (t : Tr h0 H0 h H) (rel : RelH K M h H) (p : RepR K M H0 h H v r) :
    ∃ d h', Q0 d h' ∧ Tr h0 H0 h' H ∧ RelH K M h' H ∧ Rep K M H v d := by
  cases r with
  | v d => exact ⟨d, h, q, t, rel, p⟩
  | o x =>
    obtain ⟨a, rfl, n0, n, ro⟩ := p
    exact ⟨.loc a, put h a x, q a n, t.take n0, rel.take ro, .loc a⟩
theorem s_nil : PA X [] (aOf X W esNil) := PA_le pa_nil fun σ H Q ⟨env, h, Q0, X0, n, q, hq⟩ => hq _ _ _ _ q .refl n.rel .nil
theorem s_cons {es : List Expr} {ms : TEs} (ha : PE X a (eOf X W ma)) (hs : PA X es (aOf X W ms)) (hst : starEach (a :: es) X.env = (false, eval a X.env) :: starEach es X.env) : PA X (a :: es) (aOf X W (esCons ma ms)) :=
  PA_le (pa_cons ha hs hst) fun σ H Q ⟨env, h, Q0, X0, n, q, hq⟩ => ⟨env, h, _, X0, n, q, fun r h1 v1 H1 q1 t1 r1 p1 => by
    obtain ⟨d, h1', q1, t1', r1', p1'⟩ := rv_take q1 t1 r1 p1
    exact ⟨env, h1', _, X0, n.go t1' r1', q1, fun ds h2 vs H2 q2 t2 r2 p2 => hq _ _ _ _ q2 (t1'.trans t2) r2 (.cons (p1'.mono (t2.mn r1')) p2)⟩⟩
theorem s_tup {es : List Expr} {ms : TEs} {k : Nat} (hs : PA X es (aOf X W ms)) : PE X (.Tuple es k pos) (eOf X W (xTup ms)) :=
  PE_le (pe_tupX hs) fun σ H Q ⟨env, h, Q0, X0, n, q, hq⟩ => ⟨env, h, _, X0, n, q, fun ds h1 vs H1 ⟨z, q1⟩ t1 r1 p1 =>
    ⟨by rw [p1.length, sizeLine_eq]; exact z, Aft.newT (ds := ds) (aft_of hq t1 r1 q1) r1 p1⟩⟩
theorem s_lst {es : List Expr} {ms : TEs} (hs : PA X es (aOf X W ms)) : PE X (.List es pos) (eOf X W (xLst ms)) :=
  PE_le (pe_lst hs) fun σ H Q ⟨env, h, Q0, X0, n, q, hq⟩ => ⟨env, h, _, X0, n, q, fun ds h1 vs H1 ⟨z, q1⟩ t1 r1 p1 =>
    ⟨by rw [p1.length, sizeLine_eq]; exact z, fun p hp => Aft.newL (ds := ds) (aft_of hq t1 r1 q1) r1 hp p1⟩⟩
/-- one argument -/
theorem s_call1 {id : Value} {b : Bi} {r : List V → Hp → VK → Prop} {f : Expr} (hr : ∀ xs H Q, bi1 X.K X.mg b xs H Q → r xs H Q) (g : ∀ t : L2.TA, PA X [a] t → PE X f (tCB r t)) (ha : PE X a (eOf X W ma)) (hst : starEach [a] X.env = (false, eval a X.env) :: starEach [] X.env) :
    PE X f (eOf X W (xB1 b ma)) :=
  PE_le (g _ (pa_cons ha pa_nil hst)) fun σ H Q ⟨env, h, Q0, X0, n, q, hq⟩ => ⟨env, h, _, X0, n, q, fun x h1 v1 H1 ⟨r, e, q1⟩ t1 r1 p1 => hr _ _ _ ⟨v1, h1, x, r, rfl, r1, p1.opd, e, aft_of hq t1 r1 q1⟩⟩
theorem s_ix (ha : PE X a (eOf X W ma)) (hb : PE X b (eOf X W mb)) (hs : PlainIx b) : PE X (.Subscript a b pos) (eOf X W (xIx ma mb)) :=
  PE_le (pe_ix ix_ok ha hb hs) fun σ H Q ⟨env, h, Q0, X0, n, q, hq⟩ => ⟨env, h, _, X0, n, q, fun x h1 v1 H1 q1 t1 r1 p1 =>
    ⟨env, h1, _, X0, n.go t1 r1, q1, fun y h2 v2 H2 ⟨d, e, q2⟩ t2 r2 p2 => ⟨h2, x, y, d, r2, opd2 p1 t2 r1, p2.opd, e, fun v pv => hq _ _ _ _ q2 (t1.trans t2) r2 pv⟩⟩⟩
theorem s_oNo : PO X none (oOf X W oNo) := PO_le po_none fun σ H Q ⟨env, h, Q0, X0, n, q, hq⟩ => hq _ _ _ q .refl n.rel
theorem s_oSo (ha : PE X a (eOf X W ma)) : PO X (some a) (oOf X W (oSo ma)) := PO_le (po_some ha) fun σ H Q ⟨env, h, Q0, X0, n, q, hq⟩ => ⟨env, h, _, X0, n, q, fun x h1 v1 H1 ⟨i, e, q1⟩ t1 r1 p1 => by
    unfold asInt at e
    split at e
    · cases e
      cases p1
      exact ⟨_, rfl, hq _ _ _ q1 t1 r1⟩
    · cases e⟩
theorem s_sl {lo hi : Option Expr} {ml mh : TO} {p2 : Pos} (ha : PE X a (eOf X W ma)) (hl : PO X lo (oOf X W ml)) (hh : PO X hi (oOf X W mh)) : PE X (.Subscript a (.Slice lo hi none p2) pos) (eOf X W (xSl ma ml mh)) :=
  PE_le (pe_slice sl_ok ha hl hh) fun σ H Q ⟨env, h, Q0, X0, n, q, hq⟩ => ⟨env, h, _, X0, n, q, fun x h1 v1 H1 q1 t1 r1 p1 =>
    ⟨env, h1, _, X0, n.go t1 r1, q1, fun l h2 H2 q2 t2 r2 => ⟨env, h2, _, X0, (n.go t1 r1).go t2 r2, q2, fun u h3 H3 ⟨r, e, q3⟩ t3 r3 =>
      ⟨h3, x, r, r3, opd2 p1 (t2.trans t3) r1, e, aft_of hq ((t1.trans t2).trans t3) r3 q3⟩⟩⟩⟩
theorem s_sls {lo hi : Option Expr} {sp : Expr} {k : Int} {ml mh : TO} {p2 : Pos} (hk : stN sp = some k) (ha : PE X a (eOf X W ma)) (hl : PO X lo (oOf X W ml)) (hh : PO X hi (oOf X W mh)) : PE X (.Subscript a (.Slice lo hi (some sp) p2) pos) (eOf X W (xSls ma ml mh k)) :=
  PE_le (pe_sls hk ha hl hh) fun σ H Q ⟨env, h, Q0, X0, n, q, hq⟩ => ⟨env, h, _, X0, n, q, fun x h1 v1 H1 q1 t1 r1 p1 =>
    ⟨env, h1, _, X0, n.go t1 r1, q1, fun l h2 H2 q2 t2 r2 => ⟨env, h2, _, X0, (n.go t1 r1).go t2 r2, q2, fun u h3 H3 ⟨r, e, q3⟩ t3 r3 =>
      sls_ok r3 (opd2 p1 (t2.trans t3) r1) e (aft_of hq ((t1.trans t2).trans t3) r3 q3)⟩⟩⟩
end
end Py
namespace Py
open L2 PySem.Spec PySem PyProof.Rows
/-! ### shapes that no step minds -/
def plainE : Expr → Bool
  | .Starred .. => false
  | .Slice .. => false
  | .Set .. => false
  | .Call (.Name x _) _ _ _ => okN x
  | _ => true
theorem plain_star {e : Expr} (h : plainE e = true) (es : List Expr) (env : PySem.Env) : starEach (e :: es) env = (false, eval e env) :: starEach es env := by
  cases e <;> first | rfl | cases h
theorem plain_ix {e : Expr} (h : plainE e = true) : PlainIx e := by
  intro o i
  cases e <;> first | rfl | cases h
theorem plain_mark {e : Expr} (h : plainE e = true) (op : CmpOp) : behindInMarks op e = false := by
  cases e <;> first | rfl | cases h
theorem plain_fold {e : Expr} (h : plainE e = true) (env : PySem.Env) (x : Value) : foldedSetIterable e env x = pure x := by
  cases e <;> first | rfl | cases h
theorem plain_base {e : Expr} (h : plainE e = true) (m : Str) (env : PySem.Env) : attributeBase e m env (eval e env) = eval e env := by
  unfold attributeBase
  split
  · rename_i id np pos
    have h1 : okN id = true := h
    have h2 : (id != "super") = true := by
      unfold okN at h1
      simp only [Bool.and_eq_true]
          at h1
      exact h1.1.1.1
    simp only [h2, Bool.true_or, if_true]
  · rfl
theorem star_all {es : List Expr} (h : ∀ e ∈ es, plainE e = true) (env : PySem.Env) : ∀ x ∈ starEach es env, x.1 = false := by
  induction es with
  | nil => intro x hx; cases hx
  | cons e es ih =>
    rw [plain_star (h e List.mem_cons_self)]
    intro x hx
    cases hx with
    | head => rfl
    | tail _ hx => exact ih (fun e he => h e (List.mem_cons_of_mem _ he)) x hx
theorem back_any {es : List Expr} (h : ∀ e ∈ es, plainE e = true) (env : PySem.Env) (pos : Pos) : (backTo pos (starEach es env)).any (·.1) = false := by
  rw [List.any_eq_false]
  intro x hx
  obtain ⟨y, hy, rfl⟩ :=
      List.mem_map.mp hx
  simp [star_all h env y hy]
theorem back_few {es : List Expr} (h : ∀ e ∈ es, plainE e = true) (env : PySem.Env) (pos : Pos) (hl : es.length < 30) : ((backTo pos (starEach es env)).all (fun x => !x.1) && (backToKw pos (keywordEach [] env)).all (fun x => x.1.isSome)
      && decide (es.length + ([] : List Keyword).length + (if ([] : List Keyword).isEmpty then 0 else 1) < 30)) = true := by
  have h1 : (backTo pos (starEach es env)).all (fun x => !x.1) = true := by
    rw [List.all_eq_true]
    intro x hx
    obtain ⟨y, hy, rfl⟩ :=
        List.mem_map.mp hx
    simp [star_all h env y hy]
  rw [h1]
  simp [keywordEach, backToKw, hl]
/-! ### calls of defs -/
def spOf (K : PySem.W.Frag) (M : Str → Option Value) (cal : Cal) (f : Str) (np : Nat) : Sp := fun vs H Q E => vs.length = np ∧ ∃ h ds Q0 X0, RelH K M h H ∧ Reps K M H vs ds ∧ cal f ds h Q0 X0 ∧
  (∀ d h' v H', Q0 d h' → Tr h H h' H' → RelH K M h' H' → Rep K M H' v d → Q v H') ∧ ∀ c h' H' d a, X0 c h' → Tr h H h' H' → RelH K M h' H' → M c = some (.ref a) → E (.ref a) d H'
/-- a def is as the abstract reading says, to n levels -/
structure FnA (pr : Program) (w : World) (K : PySem.W.Frag) (M : Str → Option Value) (base : Heap) (P : Prog) (n : Nat) (f : Str) (fa : Addr) (fd : FuncData) (ps : List Str) : Prop where
  ok : FnOk pr w K M base (L2.CX pr w) n fa fd ps (spOf K M (wC P n) f ps.length)
  np : ∀ c, P.fn f = some c → ps.length = c.np
  mg : M f = some (.ref fa)
  keep : PySem.W.keepIn K (.ref fa) = true
  binds : Binds K fd ps []
abbrev FnAt (X : Cx) : Prog → Nat → Str → Addr → FuncData → List Str → Prop := FnA X.prog X.w X.K X.mg X.base
/-- the sight of a body -/
structure Sit (P : Prog) (n : Nat) (X : Cx) (W : WX) : Prop where
  calm : X.calm = true
  nd : X.N.Nodup
  room : Room n X.A
  blt : ∀ x, bltB x = true → X.mg x = none
  glo : ∀ x d, P.gl x = some d → ∃ v u, X.mg x = some u ∧ RelV v u ∧ ∀ H, Rep X.K X.mg H v d
  fns : ∀ f, P.fn f ≠ none → ∃ fa fd ps, FnAt X P n f fa fd ps
  gfn : ∀ f, isFn P.gl f → P.fn f ≠ none
  tk : Takes X W
theorem wC_len {P : Prog} : ∀ {n : Nat} {f : Str} {ds : List D} {h : AH} {Q : D → AH → Prop} {X : Xc}, wC P n f ds h Q X → ∃ c, P.fn f = some c ∧ ds.length = c.np
  | n + 1, f, ds, h, Q, X, ⟨c, e, l, _⟩ => ⟨c, e, l⟩
section
variable {X : Cx} {W : WX} {P : Prog} {n : Nat} {f x : Str} {es : List Expr} {ms : TEs} {p pos : Pos}
theorem pe_callS0 {CX : CXT} {k : Nat} {fa : Addr} {fd : FuncData} {ps : List Str} {sp : Sp} {E : L2.St → XK} (F : FnOk X.prog X.w X.K X.mg X.base CX k fa fd ps sp) (hr : Room k X.A) (hg : Gl X x) (hm : X.mg x = some (.ref fa)) (hk : PySem.W.keepIn X.K (.ref fa) = true)
    (hb : Binds X.K fd ps []) (hx : ∀ σ, PassesAt CX X σ (E σ)) (hdb : (x == ("__debug__" : Str)) = false) : PE X (.Call (.Name x p) [] [] pos) (tCallS sp E tNil) :=
  ⟨fun pins s σ H Q I h => wpAny_Call_Name_kw (ld_glob I hg hm (PySem.W.callWith_K0 I.kIn hk (run_fnS (us := []) F hr hb (hx σ) I .nil h)) hdb)⟩
theorem Sit.sp (S : Sit P n X W) {σ : L2.St} {H H1 : Hp} {h h1 : AH} {env : Env} {X0 : Xc} {Q0 : Rv → AH → Prop} {Q : VK} {ds : List D} {vs : List V} {fa : Addr} {fd : FuncData} {ps : List Str} (F : FnAt X P n f fa fd ps)
    (nw : Now X.K X.mg W σ env h H X0) (t1 : Tr h H h1 H1) (r1 : RelH X.K X.mg h1 H1) (p1 : Reps X.K X.mg H1 vs ds) (q : wC P n f ds h1 (fun d h2 => Q0 (.v d) h2) X0)
    (hq : ∀ r h' v H', Q0 r h' → Tr h H h' H' → RelH X.K X.mg h' H' → RepR X.K X.mg H h' H' v r → Q v H') : spOf X.K X.mg (wC P n) f ps.length vs H1 Q (WE W σ) := by
  obtain ⟨c, e, l⟩ := wC_len q
  exact ⟨by rw [p1.length, l, F.np c e], h1, ds, _, X0, r1, p1, q, fun d h2 v H2 q2 t2 r2 p2 => hq _ _ _ _ q2 (t1.trans t2) r2 p2, fun c h2 H2 d a x0 t2 r2 e => nw.xo c h2 H2 d a x0 (t1.trans t2) r2 e⟩
theorem s_call (S : Sit P n X W) (hf : P.fn f ≠ none) (hg : Gl X f) (hdb : (f == ("__debug__" : Str)) = false) (hp : ∀ e ∈ es, plainE e = true) (hs : PA X es (aOf X W ms)) (h0 : es = [] → ms = esNil) :
    PE X (.Call (.Name f p) es [] pos) (eOf X W (xCall (wC P n) f ms)) := by
  obtain ⟨fa, fd, ps, F⟩ := S.fns f hf
  cases es with
  | nil =>
    rw [h0 rfl]
    exact PE_le (pe_callS0 (E := WE W) F.ok S.room hg F.mg F.keep F.binds (passAt S.tk) hdb) fun σ H Q ⟨env, h, Q0, X0, nw, q, hq⟩ => S.sp F nw .refl nw.rel .nil q hq
  | cons e es =>
    exact PE_le (pe_callS (E := WE W) F.ok S.room hg F.mg F.keep F.binds (passAt S.tk) hs hdb (plain_star (hp e List.mem_cons_self) es X.env) (back_any (fun e he => hp e (List.mem_cons_of_mem _ he)) _ _))
      fun σ H Q ⟨env, h, Q0, X0, nw, q, hq⟩ => ⟨env, h, _, X0, nw, q, fun ds h1 vs H1 q1 t1 r1 p1 => S.sp F nw t1 r1 p1 q1 hq⟩
/-- a def that a slot holds -/
theorem s_callv {i : Nat} {e : Expr} (S : Sit P n X W) (hN : X.N[i]? = some x) (hv : Vis X.env.scope x) (hdb : (x == ("__debug__" : Str)) = false) (hcd : (x == ("__classdict__" : Str)) = false) (hp : ∀ a ∈ e :: es, plainE a = true) (hs : PA X (e :: es) (aOf X W ms)) :
    PE X (.Call (.Name x p) (e :: es) [] pos) (eOf X W (xCallv (wC P n) P.gl i ms)) := by
  refine ⟨fun pins s σ H Q I ⟨env, h, Q0, X0, nw, ⟨f, ef, hG, q⟩, hq⟩ => ?_⟩
  obtain ⟨d, e1, e2⟩ := Option.bind_eq_some_iff.mp ef
  obtain ⟨v, e3, rp⟩ := nw.rs.lk e1
  have e4 : d = .fn f := by
    unfold asFn at e2
    split at e2
    · cases e2; rfl
    · cases e2
  subst e4
  cases rp with
  | @fn a _ hm =>
  refine wpAny_Call_Name_kw (thn ((pe_var (pos := p) hN hv hdb hcd).run pins s σ H (fun v H1 => v = .ref a ∧ H1 = H) I ⟨.ref a, e3, rfl, rfl⟩) fun u s1 ⟨v, H1, I1, r1, q1⟩ => ?_)
  obtain ⟨rfl, rfl⟩ := q1
  cases r1
  · obtain ⟨fa, fd, ps, F⟩ := S.fns f (S.gfn f hG)
    have ea : a = fa := by
      have := hm.symm.trans F.mg
      injection this with this
      injection this
    subst ea
    exact PySem.W.callWith_K (h₀ := X.base) I.ok.mod.kin F.keep (thn (hs.run pos pins s1 σ _ (fun vs H2 => spOf X.K X.mg (wC P n) f ps.length vs H2 Q (WE W σ)) I1 ⟨env, h, _, X0, nw, q, fun ds h1 vs H1 q1 t1 r1 p1 => S.sp F nw t1 r1 p1 q1 hq⟩)
      fun us s2 ⟨vs, H2, I2, r, q⟩ => ⟨I2.kIn, run_fnS F.ok S.room F.binds (passAt S.tk σ) I2 r q⟩) (plain_star (hp e List.mem_cons_self) es X.env) (back_any (fun e he => hp e (List.mem_cons_of_mem _ he)) _ _)
end
end Py
namespace Py
open L2 PySem.Spec PySem PyProof.Rows
/-! ### built-ins -/
section
variable {X : Cx} {W : WX} {P : Prog} {n : Nat} {x : Str} {a b c : Expr} {ma mb mc : TX} {es : List Expr} {ms : TEs} {p pos : Pos}
theorem bltG (S : Sit P n X W) (h : bltB x = true) : X.mg x = none := S.blt x h
theorem s_b1 (S : Sit P n X W) {k : Bi} (hk : b1N x = some k) (hg : Gl X x) (hp : plainE a = true) (ha : PE X a (eOf X W ma)) : PE X (.Call (.Name x p) [a] [] pos) (eOf X W (xB1 k ma)) := by
  have hst := plain_star hp [] X.env
  unfold b1N at hk
  by_cases e : x = "len"
  · subst e
    cases (show some _ = some k from hk)
    have hm := S.blt "len" (by decide +kernel)
    exact s_call1 (id := .builtin "len") (fun _ _ _ z => z) (fun t h => pe_callB len_ok hg hm (by decide +kernel) h (by decide) (by decide) hst rfl) ha hst
  rw [if_neg e] at hk
  by_cases e : x = "int"
  · subst e
    cases (show some _ = some k from hk)
    have hm := S.blt "int" (by decide +kernel)
    exact s_call1 (id := .builtin "len") (fun _ _ _ z => z) (fun t h => pe_callTy int_ok1 hg hm (by decide +kernel) h (by decide) (by decide) hst rfl) ha hst
  rw [if_neg e] at hk
  by_cases e : x = "bool"
  · subst e
    cases (show some _ = some k from hk)
    have hm := S.blt "bool" (by decide +kernel)
    exact s_call1 (id := .builtin "len") (fun _ _ _ z => z) (fun t h => pe_callTy bool_ok1 hg hm (by decide +kernel) h (by decide) (by decide) hst rfl) ha hst
  rw [if_neg e] at hk
  by_cases e : x = "str"
  · subst e
    cases (show some _ = some k from hk)
    have hm := S.blt "str" (by decide +kernel)
    exact s_call1 (id := .builtin "len") (fun _ _ _ z => z) (fun t h => pe_callTy str_ok1 hg hm (by decide +kernel) h (by decide) (by decide) hst rfl) ha hst
  rw [if_neg e] at hk
  by_cases e : x = "tuple"
  · subst e
    cases (show some _ = some k from hk)
    have hm := S.blt "tuple" (by decide +kernel)
    exact s_call1 (id := .builtin "len") (fun _ _ _ z => z) (fun t h => pe_callTy tup_ok1 hg hm (by decide +kernel) h (by decide) (by decide) hst rfl) ha hst
  rw [if_neg e] at hk
  by_cases e : x = "list"
  · subst e
    cases (show some _ = some k from hk)
    have hm := S.blt "list" (by decide +kernel)
    exact s_call1 (id := .builtin "len") (fun _ _ _ z => z) (fun t h => pe_callTy lst_ok1 hg hm (by decide +kernel) h (by decide) (by decide) hst rfl) ha hst
  rw [if_neg e] at hk
  by_cases e : x = "abs"
  · subst e
    cases (show some _ = some k from hk)
    have hm := S.blt "abs" (by decide +kernel)
    exact s_call1 (id := .builtin "len") (fun _ _ _ z => z) (fun t h => pe_callB abs_ok1 hg hm (by decide +kernel) h (by decide) (by decide) hst rfl) ha hst
  rw [if_neg e] at hk
  by_cases e : x = "any"
  · subst e
    cases (show some _ = some k from hk)
    have hm := S.blt "any" (by decide +kernel)
    exact s_call1 (id := .builtin "len") (fun _ _ _ z => z) (fun t h => pe_callB (any_ok1 S.calm) hg hm (by decide +kernel) h (by decide) (by decide) hst rfl) ha hst
  rw [if_neg e] at hk
  by_cases e : x = "all"
  · subst e
    cases (show some _ = some k from hk)
    have hm := S.blt "all" (by decide +kernel)
    exact s_call1 (id := .builtin "len") (fun _ _ _ z => z) (fun t h => pe_callB (all_ok1 S.calm) hg hm (by decide +kernel) h (by decide) (by decide) hst rfl) ha hst
  rw [if_neg e] at hk
  by_cases e : x = "sum"
  · subst e
    cases (show some _ = some k from hk)
    have hm := S.blt "sum" (by decide +kernel)
    exact s_call1 (id := .builtin "len") (fun _ _ _ z => z) (fun t h => pe_callB (sum_ok1 S.calm) hg hm (by decide +kernel) h (by decide) (by decide) hst rfl) ha hst
  rw [if_neg e] at hk
  by_cases e : x = "min"
  · subst e
    cases (show some _ = some k from hk)
    have hm := S.blt "min" (by decide +kernel)
    exact s_call1 (id := .builtin "len") (fun _ _ _ z => z) (fun t h => pe_callB (min_ok1 S.calm) hg hm (by decide +kernel) h (by decide) (by decide) hst rfl) ha hst
  rw [if_neg e] at hk
  by_cases e : x = "max"
  · subst e
    cases (show some _ = some k from hk)
    have hm := S.blt "max" (by decide +kernel)
    exact s_call1 (id := .builtin "len") (fun _ _ _ z => z) (fun t h => pe_callB (max_ok1 S.calm) hg hm (by decide +kernel) h (by decide) (by decide) hst rfl) ha hst
  rw [if_neg e] at hk
  by_cases e : x = "sorted"
  · subst e
    cases (show some _ = some k from hk)
    have hm := S.blt "sorted" (by decide +kernel)
    exact s_call1 (id := .builtin "len") (fun _ _ _ z => z) (fun t h => pe_callB sorted_ok1 hg hm (by decide +kernel) h (by decide) (by decide) hst rfl) ha hst
  rw [if_neg e] at hk
  cases hk
theorem s_b2 (S : Sit P n X W) {k : B2} (hk : b2N x = some k) (hg : Gl X x) (hp : plainE a = true) (hp' : plainE b = true) (ha : PE X a (eOf X W ma)) (hb : PE X b (eOf X W mb)) : PE X (.Call (.Name x p) [a, b] [] pos) (eOf X W (xB2 k ma mb)) := by
  have hst := plain_star hp [b] X.env
  have hst' := plain_star hp' [] X.env
  have hpl : (backTo pos (starEach [b] X.env)).any (·.1) = false := back_any (by simpa using hp') _ _
  have key : ∀ {f : Expr} {r : List V → Hp → VK → Prop}, (∀ xs H Q, (∃ x y d e r, xs = [x, y] ∧ Rep X.K X.mg H x d ∧ Rep X.K X.mg H y e ∧ b2D k d e = some r ∧ ∀ v, Rep X.K X.mg H v r → Q v H) → r xs H Q) → (∀ t : L2.TA, PA X [a, b] t → PE X f (tCB r t)) → PE X f (eOf X W (xB2 k ma mb)) := by
    intro f r hr g
    refine PE_le (g _ (pa_cons ha (pa_cons hb pa_nil hst') hst)) fun σ H Q ⟨env, h, Q0, X0, nw, q, hq⟩ => ⟨env, h, _, X0, nw, q, fun x h1 v1 H1 q1 t1 r1 p1 => ?_⟩
    obtain ⟨d, h1', q1, t1', r1', p1'⟩ := rv_take q1 t1 r1 p1
    refine ⟨env, h1', _, X0, nw.go t1' r1', q1, fun y h2 v2 H2 q2 t2 r2 p2 => ?_⟩
    obtain ⟨e, h2', ⟨r, er, q2⟩, t2', r2', p2'⟩ := rv_take q2 t2 r2 p2
    exact hr _ _ _ ⟨v1, v2, d, e, r, rfl, p1'.mono (t2'.mn r1'), p2', er, fun v pv => hq _ _ _ _ q2 (t1'.trans t2') r2' pv⟩
  unfold b2N at hk
  split at hk
  · rename_i e; subst e; cases hk
    exact key (fun _ _ _ z => z) fun t h => pe_callB (b2_ok S.calm .min) hg (S.blt _ (by decide +kernel)) (by decide +kernel) h (by decide) (by decide) hst hpl
  split at hk
  · rename_i e; subst e; cases hk
    exact key (fun _ _ _ z => z) fun t h => pe_callB (b2_ok S.calm .max) hg (S.blt _ (by decide +kernel)) (by decide +kernel) h (by decide) (by decide) hst hpl
  · cases hk
theorem s_isa (S : Sit P n X W) {t : Str} {ty : Ty} {p2 : Pos} (ht : tyN t = some ty) (hg : Gl X "isinstance") (hgt : Gl X t) (hp : plainE a = true) (ha : PE X a (eOf X W ma)) :
    PE X (.Call (.Name "isinstance" p) [a, .Name t p2] [] pos) (eOf X W (xB1 (.isa ty) ma)) := by
  have hst := plain_star hp [.Name t p2] X.env
  have hb : PE X (.Name t p2) (tC (.ty (tyOf ty))) := by
    unfold tyN at ht
    repeat' split at ht
    all_goals first
      | (cases ht; done)
      | (rename_i e; subst e; cases ht; exact pe_bltn hgt (S.blt _ (by decide +kernel)) (by decide +kernel) rfl (by decide) (by decide))
  refine PE_le (pe_callB (isa_ok ty) hg (S.blt _ (by decide +kernel)) (by decide +kernel) (pa_cons ha (pa_cons hb pa_nil rfl) hst) (by decide) (by decide) hst rfl) fun σ H Q ⟨env, h, Q0, X0, nw, q, hq⟩ =>
    ⟨env, h, _, X0, nw, q, fun x h1 v1 H1 ⟨r, e, q1⟩ t1 r1 p1 => ?_⟩
  obtain ⟨k, ek, e⟩ := Option.map_eq_some_iff.mp e
  subst e
  exact ⟨v1, h1, x, k, rfl, r1, p1.opd, ek, hq _ _ _ _ q1 t1 r1 (.bl k)⟩
/-! ### a range made a tuple or a list -/
theorem small_of {i : Int} (h : small62 i = true) : -(2 ^ 62) ≤ i ∧ i < 2 ^ 62 := by
  unfold small62 at h
  simp only [Bool.and_eq_true,
      decide_eq_true_eq] at h
  omega
theorem reps_rg {K : PySem.W.Frag} {M : Str → Option Value} {H : Hp} (i j : Int) : Reps K M H (rgV i j) (rngL i (j - i).toNat) := by
  unfold rgV rngL
  generalize (j - i).toNat = m
  have : ∀ l : List Nat, Reps K M H (l.map fun k => V.int (i + (k : Nat))) (l.map fun k => D.int (i + (k : Nat))) := fun l => by
    induction l with
    | nil => exact .nil
    | cons k l ih => exact .cons (.int _) ih
  exact this _
theorem s_rg (S : Sit P n X W) (k : Bool) {te : L2.St → Hp → (Int → Int → Hp → Prop) → Prop} {mi : TI} (hx : x = if k = true then "tuple" else "list") (hg : Gl X x) (hr : PRg X a te) (hst : starEach [a] X.env = (false, eval a X.env) :: starEach [] X.env)
    (hi : ∀ σ H Q env h Q0 X0, Now X.K X.mg W σ env h H X0 → mi env h Q0 X0 → (∀ i j h' H', Q0 (.fix (rngL i (j - i).toNat)) h' → small62 i = true → small62 j = true → Tr h H h' H' → RelH X.K X.mg h' H' → Q i j H') → te σ H Q) :
    PE X (.Call (.Name x p) [a] [] pos) (eOf X W (xRng k mi)) := by
  cases k with
  | true =>
    subst hx
    refine PE_le (pe_tupRgX S.calm hg (S.blt _ (by decide +kernel)) hr hst) fun σ H Q ⟨env, h, Q0, X0, nw, q, hq⟩ => hi _ _ _ env h _ X0 nw q fun i j h1 H1 ⟨z, q1⟩ si sj t1 r1 => ?_
    obtain ⟨a1, a2⟩ := small_of si
    obtain ⟨a3, a4⟩ := small_of sj
    have z : (rngL i (j - i).toNat).length ≤ 16777216 := z
    unfold rngL at z
    rw [List.length_map, List.length_range] at z
    exact ⟨⟨a1, a2, a3, a4, by omega⟩, Aft.newT (aft_of hq t1 r1 q1) r1 (reps_rg i j)⟩
  | false =>
    subst hx
    refine PE_le (pe_listRg S.calm hg (S.blt _ (by decide +kernel)) hr hst) fun σ H Q ⟨env, h, Q0, X0, nw, q, hq⟩ => hi _ _ _ env h _ X0 nw q fun i j h1 H1 ⟨z, q1⟩ si sj t1 r1 => ?_
    obtain ⟨a1, a2⟩ := small_of si
    obtain ⟨a3, a4⟩ := small_of sj
    have z : (rngL i (j - i).toNat).length ≤ 16777216 := z
    unfold rngL at z
    rw [List.length_map, List.length_range] at z
    exact ⟨⟨a1, a2, a3, a4, by omega⟩, fun p hp => Aft.newL (aft_of hq t1 r1 q1) r1 hp (reps_rg i j)⟩
theorem asInt_r {K : PySem.W.Frag} {M : Str → Option Value} {H0 H : Hp} {h : AH} {v : V} {r : Rv} {i : Int} (e : asInt r = some i) (p : RepR K M H0 h H v r) : v = .int i := by
  unfold asInt at e
  split at e
  · cases e
    cases p
    rfl
  · cases e
theorem s_rng1 (S : Sit P n X W) (k : Bool) {p2 pos2 : Pos} (hx : x = if k = true then "tuple" else "list") (hg : Gl X x) (hgr : Gl X "range") (hp : plainE a = true) (ha : PE X a (eOf X W ma)) : PE X (.Call (.Name x p) [.Call (.Name "range" p2) [a] [] pos2] [] pos) (eOf X W (xRng k (iR1 ma))) := by
  refine s_rg S k hx hg (prg_1 hgr (S.blt _ (by decide +kernel)) ha (plain_star hp [] _)) rfl fun σ H Q env h Q0 X0 nw q hq => ⟨env, h, _, X0, nw, q, fun r h1 v1 H1 ⟨j, e, s1, q1⟩ t1 r1 p1 => ?_⟩
  exact ⟨j, asInt_r e p1, hq 0 j h1 H1 (by rw [Int.sub_zero]; exact q1) (by decide) s1 t1 r1⟩
theorem s_rng2 (S : Sit P n X W) (k : Bool) {p2 pos2 : Pos} (hx : x = if k = true then "tuple" else "list") (hg : Gl X x) (hgr : Gl X "range") (hp : plainE a = true) (hp' : plainE b = true) (ha : PE X a (eOf X W ma)) (hb : PE X b (eOf X W mb)) :
    PE X (.Call (.Name x p) [.Call (.Name "range" p2) [a, b] [] pos2] [] pos) (eOf X W (xRng k (iR2 ma mb))) := by
  refine s_rg S k hx hg (prg_2 hgr (S.blt _ (by decide +kernel)) ha hb (plain_star hp [b] _) (plain_star hp' [] _) (back_any (by simpa using hp') _ _)) rfl fun σ H Q env h Q0 X0 nw q hq => ⟨env, h, _, X0, nw, q, fun r h1 v1 H1 ⟨i, ei, q1⟩ t1 r1 p1 =>
    ⟨env, h1, _, X0, nw.go t1 r1, q1, fun r' h2 v2 H2 ⟨j, ej, s2, q2⟩ t2 r2 p2 => ?_⟩⟩
  rw [Bool.and_eq_true] at s2
  exact ⟨i, j, asInt_r ei p1, asInt_r ej p2, hq i j h2 H2 q2 s2.1 s2.2 (t1.trans t2) r2⟩
/-! ### methods -/
theorem aft_more {K : PySem.W.Frag} {M : Str → Option Value} {Q0 : Rv → AH → Prop} {Q : VK} {h h2 h3 : AH} {H H2 : Hp} {r : Rv} (hq : ∀ r h' v H', Q0 r h' → Tr h H h' H' → RelH K M h' H' → RepR K M H h' H' v r → Q v H') (x : Tr h H h2 H2) (q : Q0 r h3) : Aft K M h2 H2 h3 Q r :=
  fun v H3 t r3 rp => hq r h3 v H3 q (x.trans t) r3 (rp.back x.grow)
theorem lt_some {x : Rv} {h : AH} (e : (ltV x h).isSome = true) : ∃ xs, ltV x h = some xs := Option.isSome_iff_exists.mp e
theorem s_mt (hu : X.A.units + 65 < cLine) {o : Expr} {mo : TX} {name : Str} {apos cpos : Pos} {m : Mt} (hm : mtN name es.length = some m) (hl : (apos.endLine == cpos.line) = true) (hpo : plainE o = true) (hp : ∀ e ∈ es, plainE e = true)
    (ho : PE X o (eOf X W mo)) (hs : PA X es (aOf X W ms)) (h0 : es = [] → ms = esNil) : PE X (.Call (.Attribute o name apos) es [] cpos) (eOf X W (xMt m mo ms)) := by
  have hb := plain_base hpo name X.env
  have ml : es.length < 30 := by
    unfold mtN at hm
    repeat' split at hm
    all_goals first
      | (cases hm; done)
      | (rename_i e; obtain ⟨_, e⟩ := e; omega)
  -- what the name is
  have key : ∀ {h1 : AH} {H1 : Hp} {v1 : V} {r : Rv}, mtChk m r h1 = true → RelH X.K X.mg h1 H1 → Opd X.K X.mg h1 H1 v1 r → ∃ T id b, IsM X T name id (rMt X.K X.mg m b) ∧ TyC X T v1 H1 ∧ b r := by
    intro h1 H1 v1 r hc rel op
    have lst : ∀ {id : String}, (ltV r h1).isSome = true → Slot "list" name id → typeOf (.builtin id) = pure (.type "method_descriptor") → MtR X id (rMt X.K X.mg m anyR) →
        ∃ T id b, IsM X T name id (rMt X.K X.mg m b) ∧ TyC X T v1 H1 ∧ b r := fun {id} e s t g => by
      obtain ⟨xs, e⟩ := lt_some e
      obtain ⟨a, vs, rfl, hv, _⟩ := opd_lt op rel e
      exact ⟨"list", id, anyR, ⟨PySem.F.plainAttrs_list, s, t, g⟩, tyC_list (SqL.of hv), trivial⟩
    unfold mtN at hm
    split at hm
    · rename_i e; obtain ⟨rfl, _⟩ := e; cases hm
      exact lst hc PySem.F.slot_list_append PySem.F.type_list_append append_ok
    split at hm
    · rename_i e; obtain ⟨rfl, _⟩ := e; cases hm
      exact lst hc PySem.F.slot_list_pop PySem.F.type_list_pop pop_ok
    split at hm
    · rename_i e; obtain ⟨rfl, _⟩ := e; cases hm
      exact lst hc PySem.F.slot_list_pop PySem.F.type_list_pop popi_ok
    split at hm
    · rename_i e; obtain ⟨rfl, _⟩ := e; cases hm
      obtain ⟨xs, hc⟩ := Option.isSome_iff_exists.mp (show (sqV r h1).isSome = true from hc)
      by_cases ht : isTupR r
      · obtain ⟨ys, rfl⟩ := ht
        cases op with
        | tup sd _ => exact ⟨"tuple", _, isTupR, ⟨PySem.F.plainAttrs_tuple, PySem.F.slot_tuple_index, PySem.F.type_tuple_index, index_tup_ok hu⟩, tyC_tup sd, _, rfl⟩
      · have nt : notTupR r := fun ys e => ht ⟨ys, e⟩
        have hc' : lsV r h1 = some xs := by
          unfold sqV at hc
          split at hc
          · exact absurd rfl (nt _)
          · exact hc
        obtain ⟨a, vs, rfl, sl, _⟩ := opd_ls op rel hc'
        exact ⟨"list", _, notTupR, ⟨PySem.F.plainAttrs_list, PySem.F.slot_list_index, PySem.F.type_list_index, index_list_ok hu⟩, tyC_list sl, nt⟩
    split at hm
    · rename_i e; obtain ⟨rfl, _⟩ := e; cases hm
      exact lst hc PySem.F.slot_list_reverse PySem.F.type_list_reverse reverse_ok
    split at hm
    · rename_i e; obtain ⟨rfl, _⟩ := e; cases hm
      exact lst hc PySem.F.slot_list_extend PySem.F.type_list_extend extend_ok
    split at hm
    · rename_i e; obtain ⟨rfl, _⟩ := e; cases hm
      exact lst hc PySem.F.slot_list_insert PySem.F.type_list_insert insert_ok
    · cases hm
  cases es with
  | nil =>
    rw [h0 rfl]
    refine PE_le (pe_mtG0 ho hb hl) fun σ H Q ⟨env, h, Q0, X0, nw, q, hq⟩ => ⟨env, h, _, X0, nw, q, fun r h1 v1 H1 ⟨hc, q1⟩ t1 r1 p1 => ?_⟩
    obtain ⟨T, id, b, im, ty, br⟩ := key hc r1 p1.opd
    obtain ⟨p, ep, q1⟩ := q1
    exact ⟨T, id, _, im, ty, h1, r, [], p, r1, p1.opd, br, .nil, ep, aft_more hq t1 q1⟩
  | cons e es =>
    refine PE_le (pe_mtG ho hs hb hl (back_few hp _ _ ml) (plain_star (hp e List.mem_cons_self) es X.env) (back_any (fun e he => hp e (List.mem_cons_of_mem _ he)) _ _)) fun σ H Q ⟨env, h, Q0, X0, nw, q, hq⟩ =>
      ⟨env, h, _, X0, nw, q, fun r h1 v1 H1 ⟨hc, q1⟩ t1 r1 p1 => ?_⟩
    obtain ⟨T, id, b, im, ty, br⟩ := key hc r1 p1.opd
    refine ⟨T, id, _, im, ty, env, h1, _, X0, nw.go t1 r1, q1, fun ds h2 vs H2 ⟨p, ep, q2⟩ t2 r2 p2 => ?_⟩
    exact ⟨h2, r, ds, p, r2, opd2 p1 t2 r1, br, p2, ep, aft_more hq (t1.trans t2) q2⟩
end
end Py
namespace Py
open L2 PySem.Spec PySem PyProof.Rows
/-! ### targets -/
theorem slot_at {N : List Str} {x : Str} {i : Nat} (h : slot N x = some i) : N[i]? = some x := by
  unfold slot at h
  rw [List.findIdx?_eq_some_iff_getElem] at h
  obtain ⟨hl, he, _⟩ := h
  rw [List.getElem?_eq_getElem hl]
  congr
  exact eq_of_beq he
section
variable {X : Cx} {p : Nat → Bool} {es : List Expr}
theorem each_len (es : List Expr) (env : PySem.Env) : (assignEach es env).length = es.length := by
  induction es with
  | nil => rfl
  | cons e es ih =>
    cases e <;> (show (_ :: assignEach es env).length = _; rw [List.length_cons, List.length_cons, ih])
theorem g_or {e : Expr} {t u : L2.TG} (h : PG X e t) (h' : PG X e u) : PG X e (fun v σ H Q => t v σ H Q ∨ u v σ H Q) :=
  ⟨fun pins s σ H v w Q I r q => q.elim (h.run pins s σ H v w Q I r) (h'.run pins s σ H v w Q I r)⟩
theorem ag_refl {σ : L2.St} : Ag p σ σ := ⟨rfl, fun _ _ => rfl⟩
theorem Ag.trans {σ τ ρ : L2.St} (a : Ag p σ τ) (b : Ag p τ ρ) : Ag p σ ρ := ⟨b.1.trans a.1, fun i h => (b.2 i h).trans (a.2 i h)⟩
theorem s_nm {x : Str} {i : Nat} {pos : Pos} (nd : X.N.Nodup) (hi : X.N[i]? = some x) (hx : Loc X.env.scope x) (hf : X.fn x = true ∨ X.env.scope.names.lookup x = some .local) (hp : p i = true) : PG X (.Name x pos) (gOf X p (gNm i)) :=
  PG_le (pg_name nd hi hx hf) fun v σ H Q ⟨d, env, h, Q0, rel, rs, rp, q, hq⟩ => hq _ _ _ _ q .refl rel (rs.set rp i) ⟨List.length_set, fun j hj => List.getElem?_set_ne (fun e => by rw [← e, hp] at hj; cases hj)⟩
theorem s_tp {k : Nat} {pos : Pos} {m : TGs} (hc : X.calm = true) (hl : ∀ ds env h q, m ds env h q → ds.length = es.length) (h : PGs X es (tgsOf X.K X.mg p m)) (hst : (assignEach es X.env).findIdx? (·.1) = none) : PG X (.Tuple es k pos) (gOf X p (gTp m)) :=
  PG_le (g_or (pg_tup (n := es.length) hc h (each_len _ _) hst) (pg_lst (n := es.length) hc h (each_len _ _) hst)) fun v σ H Q ⟨d, env, h, Q0, rel, rs, rp, ⟨xs, e, q⟩, hq⟩ => by
    obtain ⟨a, vs, rfl, hs, hr⟩ := opd_sq (r := .v d) (v := v) rp rel e
    have hl' : vs.length = es.length := by rw [hr.length]; exact hl _ _ _ _ q
    rcases hs with hs | hs
    · exact .inr ⟨a, vs, rfl, hs, hl', xs, env, h, Q0, rel, rs, hr, q, hq⟩
    · exact .inl ⟨a, vs, rfl, hs.sq, hl', xs, env, h, Q0, rel, rs, hr, q, hq⟩
theorem s_tnil : PGs X [] (tgsOf X.K X.mg p gNil) := ⟨fun pins s σ H vs us Q I r ⟨ds, env, h, Q0, rel, rs, rp, ⟨e, q⟩, hq⟩ => pgs_nil.run pins s σ H vs us Q I r (by
  subst e
  cases rp
  exact ⟨rfl, hq _ _ _ _ q .refl rel rs ag_refl⟩)⟩
theorem s_tcons {e : Expr} {m : TG} {ms : TGs} (h1 : PG X e (gOf X p m)) (h2 : PGs X es (tgsOf X.K X.mg p ms)) (hs : (assignEach (e :: es) X.env).map (·.2) = assign e X.env :: (assignEach es X.env).map (·.2)) : PGs X (e :: es) (tgsOf X.K X.mg p (gCons m ms)) :=
  ⟨fun pins s σ H vs us Q I r ⟨ds, env, h, Q0, rel, rs, rp, q, hq⟩ => (pgs_cons h1 h2 hs).run pins s σ H vs us Q I r (by
    cases ds with
    | nil => exact q.elim
    | cons d ds =>
      cases rp with
      | @cons v vs _ _ rv rr =>
        exact ⟨v, vs, rfl, d, env, h, _, rel, rs, rv, q, fun env1 h1 σ1 H1 q1 t1 r1 s1 a1 =>
          ⟨ds, env1, h1, _, r1, s1, rr.mono (t1.mn rel), q1, fun env2 h2 σ2 H2 q2 t2 r2 s2 a2 => hq _ _ _ _ q2 (t1.trans t2) r2 s2 (a1.trans a2)⟩⟩)⟩
end
mutual
theorem tg_ex : ∀ (t : Tg) (d : D) (env : Env) (h : AH) (k : Env → AH → Prop), wTg t d env h k → ∃ e1 h1, k e1 h1
  | .nm i, d, env, h, k, q => ⟨_, _, q⟩
  | .tp ts, d, env, h, k, ⟨xs, _, q⟩ => tgs_ex ts xs env h k q
theorem tgs_ex : ∀ (ts : Tgs) (ds : List D) (env : Env) (h : AH) (k : Env → AH → Prop), wTgs ts ds env h k → ∃ e1 h1, k e1 h1
  | .nil, ds, env, h, k, q => ⟨_, _, q.2⟩
  | .cons t ts, [], env, h, k, q => q.elim
  | .cons t ts, d :: ds, env, h, k, q => let ⟨e1, h1, q1⟩ := tg_ex t d env h _ q; tgs_ex ts ds e1 h1 k q1
end
theorem tg_len : ∀ (es : List Expr) (ts : Tgs) (N : List Str) (ok : Str → Bool) (n : Nat) (ds : List D) (env : Env) (h : AH) (k : Env → AH → Prop), trT.go N ok n es = some ts → wTgs ts ds env h k → ds.length = es.length
  | [], ts, N, ok, n, ds, env, h, k, e, q => by
    unfold trT.go at e
    cases e
    rw [q.1]
    rfl
  | a :: es, ts, N, ok, n, ds, env, h, k, e, q => by
    unfold trT.go at e
    simp only [bind, Option.bind_eq_some_iff, pure, Option.some.injEq] at e
    obtain ⟨t', e1, ts', e2, rfl⟩ := e
    cases ds with
    | nil => exact q.elim
    | cons d ds =>
      obtain ⟨e1', h1, q1⟩ := tg_ex t' d env h _ q
      rw [List.length_cons, List.length_cons, tg_len es ts' N ok n ds e1' h1 k e2 q1]
/-- a target that is read is plain -/
theorem trT_star {N : List Str} {ok : Str → Bool} {n : Nat} {e : Expr} {t : Tg} (h : trT N ok n e = some t) (es : List Expr) (env : PySem.Env) : assignEach (e :: es) env = (false, assign e env) :: assignEach es env := by
  cases n with
  | zero => unfold trT at h; cases h
  | succ n =>
    unfold trT at h
    cases e <;> first | rfl | cases h
theorem s_tgt {X : Cx} {p : Nat → Bool} {N : List Str} {ok : Str → Bool} (hc : X.calm = true) (nd : X.N.Nodup) (hN : X.N = N) (hok : ∀ x, ok x = true → Loc X.env.scope x ∧ (X.fn x = true ∨ X.env.scope.names.lookup x = some .local)) :
    ∀ (n : Nat) (e : Expr) (t : Tg), trT N ok n e = some t → tgIn p t = true → PG X e (gOf X p (wTg t))
  | 0, e, t, h, _ => by unfold trT at h; cases h
  | n + 1, e, t, h, hp => by
    unfold trT at h
    split at h
    · split at h
      · rename_i x _ hx
        obtain ⟨i, hi, rfl⟩ := Option.map_eq_some_iff.mp h
        obtain ⟨h1, h2⟩ := hok _ hx
        exact s_nm nd (hN ▸ slot_at hi) h1 h2 hp
      · cases h
    · rename_i es _ _
      obtain ⟨ts, hts, rfl⟩ := Option.map_eq_some_iff.mp h
      have go : ∀ (es : List Expr) (ts : Tgs), trT.go N ok n es = some ts → tgsIn p ts = true → PGs X es (tgsOf X.K X.mg p (wTgs ts)) ∧ (assignEach es X.env).findIdx? (·.1) = none := by
        intro es
        induction es with
        | nil =>
          intro ts e hq
          unfold trT.go at e
          cases e
          exact ⟨s_tnil, rfl⟩
        | cons a es ih =>
          intro ts e hq
          unfold trT.go at e
          simp only [bind, Option.bind_eq_some_iff, pure, Option.some.injEq] at e
          obtain ⟨t', e1, ts', e2, rfl⟩ := e
          rw [tgsIn, Bool.and_eq_true] at hq
          obtain ⟨g1, g2⟩ := ih ts' e2 hq.2
          have st := trT_star e1 es X.env
          refine ⟨s_tcons (s_tgt hc nd hN hok n a t' e1 hq.1) g1 (by rw [st]; rfl), ?_⟩
          rw [st, List.findIdx?_cons]
          simp [g2]
      obtain ⟨g1, g2⟩ := go es ts hts hp
      exact s_tp hc (fun ds env h q w => tg_len es ts N ok n ds env h q hts w) g1 g2
    · cases h
mutual
theorem tgIn_all : ∀ t : Tg, tgIn (fun _ => true) t = true
  | .nm i => rfl
  | .tp ts => tgsIn_all ts
theorem tgsIn_all : ∀ t : Tgs, tgsIn (fun _ => true) t = true
  | .nil => rfl
  | .cons t ts => by rw [tgsIn, tgIn_all t, tgsIn_all ts]; rfl
end
/-! ### what is walked -/
section
variable {X : Cx} {W : WX} {P : Prog} {n : Nat} {a b c tg : Expr} {ma mb mc : TX} {p pos : Pos}
theorem pi_any {l : Expr} {tl : L2.TE} (hl : PE X l tl) : PI X tg l (fun σ H R => tl σ H fun x H1 => ∃ a, x = .ref a ∧ (((∃ xs, SqL X.K H1 a xs) ∧ R (Itl X.K a) H1) ∨ ((∃ xs, SqT X.K H1 a xs) ∧ R (Itt X.K a) H1))) := by
  refine ⟨fun pins s σ H R I w => thn (hl.run pins s σ H _ I w) fun v s1 ⟨x, H1, I1, r1, a, e, q⟩ => ?_⟩
  cases e
  cases r1
  rcases q with ⟨⟨xs, hq⟩, q⟩ | ⟨⟨xs, hq⟩, q⟩
  · obtain ⟨its, _, pl, _⟩ := I1.list hq
    exact wpAny_pyIter_list pl.isList (pi_one (tk := s1.toks) I1 _ (turn_list a _) ⟨_, Heap.get?_push_size _ rfl, rfl, rfl⟩ q)
  · obtain ⟨its, _, pl, _⟩ := I1.tuple hq
    exact wpAny_pyIter_tuple (show s1.heap.IsTuple a its.toArray from pl) (pi_one (tk := s1.toks) I1 _ (turn_tuple a _) ⟨_, Heap.get?_push_size _ rfl, rfl, rfl⟩ q)
theorem walk_l {K : PySem.W.Frag} {M : Str → Option Value} {a : Addr} {s : Src} {Hpre : Hp} {h0 : AH} {H0 : Hp} (g : ∀ h H, Kp Hpre h0 H0 h H → Mn K H0 H → RelH K M h H → s.chk h → ∃ vs, SqL K H a vs ∧ Reps K M H vs s.items) : Walks K M s (Itl K a) Hpre h0 H0 := fun h H t m r ck i => by
  obtain ⟨vs, sl, rp⟩ := g h H t m r ck
  refine ⟨fun d hd => ?_, fun hi => ⟨vs, sl, by rw [rp.length]; exact hi⟩⟩
  obtain ⟨v, hv, pv⟩ := rp.get hd
  refine ⟨⟨vs, v, sl, hv⟩, fun x H' y => ⟨y.1, ?_⟩⟩
  have := y.2 vs sl
  rw [hv] at this
  cases this
  exact pv
theorem walk_t {K : PySem.W.Frag} {M : Str → Option Value} {a : Addr} {s : Src} {Hpre : Hp} {h0 : AH} {H0 : Hp} (g : ∀ h H, Kp Hpre h0 H0 h H → Mn K H0 H → RelH K M h H → s.chk h → ∃ vs, SqT K H a vs ∧ Reps K M H vs s.items) : Walks K M s (Itt K a) Hpre h0 H0 := fun h H t m r ck i => by
  obtain ⟨vs, sl, rp⟩ := g h H t m r ck
  refine ⟨fun d hd => ?_, fun hi => ⟨vs, sl, by rw [rp.length]; exact hi⟩⟩
  obtain ⟨v, hv, pv⟩ := rp.get hd
  refine ⟨⟨vs, v, sl, hv⟩, fun x H' y => ⟨y.1, ?_⟩⟩
  have := y.2 vs sl
  rw [hv] at this
  cases this
  exact pv
theorem s_iseq (ha : PE X a (eOf X W ma)) : PI X tg a (iOf X W (iSeq ma)) := PI_le (pi_any ha) fun σ H R ⟨env, h, Q0, X0, nw, q, hq⟩ => ⟨env, h, _, X0, nw, q, fun r h1 v1 H1 ⟨s, e, q1⟩ t1 r1 p1 => by
  unfold srcOf at e
  split at e
  · cases e
    cases p1 with
    | tup sd rs => exact ⟨_, rfl, .inr ⟨⟨_, sd.sq⟩, hq _ _ _ _ q1 t1 r1 (walk_t fun h2 H2 t2 m2 r2 _ => ⟨_, (m2.t _ _ sd).sq, rs.mono m2⟩)⟩⟩
  · cases e
    cases p1 with
    | fl sd rs => exact ⟨_, rfl, .inl ⟨⟨_, sd.seq⟩, hq _ _ _ _ q1 t1 r1 (walk_l fun h2 H2 t2 m2 r2 _ => ⟨_, (m2.f _ _ sd).seq, rs.mono m2⟩)⟩⟩
  · split at e
    · rename_i ea
      cases e
      cases p1 with
      | loc _ =>
      obtain ⟨vs, hv, rs⟩ := r1 _ _ ea
      exact ⟨_, rfl, .inl ⟨⟨vs, SqL.of hv⟩, hq _ _ _ _ q1 t1 r1 (walk_l fun h2 H2 t2 m2 r2 ck => by
        obtain ⟨vs, hv, rs⟩ := r2 _ _ ck
        exact ⟨vs, SqL.of hv, rs⟩)⟩⟩
    · cases e
  · cases e
    obtain ⟨pp, rfl, n0, nn, vs, hv, rs⟩ := p1
    exact ⟨_, rfl, .inl ⟨⟨vs, SqL.of hv⟩, hq _ _ _ _ q1 t1 r1 (walk_l fun h2 H2 t2 m2 r2 ck => ⟨vs, SqL.of (t2 _ _ n0 hv nn).1, rs.mono m2⟩)⟩⟩
  · cases e⟩
theorem walk_r {K : PySem.W.Frag} {M : Str → Option Value} {i : Int} {m : Nat} {Hpre : Hp} {h0 : AH} {H0 : Hp} : Walks K M (.fix (rngL i m)) (Itr i m) Hpre h0 H0 := fun h H t _ r ck k => by
  refine ⟨fun d hd => ?_, fun hi => ?_⟩
  · simp only [Src.items, rngL, List.getElem?_map, Option.map_eq_some_iff] at hd
    obtain ⟨k', hk, rfl⟩ := hd
    obtain ⟨hl, e⟩ := List.getElem?_eq_some_iff.mp hk
    rw [List.length_range] at hl
    rw [List.getElem_range] at e
    subst e
    exact ⟨hl, fun x H' y => ⟨y.1, by rw [y.2]; exact .int _⟩⟩
  · exact show m ≤ k by simpa [Src.items, rngL] using hi
theorem walk_c {K : PySem.W.Frag} {M : Str → Option Value} {i c : Int} {m : Nat} {Hpre : Hp} {h0 : AH} {H0 : Hp} : Walks K M (.fix (rngLC i c m)) (Itc i c m) Hpre h0 H0 := fun h H t _ r ck k => by
  refine ⟨fun d hd => ?_, fun hi => ?_⟩
  · simp only [Src.items, rngLC, List.getElem?_map, Option.map_eq_some_iff] at hd
    obtain ⟨k', hk, rfl⟩ := hd
    obtain ⟨hl, e⟩ := List.getElem?_eq_some_iff.mp hk
    rw [List.length_range] at hl
    rw [List.getElem_range] at e
    subst e
    exact ⟨hl, fun x H' y => ⟨y.1, by rw [y.2]; exact .int _⟩⟩
  · exact show m ≤ k by simpa [Src.items, rngLC] using hi
theorem s_ir1 (S : Sit P n X W) (hg : Gl X "range") (hp : plainE a = true) (ha : PE X a (eOf X W ma)) : PI X tg (.Call (.Name "range" p) [a] [] pos) (iOf X W (iR1 ma)) := by
  have st := plain_star hp [] X.env
  refine PI_le (pi_range1 hg (S.blt _ (by decide +kernel)) (pa_cons ha pa_nil st) st) fun σ H R ⟨env, h, Q0, X0, nw, q, hq⟩ => ⟨env, h, _, X0, nw, q, fun r h1 v1 H1 ⟨j, e, s1, q1⟩ t1 r1 p1 => ?_⟩
  exact ⟨j, by rw [asInt_r e p1], (small_of s1).1, (small_of s1).2, hq _ _ _ _ q1 t1 r1 walk_r⟩
theorem s_ir2 (S : Sit P n X W) (hg : Gl X "range") (hp : plainE a = true) (hp' : plainE b = true) (ha : PE X a (eOf X W ma)) (hb : PE X b (eOf X W mb)) : PI X tg (.Call (.Name "range" p) [a, b] [] pos) (iOf X W (iR2 ma mb)) := by
  have st := plain_star hp [b] X.env
  have st' := plain_star hp' [] X.env
  refine PI_le (pi_range2 hg (S.blt _ (by decide +kernel)) (pa_cons ha (pa_cons hb pa_nil st') st) (by rw [st, st']; rfl) st') fun σ H R ⟨env, h, Q0, X0, nw, q, hq⟩ => ⟨env, h, _, X0, nw, q, fun r h1 v1 H1 ⟨i, ei, q1⟩ t1 r1 p1 =>
    ⟨env, h1, _, X0, nw.go t1 r1, q1, fun r' h2 v2 H2 ⟨j, ej, s2, q2⟩ t2 r2 p2 => ?_⟩⟩
  rw [Bool.and_eq_true] at s2
  exact ⟨i, j, by rw [asInt_r ei p1, asInt_r ej p2], ⟨(small_of s2.1).1, (small_of s2.1).2, (small_of s2.2).1, (small_of s2.2).2⟩, hq _ _ _ _ q2 (t1.trans t2) r2 walk_r⟩
theorem s_ir3 (S : Sit P n X W) (hg : Gl X "range") (hp : plainE a = true) (hp' : plainE b = true) (hp2 : plainE c = true) (ha : PE X a (eOf X W ma)) (hb : PE X b (eOf X W mb)) (hc : PE X c (eOf X W mc)) : PI X tg (.Call (.Name "range" p) [a, b, c] [] pos) (iOf X W (iR3 ma mb mc)) := by
  have st := plain_star hp [b, c] X.env
  have st' := plain_star hp' [c] X.env
  have st2 := plain_star hp2 [] X.env
  refine PI_le (pi_range3 hg (S.blt _ (by decide +kernel)) (pa_cons ha (pa_cons hb (pa_cons hc pa_nil st2) st') st) st (back_any (by simp [hp', hp2]) _ _)) fun σ H R ⟨env, h, Q0, X0, nw, q, hq⟩ => ⟨env, h, _, X0, nw, q, fun r h1 v1 H1 ⟨i, ei, q1⟩ t1 r1 p1 =>
    ⟨env, h1, _, X0, nw.go t1 r1, q1, fun r' h2 v2 H2 ⟨j, ej, q2⟩ t2 r2 p2 => ⟨env, h2, _, X0, (nw.go t1 r1).go t2 r2, q2, fun r3' h3 v3 H3 ⟨k, ek, s3, q3⟩ t3 r3 p3 => ?_⟩⟩⟩
  exact ⟨i, j, k, _, by rw [asInt_r ei p1, asInt_r ej p2, asInt_r ek p3], rgC_of s3, hq _ _ _ _ q3 ((t1.trans t2).trans t3) r3 walk_c⟩
end
end Py
namespace Py
open L2 PySem.Spec PySem PyProof.Rows
/-! ### comprehensions -/
abbrev W0 : WX := fun _ _ _ _ => False
theorem wipe_in {i : Nat} : ∀ {σ : L2.St} {vs : List Nat}, i ∈ vs → (L2.wipe σ vs)[i]? = if i < σ.length then some none else none
  | σ, v :: vs, h => by
    unfold L2.wipe
    by_cases e : v = i
    · subst e
      by_cases hl : v < σ.length
      · rw [if_pos hl, List.getElem?_set_self (by rw [wipe_length]; exact hl)]
      · rw [if_neg hl, List.getElem?_eq_none (by rw [List.length_set, wipe_length]; omega)]
    · rw [List.getElem?_set_ne e]
      exact wipe_in ((List.mem_cons.mp h).resolve_left fun z => e z.symm)
theorem wipe_ag {σ τ : L2.St} {vs : List Nat} (a : Ag vs.contains (L2.wipe σ vs) τ) : L2.wipe τ vs = L2.wipe σ vs := by
  apply List.ext_getElem?
  intro i
  by_cases h : i ∈ vs
  · rw [wipe_in h, wipe_in h, a.1, wipe_length]
  · rw [wipe_out h, a.2 i (by simpa using h)]
section
variable {X : Cx} {W : WX} {P : Prog} {n : Nat}
theorem Sit.blk (S : Sit P n X W) (s : Shared) (H : Hp) (scope : Scope) (cenv : PySem.Env) (fp : List Addr) : Sit P n (X.blk s H scope cenv fp) W0 :=
  ⟨S.calm, S.nd, S.room, S.blt, S.glo, fun f h => let ⟨fa, fd, ps, F⟩ := S.fns f h; ⟨fa, fd, ps, ⟨F.ok, F.np, F.mg, F.keep, F.binds⟩⟩, S.gfn, takes0⟩
end
section
variable {K : PySem.W.Frag} {M : Str → Option Value} {W : WX}
theorem no_x {σ : L2.St} {h : AH} {H : Hp} : Xok K M W σ h H noX := fun _ _ _ _ _ x => x.elim
/-- a turn's result -/
def ResO (H : Hp) : Option D → Option V → Prop
  | some d, some y => Rep K M H y d
  | none, none => True
  | _, _ => False
/-- one turn, as the layer reads it -/
def turnL (g : L2.TG) (tt : L2.TT) (te : L2.TE) (vs : List Nat) (x : V) (σ : L2.St) (H : Hp) (k : Option V → Hp → Prop) : Prop :=
  g x (L2.wipe σ vs) H fun σ2 H2 => L2.wipe σ2 vs = L2.wipe σ vs ∧ tt σ2 H2 fun b H3 => if b = true then te σ2 H3 fun y H4 => k (some y) H4 else k none H3
/-- the abstract turn is right -/
def StepOk (K : PySem.W.Frag) (M : Str → Option Value) (σ : L2.St) (env : Env) (step : D → AH → (Option D → AH → Prop) → Prop) (tl : V → L2.St → Hp → (Option V → Hp → Prop) → Prop) : Prop :=
  ∀ d x h H k k', RelH K M h H → RelS K M H σ env → Rep K M H x d → step d h k → (∀ o h' ov H', k o h' → Tr h H h' H' → RelH K M h' H' → ResO (K := K) (M := M) H' o ov → k' ov H') → tl x σ H k'
theorem step_c {mt : TG} {me : TX} {own : List Nat} {σ : L2.St} {env : Env} : StepOk K M σ env (stepC mt env own me) (turnL (tgOf K M own.contains mt) tYes (tOf K M W0 me) own) := fun d x h H k k' rel rs rp q hk =>
  ⟨d, Py.wipe env own, h, _, rel, rs.wipe own, rp, q, fun env2 h2 σ2 H2 q2 t2 r2 s2 a2 => ⟨wipe_ag a2, by
    show (if true = true then tOf K M W0 me σ2 H2 (fun y H4 => k' (some y) H4) else k' none H2)
    rw [if_pos rfl]
    refine ⟨env2, h2, _, noX, ⟨r2, s2, no_x⟩, q2, fun r h3 v3 H3 q3 t3 r3 p3 => ?_⟩
    obtain ⟨d, h3', q3, t3', r3', p3'⟩ := rv_take q3 t3 r3 p3
    exact hk _ _ (some v3) _ q3 (t2.trans t3') r3' p3'⟩⟩
theorem step_ci {mt : TG} {mc me : TX} {own : List Nat} {σ : L2.St} {env : Env} : StepOk K M σ env (stepCi mt env own mc me) (turnL (tgOf K M own.contains mt) (ttOf K M W0 (tT mc)) (tOf K M W0 me) own) := fun d x h H k k' rel rs rp q hk =>
  ⟨d, Py.wipe env own, h, _, rel, rs.wipe own, rp, q, fun env2 h2 σ2 H2 q2 t2 r2 s2 a2 => ⟨wipe_ag a2, env2, h2, _, noX, ⟨r2, s2, no_x⟩, q2, fun b h3 H3 q3 t3 r3 => by
    cases b with
    | true =>
      rw [if_pos rfl]
      refine ⟨env2, h3, _, noX, ⟨r3, s2.mono (t3.mn r2), no_x⟩, q3, fun r h4 v4 H4 q4 t4 r4 p4 => ?_⟩
      obtain ⟨d, h4', q4, t4', r4', p4'⟩ := rv_take q4 t4 r4 p4
      exact hk _ _ (some v4) _ q4 ((t2.trans t3).trans t4') r4' p4'
    | false =>
      rw [if_neg (by decide)]
      exact hk none _ none _ q3 (t2.trans t3) r3 trivial⟩⟩
/-- the state of a comprehension: D its list -/
structure CSt (K : PySem.W.Frag) (M : Str → Option Value) (σ : L2.St) (env : Env) (h1 : AH) (H1 : Hp) (D : Addr) (acc : List Py.D) (h : AH) (H : Hp) : Prop where
  rel : RelH K M h H
  rs : RelS K M H σ env
  tr : Tr h1 H1 h H
  nn : h D = none
  ls : ∃ vs, H D = some (.lst vs) ∧ Reps K M H vs acc
/-- the list is written: no one else minds -/
theorem mn_own {H : Hp} {D : Addr} {vs ws : List V} (e : H D = some (.lst vs)) : Mn K H (upd H D (.lst ws)) := by
  refine ⟨fun a xs s => ?_, fun a xs s => ?_⟩
  · rcases s with ⟨o, q, z⟩ | s
    · exact .inl ⟨o, by rw [upd_ne (ne_of q e (by intro z; cases z))]; exact q, z⟩
    · exact .inr s
  · rcases s with ⟨o, q⟩ | s
    · exact .inl ⟨o, by rw [upd_ne (ne_of q e (by intro z; cases z))]; exact q⟩
    · exact .inr s
theorem CSt.push {σ : L2.St} {env : Env} {h1 h h' : AH} {H1 H H' : Hp} {D : Addr} {acc : List Py.D} {d : Py.D} {y : V} (c : CSt K M σ env h1 H1 D acc h H) (hD : H1 D = none) (t : Tr h H h' H') (r : RelH K M h' H') (p : Rep K M H' y d) :
    ∃ vs, H' D = some (.lst vs) ∧ vs.length = acc.length ∧ CSt K M σ env h1 H1 D (acc ++ [d]) h' (upd H' D (.lst (vs ++ [y]))) := by
  obtain ⟨vs, hv, rp⟩ := c.ls
  obtain ⟨hv', hn⟩ := t.keep _ _ hv c.nn
  have m := t.mn c.rel
  have m2 : Mn K H' (upd H' D (.lst (vs ++ [y]))) := mn_own hv'
  refine ⟨vs, hv', rp.length, fun a o e => ?_, (c.rs.mono m).mono m2, ?_, hn, _, upd_same, ((rp.mono m).mono m2).append (.cons (p.mono m2) .nil)⟩
  · have ne : a ≠ D := fun z => by rw [z, hn] at e; cases e
    exact (r a o e).mono m2 (upd_ne ne)
  · refine ⟨fun a o e z => ?_, fun a z => ?_⟩
    · obtain ⟨e2, z2⟩ := (c.tr.trans t).keep a o e z
      exact ⟨by rw [upd_ne (ne_of_none e hD)]; exact e2, z2⟩
    · unfold upd
      split
      · simp
      · exact (c.tr.trans t).grow a z
theorem CSt.go {σ : L2.St} {env : Env} {h1 h h' : AH} {H1 H H' : Hp} {D : Addr} {acc : List Py.D} (c : CSt K M σ env h1 H1 D acc h H) (t : Tr h H h' H') (r : RelH K M h' H') : CSt K M σ env h1 H1 D acc h' H' := by
  obtain ⟨vs, hv, rp⟩ := c.ls
  obtain ⟨hv', hn⟩ := t.keep _ _ hv c.nn
  exact ⟨r, c.rs.mono (t.mn c.rel), c.tr.trans t, hn, vs, hv', rp.mono (t.mn c.rel)⟩
theorem CSt.new {σ : L2.St} {env : Env} {h1 : AH} {H1 : Hp} {D : Addr} (rel : RelH K M h1 H1) (rs : RelS K M H1 σ env) (hD : H1 D = none) : CSt K M σ env h1 H1 D [] h1 (upd H1 D (.lst [])) :=
  ⟨rel.new hD, rs.mono ((Tr.new rel hD).mn rel), Tr.new rel hD, rel.free hD, _, upd_same, .nil⟩
/-- .. together with what the walked thing leans on -/
structure CS2 (K : PySem.W.Frag) (M : Str → Option Value) (σ : L2.St) (env : Env) (h1 : AH) (H1 : Hp) (D : Addr) (Hpre : Hp) (h0 : AH) (H0 : Hp) (acc : List Py.D) (h : AH) (H : Hp) : Prop where
  c : CSt K M σ env h1 H1 D acc h H
  kp : Kp Hpre h0 H0 h H
  mn : Mn K H0 H
theorem Mn.trans {H H' H'' : Hp} (a : Mn K H H') (b : Mn K H' H'') : Mn K H H'' := ⟨fun x xs s => b.t _ _ (a.t x xs s), fun x xs s => b.f _ _ (a.f x xs s)⟩
section
variable {σ : L2.St} {env : Env} {h1 h0 h h' : AH} {H1 Hpre H0 H H' : Hp} {D : Addr} {acc : List Py.D}
theorem CS2.go (c : CS2 K M σ env h1 H1 D Hpre h0 H0 acc h H) (t : Tr h H h' H') (r : RelH K M h' H') : CS2 K M σ env h1 H1 D Hpre h0 H0 acc h' H' :=
  ⟨c.c.go t r, fun p o n e z => let ⟨e1, z1⟩ := c.kp p o n e z; t.keep _ _ e1 z1, c.mn.trans (t.mn c.c.rel)⟩
theorem CS2.push {d : Py.D} {y : V} (c : CS2 K M σ env h1 H1 D Hpre h0 H0 acc h H) (hD : H1 D = none) (hd : ∀ o, Hpre D = none → H0 D = some o → h0 D = none → False) (t : Tr h H h' H') (r : RelH K M h' H') (p : Rep K M H' y d) :
    ∃ vs, H' D = some (.lst vs) ∧ vs.length = acc.length ∧ CS2 K M σ env h1 H1 D Hpre h0 H0 (acc ++ [d]) h' (upd H' D (.lst (vs ++ [y]))) := by
  obtain ⟨vs, hv, hl, c2⟩ := c.c.push hD t r p
  have g := c.go t r
  refine ⟨vs, hv, hl, c2, fun p o n e z => ?_, g.mn.trans (mn_own hv)⟩
  obtain ⟨e1, z1⟩ := g.kp p o n e z
  have ne : p ≠ D := fun w => by subst w; exact hd o n e z
  exact ⟨by rw [upd_ne ne]; exact e1, z1⟩
end
/-- what a turn does with the list -/
def addL (D : Addr) (Nx : Hp → Prop) : Option V → Hp → Prop
  | some y, H => ∃ acc, H D = some (.lst acc) ∧ acc.length < sizeLine ∧ Nx (upd H D (.lst (acc ++ [y])))
  | none, H => Nx H
/-- the turns over one source -/
theorem wcomp_lc {σ : L2.St} {env : Env} {h1 h0 hs : AH} {H1 Hpre H0 Hs : Hp} {D : Addr} {s : Src} {J : L2.It} {step : Py.D → AH → (Option Py.D → AH → Prop) → Prop} {tl : V → L2.St → Hp → (Option V → Hp → Prop) → Prop} {Qf : List Py.D → AH → Prop} {acc0 : List Py.D}
    (hD : H1 D = none) (hd : ∀ o, Hpre D = none → H0 D = some o → h0 D = none → False) (wk : Walks K M s J Hpre h0 H0) (so : StepOk K M σ env step tl) (hw : wComp s.chk step s.items acc0 hs Qf) (c0 : CS2 K M σ env h1 H1 D Hpre h0 H0 acc0 hs Hs) :
    ∃ W1 : Nat → Nat → Hp → Prop, (∃ m, W1 0 m Hs) ∧ ∀ j k H, W1 j k H → (J.stop j H ∧ ∃ acc h, Qf acc h ∧ CS2 K M σ env h1 H1 D Hpre h0 H0 acc h H) ∨
      (J.go j H ∧ ∃ Nx : Hp → Prop, (∀ H', Nx H' → ∃ k', k' < k ∧ W1 (j + 1) k' H') ∧ ∀ x H', J.yld j H x H' → tl x σ H' (addL D Nx)) := by
  refine ⟨fun j k H => ∃ acc h, k = s.items.length - j ∧ j ≤ s.items.length ∧ CS2 K M σ env h1 H1 D Hpre h0 H0 acc h H ∧ wComp s.chk step (s.items.drop j) acc h Qf, ⟨_, acc0, hs, rfl, Nat.zero_le _, c0, hw⟩, ?_⟩
  rintro j k H ⟨acc, h, rfl, hj, c, w⟩
  by_cases e : j < s.items.length
  · refine .inr ?_
    have hi : s.items[j]? = some s.items[j] := List.getElem?_eq_getElem e
    rw [List.drop_eq_getElem_cons e] at w
    obtain ⟨ck, w⟩ := w
    obtain ⟨go, yl⟩ := (wk h H c.kp c.mn c.c.rel ck j).1 _ hi
    refine ⟨go, fun H' => ∃ acc h, CS2 K M σ env h1 H1 D Hpre h0 H0 acc h H' ∧ wComp s.chk step (s.items.drop (j + 1)) acc h Qf, fun H' ⟨acc, h, c, w⟩ => ⟨s.items.length - (j + 1), by omega, acc, h, rfl, e, c, w⟩, fun x H' y => ?_⟩
    obtain ⟨rfl, rx⟩ := yl x H' y
    refine so _ x h H' _ _ c.c.rel c.c.rs rx w fun o h2 ov H2 q2 t2 r2 p2 => ?_
    cases o with
    | none =>
      cases ov with
      | none => exact ⟨acc, h2, c.go t2 r2, q2⟩
      | some y => exact p2.elim
    | some d =>
      cases ov with
      | none => exact p2.elim
      | some y =>
        obtain ⟨vs, hv, hl, c2⟩ := c.push hD hd t2 r2 p2
        exact ⟨vs, hv, by rw [hl, sizeLine_eq]; exact q2.1, _, h2, c2, q2.2⟩
  · have ej : j = s.items.length := by omega
    subst ej
    rw [List.drop_length] at w
    exact .inl ⟨(wk h H c.kp c.mn c.c.rel w.1 _).2 (Nat.le_refl _), acc, h, w.2, c⟩
theorem kp_of {Hpre : Hp} {h0 h : AH} {H0 H : Hp} (t : Tr h0 H0 h H) : Kp Hpre h0 H0 h H := fun p o _ e z => t.keep p o e z
/-- a list comprehension of one clause -/
theorem s_lc1 {mi : TI} {step : Env → Py.D → AH → (Option Py.D → AH → Prop) → Prop} {g : L2.TG} {tt : L2.TT} {te : L2.TE} {own : List Nat} (so : ∀ σ env, StepOk K M σ env (step env) (turnL g tt te own)) {σ : L2.St} {H : Hp} {Q : VK}
    (q : tOf K M W (fun env h Q X => mi env h (fun s h1 => wComp s.chk (step env) s.items [] h1 fun acc h2 => Q (.o (.lst acc)) h2) X) σ H Q) : tLc (tiOf K M W mi) g tt te own σ H Q := by
  obtain ⟨env, h, Q0, X0, nw, q, hq⟩ := q
  refine ⟨env, h, _, X0, nw, q, fun s h1 J H1 q1 t1 r1 wk => ?_⟩
  intro D hD
  have hn := Tr.new (u := .lst []) r1 hD
  obtain ⟨W1, w0, w1⟩ := wcomp_lc (D := D) (Hs := upd H1 D (.lst [])) hD (fun o _ e _ => by rw [hD] at e; cases e) wk (so σ env) q1 ⟨CSt.new r1 (nw.rs.mono (t1.mn nw.rel)) hD, kp_of hn, hn.mn r1⟩
  refine ⟨W1, w0, fun i m H3 w => ?_⟩
  rcases w1 i m H3 w with ⟨st, acc, h3, q3, c3⟩ | ⟨go, Nx, hN, y⟩
  · refine .inl ⟨st, hq _ _ _ _ q3 (t1.trans c3.c.tr) c3.c.rel ⟨D, rfl, ?_, c3.c.nn, c3.c.ls⟩⟩
    cases e : H D with
    | none => rfl
    | some u => exact absurd hD (t1.grow D (by rw [e]; simp))
  · exact .inr ⟨go, Nx, hN, y⟩
theorem yes_i {σ : L2.St} {H : Hp} {p q : Hp → Prop} (w : p H) : tYes σ H (fun b H3 => if b = true then p H3 else q H3) := by
  unfold tYes
  show (if true = true then p H else q H)
  rw [if_pos rfl]
  exact w
/-- .. of two -/
theorem s_lc2 {mi mi1 : TI} {mt mt1 : TG} {me : TX} {own own1 : List Nat} {σ : L2.St} {H : Hp} {Q : VK} (q : tOf K M W (xComp2 mt mi own mt1 mi1 own1 me) σ H Q) :
    tLc2 (tiOf K M W mi) (tgOf K M own.contains mt) tYes (tiOf K M W0 mi1) (tgOf K M own1.contains mt1) tYes (tOf K M W0 me) own own1 σ H Q := by
  obtain ⟨env, h, Q0, X0, nw, q, hq⟩ := q
  refine ⟨env, h, _, X0, nw, q, fun s h1 J H1 q1 t1 r1 wk => ?_⟩
  intro D hD
  refine ⟨fun i m H => ∃ acc h, m = s.items.length - i ∧ i ≤ s.items.length ∧ CSt K M σ env h1 H1 D acc h H ∧ wComp2 s.chk (stepC2 mt env own mt1 mi1 own1 me) (s.items.drop i) acc h (fun acc h2 => Q0 (.o (.lst acc)) h2),
    ⟨_, [], h1, rfl, Nat.zero_le _, CSt.new r1 (nw.rs.mono (t1.mn nw.rel)) hD, q1⟩, ?_⟩
  rintro i m H3 ⟨acc, h3, rfl, hi, c, w⟩
  have wk' := wk h3 H3 (kp_of c.tr) (c.tr.mn r1) c.rel
  by_cases e : i < s.items.length
  · refine .inr ?_
    have hx : s.items[i]? = some s.items[i] := List.getElem?_eq_getElem e
    rw [List.drop_eq_getElem_cons e] at w
    obtain ⟨ck, w⟩ := w
    obtain ⟨go, yl⟩ := (wk' ck i).1 _ hx
    refine ⟨go, fun H' => ∃ acc h, CSt K M σ env h1 H1 D acc h H' ∧ wComp2 s.chk (stepC2 mt env own mt1 mi1 own1 me) (s.items.drop (i + 1)) acc h (fun acc h2 => Q0 (.o (.lst acc)) h2), fun H' ⟨acc, h, c, w⟩ => ⟨s.items.length - (i + 1), by omega, acc, h, rfl, e, c, w⟩, fun x H' y => ?_⟩
    obtain ⟨rfl, rx⟩ := yl x H' y
    refine ⟨_, Py.wipe env own, h3, _, c.rel, c.rs.wipe own, rx, w, fun env2 h4 σ2 H4 q4 t4 r4 s4 a4 => ⟨wipe_ag a4, ?_⟩⟩
    refine yes_i ?_
    refine ⟨env2, h4, _, noX, ⟨r4, s4, no_x⟩, q4, fun s1 h5 J1 H5 q5 t5 r5 wk1 => ?_⟩
    have c5 := (c.go t4 r4).go t5 r5
    have c5' : CSt K M σ2 env2 h1 H1 D acc h5 H5 := ⟨c5.rel, s4.mono (t5.mn r4), c5.tr, c5.nn, c5.ls⟩
    have hd : ∀ o, H4 D = none → H5 D = some o → h5 D = none → False := fun o z _ _ => by
      obtain ⟨vs, hv, _⟩ := (c.go t4 r4).ls
      rw [z] at hv
      cases hv
    obtain ⟨W1, w0, w1⟩ := wcomp_lc (D := D) hD hd wk1 (step_c (mt := mt1) (me := me) (own := own1) (σ := σ2) (env := env2)) q5 ⟨c5', fun p o _ a b => ⟨a, b⟩, ⟨fun _ _ z => z, fun _ _ z => z⟩⟩
    refine ⟨W1, w0, fun j k H6 w6 => ?_⟩
    rcases w1 j k H6 w6 with ⟨st, acc6, h6, q6, c6⟩ | ⟨go1, Nx1, hN1, y1⟩
    · exact .inl ⟨st, acc6, h6, ⟨c6.c.rel, c5.rs.mono c6.mn, c6.c.tr, c6.c.nn, c6.c.ls⟩, q6⟩
    · exact .inr ⟨go1, Nx1, hN1, y1⟩
  · have ej : i = s.items.length := by omega
    subst ej
    rw [List.drop_length] at w
    refine .inl ⟨(wk' w.1 _).2 (Nat.le_refl _), hq _ _ _ _ w.2 (t1.trans c.tr) c.rel ⟨D, rfl, ?_, c.nn, c.ls⟩⟩
    cases e : H D with
    | none => rfl
    | some u => exact absurd hD (t1.grow D (by rw [e]; simp))
end
end Py
namespace Py
open L2 PySem.Spec PySem PyProof.Rows
theorem trE_plain {F : Str → Bool} {N : List Str} {n : Nat} {sc : Scope} {e : Expr} {ex : Ex} (h : trE F N n sc e = some ex) : plainE e = true := by
  cases n with
  | zero => unfold trE at h; cases h
  | succ n =>
    cases e with
    | Starred _ _ => unfold trE at h; cases h
    | Slice _ _ _ _ => unfold trE at h; cases h
    | Set _ _ _ => unfold trE at h; cases h
    | Call f es ks pos =>
      cases f with
      | Name x p =>
        unfold trE at h
        cases ks with
        | nil =>
          simp only at h
          show okN x = true
          by_cases o : okN x = true
          · exact o
          · rw [if_neg o] at h; cases h
        | cons _ _ => cases h
      | _ => rfl
    | _ => rfl
theorem vis_of {X : Cx} {sc : Scope} {x : Str} (e : X.env.scope = sc) (h : visB sc x = true) : Vis X.env.scope x := by
  unfold visB at h
  unfold Vis
  rw [e]
  split at h
  · exact .inl (by assumption)
  · exact .inr (.inl (by assumption))
  · exact .inr (.inr (by assumption))
  · cases h
theorem glo_of {X : Cx} {sc : Scope} {x : Str} (e : X.env.scope = sc) (h : gloB sc x = true) : Gl X x := by
  unfold gloB at h
  show X.env.scope.names.lookup x = _
  rw [e]
  split at h
  · assumption
  · cases h
theorem okN_d {x : Str} (h : okN x = true) : (x == ("__debug__" : Str)) = false ∧ (x == ("__classdict__" : Str)) = false ∧ x ≠ "__name__" := by
  unfold okN at h
  simp only [Bool.and_eq_true, Bool.not_eq_true', beq_eq_false_iff_ne] at h
  obtain ⟨⟨⟨_, h1⟩, h2⟩, h3⟩ := h
  exact ⟨beq_eq_false_iff_ne.mpr h1, beq_eq_false_iff_ne.mpr h2, h3⟩
section
variable {X : Cx} {W : WX} {P : Prog} {n : Nat}
theorem s_glo (S : Sit P n X W) {x : Str} {pos : Pos} (hg : Gl X x) (hd : (x == ("__debug__" : Str)) = false) : PE X (.Name x pos) (eOf X W (xGlo P.gl x)) := ⟨fun pins s σ H Q I ⟨env, h, Q0, X0, nw, ⟨d, e, q⟩, hq⟩ => by
  obtain ⟨v, u, hm, rv, rp⟩ := S.glo x d e
  exact (pe_glob hg hm rv hd).run pins s σ H Q I (hq _ _ _ _ q .refl nw.rel (rp H))⟩
theorem s_const {c : Const} {d : D} {k : Nat} {pos : Pos} (h : trC c = some d) : ∃ v : V, PE X (.Constant c k pos) (tC v) ∧ ∀ H, Rep X.K X.mg H v d := by
  unfold trC at h
  split at h
  · cases h; exact ⟨_, pe_non, fun H => .non⟩
  · cases h; exact ⟨_, pe_bl, fun H => .bl _⟩
  · cases h; exact ⟨_, pe_int, fun H => .int _⟩
  · cases h; exact ⟨_, pe_str, fun H => .str _⟩
  · cases h
theorem s_isC {e : Expr} {d : D} (h : trIsC e = some d) : ∃ v : V, PE X e (tC v) ∧ ∀ H, Rep X.K X.mg H v d := by
  unfold trIsC at h
  split at h
  · cases h; exact ⟨_, pe_non, fun H => .non⟩
  · cases h; exact ⟨_, pe_bl, fun H => .bl _⟩
  · cases h
theorem trOp_eq {op : Operator} {o : Bop} (h : trOp op = some o) : op = opOf o := by
  unfold trOp at h
  split at h <;> first | (cases h; rfl) | cases h
theorem trCop_eq {op : CmpOp} {o : Cop} (h : trCop op = some o) : op = copOf o := by
  unfold trCop at h
  split at h <;> first | (cases h; rfl) | cases h
theorem trIs_eq {op : CmpOp} {b : Bool} (h : trIs op = some b) : op = if b then .IsNot else .Is := by
  unfold trIs at h
  split at h <;> first | (cases h; rfl) | cases h
theorem Sit.hu (S : Sit P n X W) : X.A.units + 65 < cLine := by
  have := S.room.un
  have e : cLine = 9900 := rfl
  omega
end
/-- what is shown of an expression -/
def EOk (P : Prog) (n : Nat) (F : Str → Bool) (N : List Str) (m : Nat) : Prop := ∀ (sc : Scope) (e : Expr) (ex : Ex), trE F N m sc e = some ex → ∀ (X : Cx) (W : WX), Sit P n X W → X.env.scope = sc → X.N = N →
  PE X e (eOf X W (wX (wC P n) P.gl ex)) ∧ PT X e (cOf X W (wX (wC P n) P.gl ex))
section
variable {P : Prog} {n : Nat} {F : Str → Bool} {N : List Str} {m : Nat} (hF : ∀ f, F f = true → P.fn f ≠ none) (ih : EOk P n F N m)
include ih
theorem s_es {sc : Scope} {X : Cx} {W : WX} (S : Sit P n X W) (hs : X.env.scope = sc) (hN : X.N = N) : ∀ {es : List Expr} {r : Es}, trEs (trE F N m sc) es = some r →
    PA X es (aOf X W (wEs (wC P n) P.gl r)) ∧ (∀ e ∈ es, plainE e = true) ∧ (es = [] → wEs (wC P n) P.gl r = esNil)
  | [], r, h => by
    unfold trEs at h
    cases h
    exact ⟨s_nil, (fun e he => nomatch he), fun _ => rfl⟩
  | e :: es, r, h => by
    unfold trEs at h
    simp only [bind, Option.bind_eq_some_iff, pure, Option.some.injEq] at h
    obtain ⟨a, h1, r', h2, rfl⟩ := h
    obtain ⟨g1, g2, _⟩ := s_es S hs hN h2
    have hp := trE_plain h1
    exact ⟨s_cons (ih sc e a h1 X W S hs hN).1 g1 (plain_star hp es X.env), fun x hx => (List.mem_cons.mp hx).elim (fun q => q ▸ hp) (g2 x), fun q => nomatch q⟩
theorem s_bool {sc : Scope} {X : Cx} {W : WX} (S : Sit P n X W) (hs : X.env.scope = sc) (hN : X.N = N) {op : BoolOp} {pos : Pos} : ∀ {es : List Expr} {ex : Ex}, trBool (trE F N m sc) op es = some ex →
    PE X (.BoolOp op es pos) (eOf X W (wX (wC P n) P.gl ex)) ∧ PW X (.BoolOp op es pos) (cOf X W (wX (wC P n) P.gl ex))
  | [], ex, h => by
    unfold trBool at h
    cases h
  | [a], ex, h => by
    unfold trBool at h
    exact s_one (ih sc a ex h X W S hs hN)
  | a :: b :: r, ex, h => by
    unfold trBool at h
    simp only [bind, Option.bind_eq_some_iff, pure, Option.some.injEq] at h
    obtain ⟨x, h1, y, h2, rfl⟩ := h
    have g1 := ih sc a x h1 X W S hs hN
    have g2 := s_bool (pos := pos) S hs hN h2
    cases op with
    | And => exact s_and (mX (wC_mono P n) x) g1 g2
    | Or => exact s_or (mX (wC_mono P n) x) g1 g2
theorem s_o {sc : Scope} {X : Cx} {W : WX} (S : Sit P n X W) (hs : X.env.scope = sc) (hN : X.N = N) {o : Option Expr} {r : Oe} (h : trO (trE F N m sc) o = some r) : PO X o (oOf X W (wO (wC P n) P.gl r)) := by
  cases o with
  | none =>
    unfold trO at h
    cases h
    exact s_oNo
  | some e =>
    unfold trO at h
    simp only [bind, Option.bind_eq_some_iff, pure, Option.some.injEq] at h
    obtain ⟨x, h1, rfl⟩ := h
    exact s_oSo (ih sc e x h1 X W S hs hN).1
theorem s_it {sc : Scope} {X : Cx} {W : WX} (S : Sit P n X W) (hs : X.env.scope = sc) (hN : X.N = N) {tg e : Expr} {it : It} (h : trI sc (trE F N m sc) e = some it) : PI X tg e (iOf X W (wI (wC P n) P.gl it)) := by
  have seq : ∀ {e : Expr} {x : Ex}, trE F N m sc e = some x → PI X tg e (iOf X W (wI (wC P n) P.gl (.seq x))) := fun {e x} h => s_iseq (ih sc e x h X W S hs hN).1
  unfold trI at h
  split at h
  · rename_i g es pos
    split at h
    · rename_i hg
      have rg : ∃ p, g = .Name "range" p ∧ Gl X "range" := by
        unfold isRng at hg
        split at hg
        · rename_i x p
          rw [Bool.and_eq_true, decide_eq_true_eq] at hg
          obtain ⟨rfl, hg⟩ := hg
          exact ⟨p, rfl, glo_of hs hg⟩
        · cases hg
      obtain ⟨p, rfl, hG⟩ := rg
      split at h
      · simp only [bind, Option.bind_eq_some_iff, pure, Option.some.injEq] at h
        obtain ⟨x, h1, rfl⟩ := h
        exact s_ir1 S hG (trE_plain h1) (ih sc _ x h1 X W S hs hN).1
      · simp only [bind, Option.bind_eq_some_iff, pure, Option.some.injEq] at h
        obtain ⟨x, h1, y, h2, rfl⟩ := h
        exact s_ir2 S hG (trE_plain h1) (trE_plain h2) (ih sc _ x h1 X W S hs hN).1 (ih sc _ y h2 X W S hs hN).1
      · simp only [bind, Option.bind_eq_some_iff, pure, Option.some.injEq] at h
        obtain ⟨x, h1, y, h2, z, h3, rfl⟩ := h
        exact s_ir3 S hG (trE_plain h1) (trE_plain h2) (trE_plain h3) (ih sc _ x h1 X W S hs hN).1 (ih sc _ y h2 X W S hs hN).1 (ih sc _ z h3 X W S hs hN).1
      · cases h
    · simp only [bind, Option.bind_eq_some_iff, pure, Option.some.injEq] at h
      obtain ⟨x, h1, rfl⟩ := h
      exact seq h1
  · simp only [bind, Option.bind_eq_some_iff, pure, Option.some.injEq] at h
    obtain ⟨x, h1, rfl⟩ := h
    exact seq h1
omit ih in
theorem trI_plain {sc : Scope} {e : Expr} {it : It} (h : trI sc (trE F N m sc) e = some it) : plainE e = true := by
  unfold trI at h
  split at h
  · rename_i g es pos
    split at h
    · rename_i hg
      unfold isRng at hg
      split at hg
      · rw [Bool.and_eq_true, decide_eq_true_eq] at hg
        obtain ⟨rfl, hg⟩ := hg
        exact (show okN "range" = true by decide +kernel)
      · cases hg
    · simp only [bind, Option.bind_eq_some_iff, pure, Option.some.injEq] at h
      obtain ⟨x, h1, rfl⟩ := h
      exact trE_plain h1
  · simp only [bind, Option.bind_eq_some_iff, pure, Option.some.injEq] at h
    obtain ⟨x, h1, rfl⟩ := h
    exact trE_plain h1
end
/-- plainly its value's truth -/
theorem pl_t {X : Cx} {e : Expr} (h : ∀ whole, isTrue e X.env whole = (do let v ← whole; standAt e.pos; holding [v] (truthy v))) : PlainT X e := h
theorem loc_of {X : Cx} {scope : Scope} {x : Str} (e : X.env.scope.names.lookup x = scope.names.lookup x ∨ True) : True := trivial
theorem blk_ok {X : Cx} {scope : Scope} {s : Shared} {H : Hp} {C : Addr} {cl : List (Str × Addr)} {fp : List Addr} {x : Str} (h : locB scope x = true) :
    Loc (X.blk s H scope (compEnvC scope cl C X.env) fp).env.scope x ∧ ((X.blk s H scope (compEnvC scope cl C X.env) fp).fn x = true ∨ (X.blk s H scope (compEnvC scope cl C X.env) fp).env.scope.names.lookup x = some .local) := by
  have e : (compEnvC scope cl C X.env).scope = relS scope X.env.scope := rfl
  show Loc (compEnvC scope cl C X.env).scope x ∧ ((scope.names.lookup x == some .cell) = true ∨ (compEnvC scope cl C X.env).scope.names.lookup x = some .local)
  rw [e]
  unfold locB at h
  split at h
  · rename_i q
    have := lookup_relS_keep (sc := X.env.scope) (by decide) q
    exact ⟨.inl this, .inr this⟩
  · rename_i q
    have := lookup_relS_keep (sc := X.env.scope) (by decide) q
    exact ⟨.inr this, .inl (by rw [q]; rfl)⟩
  · cases h
end Py
namespace Py
open L2 PySem.Spec PySem PyProof.Rows
theorem isRng_eq {sc : Scope} {g : Expr} (h : isRng sc g = true) : ∃ p, g = .Name "range" p ∧ gloB sc "range" = true := by
  unfold isRng at h
  split at h
  · rename_i x p
    rw [Bool.and_eq_true, decide_eq_true_eq]
        at h
    obtain ⟨rfl, h⟩ := h
    exact ⟨p, rfl, h⟩
  · cases h
theorem trI_1 {sc : Scope} {f : Expr → Option Ex} {e : Expr} {i : Ex} (h : trI sc f e = some (.rng1 i)) : ∃ p a pos, e = .Call (.Name "range" p) [a] [] pos ∧ gloB sc "range" = true ∧ f a = some i := by
  unfold trI at h
  split at h
  · split at h
    · rename_i hg
      obtain ⟨p, rfl, hG⟩ := isRng_eq hg
      split at h
      · simp only [bind, Option.bind_eq_some_iff, pure, Option.some.injEq] at h
        obtain ⟨x, h1, h2⟩ := h
        cases h2
        exact ⟨_, _, _, rfl, hG, h1⟩
      · simp only [bind, Option.bind_eq_some_iff, pure, Option.some.injEq] at h
        obtain ⟨x, h1, y, h2, h3⟩ := h
        cases h3
      · simp only [bind, Option.bind_eq_some_iff, pure, Option.some.injEq] at h
        obtain ⟨x, h1, y, h2, z, h3, h4⟩ := h
        cases h4
      · cases h
    · simp only [bind, Option.bind_eq_some_iff, pure, Option.some.injEq] at h
      obtain ⟨x, h1, h2⟩ := h
      cases h2
  · simp only [bind, Option.bind_eq_some_iff, pure, Option.some.injEq] at h
    obtain ⟨x, h1, h2⟩ := h
    cases h2
theorem trI_2 {sc : Scope} {f : Expr → Option Ex} {e : Expr} {i j : Ex} (h : trI sc f e = some (.rng2 i j)) : ∃ p a b pos, e = .Call (.Name "range" p) [a, b] [] pos ∧ gloB sc "range" = true ∧ f a = some i ∧ f b = some j := by
  unfold trI at h
  split at h
  · split at h
    · rename_i hg
      obtain ⟨p, rfl, hG⟩ := isRng_eq hg
      split at h
      · simp only [bind, Option.bind_eq_some_iff, pure, Option.some.injEq] at h
        obtain ⟨x, h1, h2⟩ := h
        cases h2
      · simp only [bind, Option.bind_eq_some_iff, pure, Option.some.injEq] at h
        obtain ⟨x, h1, y, h2, h3⟩ := h
        cases h3
        exact ⟨_, _, _, _, rfl, hG, h1, h2⟩
      · simp only [bind, Option.bind_eq_some_iff, pure, Option.some.injEq] at h
        obtain ⟨x, h1, y, h2, z, h3, h4⟩ := h
        cases h4
      · cases h
    · simp only [bind, Option.bind_eq_some_iff, pure, Option.some.injEq] at h
      obtain ⟨x, h1, h2⟩ := h
      cases h2
  · simp only [bind, Option.bind_eq_some_iff, pure, Option.some.injEq] at h
    obtain ⟨x, h1, h2⟩ := h
    cases h2
/-- a comprehension, whatever is done with it -/
structure LcOk (X : Cx) (W : WX) (P : Prog) (n : Nat) (elt : Expr) (gens : List Comprehension) (scope : Scope) (ex : Ex) : Prop where
  one : (∃ (tg iter : Expr) (ifs : List Expr) (own : List (Str × Nat)) (g : L2.TG) (tt : L2.TT) (te : L2.TE) (wi : L2.TI), gens = [⟨tg, iter, ifs, 0⟩] ∧ PI X tg iter wi ∧ BlkOk X.N X.env.scope scope own ∧
      (∀ (s : Shared) (H : Hp) (C : Addr) (cl : List (Str × Addr)) (fp : List Addr), PG (X.blk s H scope (compEnvC scope cl C X.env) fp) tg g) ∧ (∀ (s : Shared) (H : Hp) (C : Addr) (cl : List (Str × Addr)) (fp : List Addr), PTs (X.blk s H scope (compEnvC scope cl C X.env) fp) ifs tt) ∧
      (∀ (s : Shared) (H : Hp) (C : Addr) (cl : List (Str × Addr)) (fp : List Addr), PE (X.blk s H scope (compEnvC scope cl C X.env) fp) elt te) ∧ (∀ x, foldedSetIterable iter X.env x = pure x) ∧
      ∀ σ H Q, eOf X W (wX (wC P n) P.gl ex) σ H Q → tLc wi g tt te (own.map (·.2)) σ H Q) ∨
    (∃ (tg iter tg1 iter1 : Expr) (own : List (Str × Nat)) (g g1 : L2.TG) (te : L2.TE) (wi wi1 : L2.TI), gens = [⟨tg, iter, [], 0⟩, ⟨tg1, iter1, [], 0⟩] ∧ PI X tg iter wi ∧ BlkOk X.N X.env.scope scope own ∧
      (∀ (s : Shared) (H : Hp) (C : Addr) (cl : List (Str × Addr)) (fp : List Addr), PG (X.blk s H scope (compEnvC scope cl C X.env) fp) tg g) ∧ (∀ (s : Shared) (H : Hp) (C : Addr) (cl : List (Str × Addr)) (fp : List Addr), PI (X.blk s H scope (compEnvC scope cl C X.env) fp) tg1 iter1 wi1) ∧
      (∀ (s : Shared) (H : Hp) (C : Addr) (cl : List (Str × Addr)) (fp : List Addr), PG (X.blk s H scope (compEnvC scope cl C X.env) fp) tg1 g1) ∧
      (∀ (s : Shared) (H : Hp) (C : Addr) (cl : List (Str × Addr)) (fp : List Addr), PE (X.blk s H scope (compEnvC scope cl C X.env) fp) elt te) ∧ (∀ x, foldedSetIterable iter X.env x = pure x) ∧ (∀ env x, foldedSetIterable iter1 env x = pure x) ∧
      ∀ σ H Q, eOf X W (wX (wC P n) P.gl ex) σ H Q → tLc2 wi g tYes wi1 g1 tYes te (own.map (·.2)) (own.map (·.2)) σ H Q)
theorem lc_ok {P : Prog} {n : Nat} {F : Str → Bool} {N : List Str} {m : Nat} (ih : EOk P n F N m) {sc : Scope} {X : Cx} {W : WX} (S : Sit P n X W) (hs : X.env.scope = sc) (hN : X.N = N) {elt : Expr} {gens : List Comprehension} {scope : Scope} {pos : Pos} {ex : Ex}
    (h : trE F N (m + 1) sc (.ListComp elt gens scope pos) = some ex) : LcOk X W P n elt gens scope ex := by
  have S' := fun (s : Shared) (H : Hp) (C : Addr) (cl : List (Str × Addr)) (fp : List Addr) => S.blk s H scope (compEnvC scope cl C X.env) fp
  have es : ∀ (s : Shared) (H : Hp) (C : Addr) (cl : List (Str × Addr)) (fp : List Addr), (X.blk s H scope (compEnvC scope cl C X.env) fp).env.scope = relS scope sc := fun s H C cl fp => by rw [← hs]; rfl
  unfold trE at h
  simp only at h
  split at h
  · -- one clause
    rename_i t it ifs
    split at h
    · rename_i hb
      simp only [bind, Option.bind_eq_some_iff, pure, Option.some.injEq] at h
      obtain ⟨t', h1, h⟩ := h
      split at h
      · rename_i ht
        simp only [bind, Option.bind_eq_some_iff, pure, Option.some.injEq] at h
        obtain ⟨it', h2, e', h3, h⟩ := h
        have hb' : BlkOk X.N X.env.scope scope (ownOf N scope.names) := by rw [hs, hN]; exact blkOk_by hb
        have hg := fun (s : Shared) (H : Hp) (C : Addr) (cl : List (Str × Addr)) (fp : List Addr) => s_tgt (X := X.blk s H scope (compEnvC scope cl C X.env) fp) (p := ((ownOf N scope.names).map (·.2)).contains) (ok := locB scope) S.calm S.nd hN (fun x hx => blk_ok hx) 4 t t' h1 ht
        have he := fun (s : Shared) (H : Hp) (C : Addr) (cl : List (Str × Addr)) (fp : List Addr) => (ih _ elt e' h3 _ _ (S' s H C cl fp) (es s H C cl fp) hN).1
        have hi := s_it (tg := t) ih S hs hN h2
        split at h
        · cases h
          exact ⟨.inl ⟨t, it, [], _, _, _, _, _, rfl, hi, hb', hg, fun _ _ _ _ _ => pts_nil, he, plain_fold (trI_plain h2) X.env, fun σ H Q q => s_lc1 (fun σ env => step_c) q⟩⟩
        · rename_i c
          simp only [bind, Option.bind_eq_some_iff, pure, Option.some.injEq] at h
          obtain ⟨c', h4, rfl⟩ := h
          have hc := fun (s : Shared) (H : Hp) (C : Addr) (cl : List (Str × Addr)) (fp : List Addr) => pts_one (ih _ c c' h4 _ _ (S' s H C cl fp) (es s H C cl fp) hN).2
          exact ⟨.inl ⟨t, it, [c], _, _, _, _, _, rfl, hi, hb', hg, hc, he, plain_fold (trI_plain h2) X.env, fun σ H Q q => s_lc1 (fun σ env => step_ci) q⟩⟩
        · cases h
      · cases h
    · cases h
  · -- two
    rename_i t it t1 it1
    split at h
    · rename_i hb
      simp only [bind, Option.bind_eq_some_iff, pure, Option.some.injEq] at h
      obtain ⟨t', h1, t1', h1', h⟩ := h
      split at h
      · rename_i ht
        rw [Bool.and_eq_true] at ht
        simp only [bind, Option.bind_eq_some_iff, pure, Option.some.injEq] at h
        obtain ⟨it', h2, it1', h2', e', h3, rfl⟩ := h
        have hb' : BlkOk X.N X.env.scope scope (ownOf N scope.names) := by rw [hs, hN]; exact blkOk_by hb
        have hg := fun (s : Shared) (H : Hp) (C : Addr) (cl : List (Str × Addr)) (fp : List Addr) => s_tgt (X := X.blk s H scope (compEnvC scope cl C X.env) fp) (p := ((ownOf N scope.names).map (·.2)).contains) (ok := locB scope) S.calm S.nd hN (fun x hx => blk_ok hx) 4 t t' h1 ht.1
        have hg1 := fun (s : Shared) (H : Hp) (C : Addr) (cl : List (Str × Addr)) (fp : List Addr) => s_tgt (X := X.blk s H scope (compEnvC scope cl C X.env) fp) (p := ((ownOf N scope.names).map (·.2)).contains) (ok := locB scope) S.calm S.nd hN (fun x hx => blk_ok hx) 4 t1 t1' h1' ht.2
        have he := fun (s : Shared) (H : Hp) (C : Addr) (cl : List (Str × Addr)) (fp : List Addr) => (ih _ elt e' h3 _ _ (S' s H C cl fp) (es s H C cl fp) hN).1
        have hi := s_it (tg := t) ih S hs hN h2
        have hi1 := fun (s : Shared) (H : Hp) (C : Addr) (cl : List (Str × Addr)) (fp : List Addr) => s_it (tg := t1) ih (S' s H C cl fp) (es s H C cl fp) hN h2'
        exact ⟨.inr ⟨t, it, t1, it1, _, _, _, _, _, _, rfl, hi, hb', hg, hi1, hg1, he, plain_fold (trI_plain h2) X.env, fun env x => plain_fold (trI_plain h2') env x, fun σ H Q q => s_lc2 q⟩⟩
      · cases h
    · cases h
  · cases h
theorem sE {P : Prog} {n : Nat} {F : Str → Bool} {N : List Str} (hF : ∀ f, F f = true → P.fn f ≠ none) : ∀ m, EOk P n F N m
  | 0 => fun sc e ex h => by unfold trE at h; cases h
  | m + 1 => by
    have ih := sE hF m (n := n) (N := N)
    intro sc e ex h X W S hs hN
    have hu := S.hu
    cases e with
    | Constant c k pos =>
      unfold trE at h
      obtain ⟨d, hd, rfl⟩ := Option.map_eq_some_iff.mp h
      obtain ⟨v, g1, g2⟩ := s_const (X := X) (k := k) (pos := pos) hd
      have g := s_lit (W := W) g1 g2
      exact ⟨g, s_truth g fun _ => rfl⟩
    | Name x pos =>
      unfold trE at h
      simp only at h
      split at h
      · rename_i ho
        obtain ⟨d1, d2, d3⟩ := okN_d ho
        split at h
        · rename_i hv
          obtain ⟨i, hi, rfl⟩ := Option.map_eq_some_iff.mp h
          have g := s_var (W := W) (pe_var (pos := pos) (hN ▸ slot_at hi) (vis_of hs hv) d1 d2)
          exact ⟨g, s_truth g fun _ => rfl⟩
        · split at h
          · rename_i hg
            rw [Bool.and_eq_true] at hg
            cases h
            have g := s_glo S (pos := pos) (glo_of hs hg.1) d1
            exact ⟨g, s_truth g fun _ => rfl⟩
          · cases h
      · cases h
    | BinOp a op b pos =>
      unfold trE at h
      simp only [bind, Option.bind_eq_some_iff, pure, Option.some.injEq] at h
      obtain ⟨o, h0, x, h1, y, h2, rfl⟩ := h
      cases trOp_eq h0
      have g := s_bin o (pos := pos) (ih sc a x h1 X W S hs hN).1 (ih sc b y h2 X W S hs hN).1
      exact ⟨g, s_truth g fun _ => rfl⟩
    | UnaryOp op a pos =>
      unfold trE at h
      cases op with
      | Not =>
        simp only [bind, Option.bind_eq_some_iff, pure, Option.some.injEq] at h
        obtain ⟨x, h1, rfl⟩ := h
        exact s_not (ih sc a x h1 X W S hs hN)
      | USub =>
        simp only [bind, Option.bind_eq_some_iff, pure, Option.some.injEq] at h
        obtain ⟨x, h1, rfl⟩ := h
        have g := s_neg (pos := pos) (ih sc a x h1 X W S hs hN).1
        exact ⟨g, s_truth g fun _ => rfl⟩
      | _ => cases h
    | BoolOp op es pos =>
      unfold trE at h
      obtain ⟨g1, g2⟩ := s_bool (pos := pos) ih S hs hN h
      exact ⟨g1, g2.pt⟩
    | IfExp c a b pos =>
      unfold trE at h
      simp only [bind, Option.bind_eq_some_iff, pure, Option.some.injEq] at h
      obtain ⟨z, h0, x, h1, y, h2, rfl⟩ := h
      exact s_ite (mX (wC_mono P n) x) (mX (wC_mono P n) y) (ih sc c z h0 X W S hs hN).2 (ih sc a x h1 X W S hs hN) (ih sc b y h2 X W S hs hN)
    | Compare a ops bs pos =>
      unfold trE at h
      simp only at h
      split at h
      · split at h
        · rename_i neg hneg
          simp only [bind, Option.bind_eq_some_iff, pure, Option.some.injEq] at h
          obtain ⟨c, h0, x, h1, rfl⟩ := h
          cases trIs_eq hneg
          obtain ⟨v, g1, g2⟩ := s_isC (X := X) h0
          exact s_isc neg c (ih sc a x h1 X W S hs hN).1 g1 g2
        · simp only [bind, Option.bind_eq_some_iff, pure, Option.some.injEq] at h
          obtain ⟨o1, h0, x, h1, y, h2, rfl⟩ := h
          cases trCop_eq h0
          exact s_cmp hu o1 (ih sc a x h1 X W S hs hN).1 (ih sc _ y h2 X W S hs hN).1 (plain_mark (trE_plain h2) _)
      · simp only [bind, Option.bind_eq_some_iff, pure, Option.some.injEq] at h
        obtain ⟨o1, h0, o2, h0', x, h1, y, h2, z, h3, rfl⟩ := h
        cases trCop_eq h0
        cases trCop_eq h0'
        exact s_chain hu o1 o2 (ih sc a x h1 X W S hs hN).1 (ih sc _ y h2 X W S hs hN).1 (ih sc _ z h3 X W S hs hN).1 (by
          show behindInMarks _ _ = false
          exact plain_mark (trE_plain h3) _)
      · cases h
    | Tuple es k pos =>
      unfold trE at h
      obtain ⟨r, hr, rfl⟩ := Option.map_eq_some_iff.mp h
      have g := s_tup (pos := pos) (k := k) (s_es ih S hs hN hr).1
      exact ⟨g, s_truth g fun _ => rfl⟩
    | List es pos =>
      unfold trE at h
      obtain ⟨r, hr, rfl⟩ := Option.map_eq_some_iff.mp h
      have g := s_lst (pos := pos) (s_es ih S hs hN hr).1
      exact ⟨g, s_truth g fun _ => rfl⟩
    | Call f es ks pos =>
      suffices g : PE X (.Call f es ks pos) (eOf X W (wX (wC P n) P.gl ex)) from ⟨g, s_truth g fun _ => rfl⟩
      cases ks with
      | cons _ _ =>
        unfold trE at h
        cases h
      | nil =>
      unfold trE at h
      simp only at h
      split at h
      · -- a name
        rename_i x p
        split at h
        · rename_i ho
          obtain ⟨d1, d2, d3⟩ := okN_d ho
          split at h
          · rename_i hv
            split at h
            · cases h
            · simp only [bind, Option.bind_eq_some_iff, pure, Option.some.injEq] at h
              obtain ⟨i, hi, r, hr, rfl⟩ := h
              obtain ⟨g1, g2, _⟩ := s_es ih S hs hN hr
              cases es with
              | nil => exact absurd rfl (by assumption)
              | cons e es => exact s_callv S (hN ▸ slot_at hi) (vis_of hs hv) d1 d2 g2 g1
          · split at h
            · rename_i hg
              have hG := glo_of hs hg
              split at h
              · split at h
                · rename_i a
                  split at h
                  · simp only [bind, Option.bind_eq_some_iff, pure, Option.some.injEq] at h
                    obtain ⟨b, hb, y, h1, rfl⟩ := h
                    exact s_b1 S hb hG (trE_plain h1) (ih sc _ y h1 X W S hs hN).1
                  · rename_i hi
                    obtain ⟨p2, a', pos2, rfl, hr, h1⟩ := trI_1 hi
                    split at h
                    · rename_i hx; cases h
                      exact s_rng1 S true hx hG (glo_of hs hr) (trE_plain h1) (ih sc _ _ h1 X W S hs hN).1
                    · split at h
                      · rename_i hx; cases h
                        exact s_rng1 S false hx hG (glo_of hs hr) (trE_plain h1) (ih sc _ _ h1 X W S hs hN).1
                      · cases h
                  · rename_i hi
                    obtain ⟨p2, a', b', pos2, rfl, hr, h1, h2⟩ := trI_2 hi
                    split at h
                    · rename_i hx; cases h
                      exact s_rng2 S true hx hG (glo_of hs hr) (trE_plain h1) (trE_plain h2) (ih sc _ _ h1 X W S hs hN).1 (ih sc _ _ h2 X W S hs hN).1
                    · split at h
                      · rename_i hx; cases h
                        exact s_rng2 S false hx hG (glo_of hs hr) (trE_plain h1) (trE_plain h2) (ih sc _ _ h1 X W S hs hN).1 (ih sc _ _ h2 X W S hs hN).1
                      · cases h
                  · cases h
                  · cases h
                · rename_i a b
                  split at h
                  · rename_i hx
                    cases hx
                    split at h
                    · split at h
                      · rename_i hgt
                        simp only [bind, Option.bind_eq_some_iff, pure, Option.some.injEq] at h
                        obtain ⟨ty, hty, y, h1, rfl⟩ := h
                        exact s_isa S hty hG (glo_of hs hgt) (trE_plain h1) (ih sc _ y h1 X W S hs hN).1
                      · cases h
                    · cases h
                  · simp only [bind, Option.bind_eq_some_iff, pure, Option.some.injEq] at h
                    obtain ⟨o, ho, y, h1, z, h2, rfl⟩ := h
                    exact s_b2 S ho hG (trE_plain h1) (trE_plain h2) (ih sc _ y h1 X W S hs hN).1 (ih sc _ z h2 X W S hs hN).1
                · cases h
              · split at h
                · rename_i hf
                  simp only [bind, Option.bind_eq_some_iff, pure, Option.some.injEq] at h
                  obtain ⟨r, hr, rfl⟩ := h
                  obtain ⟨g1, g2, g3⟩ := s_es ih S hs hN hr
                  exact s_call S (hF _ hf) hG d1 g2 g1 g3
                · cases h
            · cases h
        · cases h
      · -- a method
        rename_i o nm apos
        split at h
        · rename_i hl
          simp only [bind, Option.bind_eq_some_iff, pure, Option.some.injEq] at h
          obtain ⟨k, hk, x, h1, r, hr, rfl⟩ := h
          obtain ⟨g1, g2, g3⟩ := s_es ih S hs hN hr
          exact s_mt hu hk hl (trE_plain h1) g2 (ih sc _ x h1 X W S hs hN).1 g1 g3
        · cases h
      · cases h
    | Subscript a i pos =>
      suffices g : PE X (.Subscript a i pos) (eOf X W (wX (wC P n) P.gl ex)) from ⟨g, s_truth g fun _ => rfl⟩
      unfold trE at h
      simp only at h
      split at h
      · split at h
        · simp only [bind, Option.bind_eq_some_iff, pure, Option.some.injEq] at h
          obtain ⟨x, h1, l, h2, u, h3, rfl⟩ := h
          exact s_sl (ih sc a x h1 X W S hs hN).1 (s_o ih S hs hN h2) (s_o ih S hs hN h3)
        · simp only [bind, Option.bind_eq_some_iff, pure, Option.some.injEq] at h
          obtain ⟨k, hk, x, h1, l, h2, u, h3, rfl⟩ := h
          exact s_sls hk (ih sc a x h1 X W S hs hN).1 (s_o ih S hs hN h2) (s_o ih S hs hN h3)
      · simp only [bind, Option.bind_eq_some_iff, pure, Option.some.injEq] at h
        obtain ⟨x, h1, y, h2, rfl⟩ := h
        exact s_ix (ih sc a x h1 X W S hs hN).1 (ih sc _ y h2 X W S hs hN).1 (plain_ix (trE_plain h2))
    | ListComp elt gens scope pos =>
      suffices g : PE X (.ListComp elt gens scope pos) (eOf X W (wX (wC P n) P.gl ex)) from ⟨g, s_truth g fun _ => rfl⟩
      rcases (lc_ok ih S hs hN h).one with ⟨tg, iter, ifs, own, g, tt, te, wi, rfl, h1, h2, h3, h4, h5, h6, h7⟩ | ⟨tg, iter, tg1, iter1, own, g, g1, te, wi, wi1, rfl, h1, h2, h3, h4, h5, h6, h7, h8, h9⟩
      · exact PE_le (pe_lc S.calm S.nd h1 h2 h3 h4 h5 h6) h7
      · exact PE_le (pe_lc2 S.calm S.nd h1 h2 (fun i hi => hi) h3 (fun _ _ _ _ _ => pts_nil) h4 h5 (fun _ _ _ _ _ => pts_nil) h6 h7 h8) h9
    | _ => unfold trE at h; cases h
end Py
namespace Py
open L2 PySem.Spec PySem PyProof.Rows
structure KsOk (K : PySem.W.Frag) (M : Str → Option Value) (W : WX) (h : AH) (H : Hp) (k : Ks) (D : Ends) : Prop where
  nx : ∀ env' h' σ' H', k.nx env' h' → Tr h H h' H' → RelH K M h' H' → RelS K M H' σ' env' → D.nx σ' H'
  rt : ∀ d h' v H', k.rt d h' → Tr h H h' H' → RelH K M h' H' → Rep K M H' v d → D.rt v H'
  bk : ∀ env' h' σ' H', k.bk env' h' → Tr h H h' H' → RelH K M h' H' → RelS K M H' σ' env' → D.bk σ' H'
  ct : ∀ env' h' σ' H', k.ct env' h' → Tr h H h' H' → RelH K M h' H' → RelS K M H' σ' env' → D.ct σ' H'
  ex : ∀ env' c h' σ' H' d a, k.ex env' c h' → Tr h H h' H' → RelH K M h' H' → RelS K M H' σ' env' → M c = some (.ref a) → W (.ref a) d σ' H'
def tsOf (K : PySem.W.Frag) (M : Str → Option Value) (W : WX) (m : TS) : L2.TS := fun D σ H => ∃ env h k, RelH K M h H ∧ RelS K M H σ env ∧ m env h k ∧ KsOk K M W h H k D
abbrev sOf (X : Cx) (W : WX) (m : TS) : L2.TS := tsOf X.K X.mg W m
section
variable {K : PySem.W.Frag} {M : Str → Option Value} {W : WX} {h h' : AH} {H H' : Hp} {k : Ks} {Dn : Ends} {σ : L2.St} {env : Env}
theorem KsOk.go (o : KsOk K M W h H k Dn) (t : Tr h H h' H') : KsOk K M W h' H' k Dn :=
  ⟨fun e2 h2 s2 H2 q t2 => o.nx e2 h2 s2 H2 q (t.trans t2), fun d h2 v H2 q t2 => o.rt d h2 v H2 q (t.trans t2), fun e2 h2 s2 H2 q t2 => o.bk e2 h2 s2 H2 q (t.trans t2), fun e2 h2 s2 H2 q t2 => o.ct e2 h2 s2 H2 q (t.trans t2),
    fun e2 c h2 s2 H2 d a q t2 => o.ex e2 c h2 s2 H2 d a q (t.trans t2)⟩
theorem KsOk.now (o : KsOk K M W h H k Dn) (rel : RelH K M h H) (rs : RelS K M H σ env) : Now K M W σ env h H (k.ex env) := ⟨rel, rs, fun c h2 H2 d a x t r e => o.ex env c h2 σ H2 d a x t r (rs.mono (t.mn rel)) e⟩
/-- a value that is kept -/
theorem tE_of {a : TX} {Q0 : D → AH → Prop} {X0 : Xc} {Q : VK} (nw : Now K M W σ env h H X0) (q : tE a env h Q0 X0) (hq : ∀ d h' v H', Q0 d h' → Tr h H h' H' → RelH K M h' H' → Rep K M H' v d → Q v H') : tOf K M W a σ H Q :=
  ⟨env, h, _, X0, nw, q, fun r h1 v1 H1 q1 t1 r1 p1 => by
    obtain ⟨d, h2, q2, t2, r2, p2⟩ := rv_take q1 t1 r1 p1
    exact hq d h2 v1 H1 q2 t2 r2 p2⟩
end
/-- the sight of a body's statements -/
structure SitS (P : Prog) (n : Nat) (Xs : Str → Bool) (X : Cx) (W : WX) : Prop where
  s : Sit P n X W
  kind :
      X.env.scope.kind = .function
  fn : ∀ x, X.fn x = true
  po : PassesOwn (model X.prog X.w) X.A X.env X.xe
  stk : X.stack = X.env :: X.outer
  frm : X.env.frame = some X.env.locals
  cls : ∀ c, Xs c = true → ∃ C, X.mg c = some (.ref C) ∧ PySem.W.keepIn X.K (.ref C) = true ∧ Raises X (.ref C) ∧ ∃ B newId initId bmB, ExcBaseFacts B newId initId bmB ∧ PySem.W.excIn X.K C bmB newId = true
  sub : ∀ x c k a b, P.sub x c = some k → X.mg x = some (.ref a) → X.mg c = some (.ref b) → PySem.W.exmOne X.K (.ref a) (.ref b) = some k
section
variable {X : Cx} {W : WX} {P : Prog} {n : Nat} {Xs : Str → Bool} {a b c e : Expr} {pos : Pos} {ma mb mc : TX} {m1 m2 : TS} {st : Stmt} {s1 s2 : List Stmt} {i : Nat} {x : Str}
theorem z_pass : PS X (.Pass pos) (sOf X W sPass) := PS_le ps_pass fun D σ H ⟨env, h, k, rel, rs, q, o⟩ => o.nx _ _ _ _ q .refl rel rs
theorem z_doc {y : Str} {j : Nat} {p2 : Pos} : PS X (.Expr (.Constant (.str y) j p2) pos) (sOf X W sPass) := PS_le ps_doc fun D σ H ⟨env, h, k, rel, rs, q, o⟩ => o.nx _ _ _ _ q .refl rel rs
theorem z_brk : PS X (.Break pos) (sOf X W sBrk) := PS_le ps_break fun D σ H ⟨env, h, k, rel, rs, q, o⟩ => o.bk _ _ _ _ q .refl rel rs
theorem z_cnt : PS X (.Continue pos) (sOf X W sCnt) := PS_le ps_continue fun D σ H ⟨env, h, k, rel, rs, q, o⟩ => o.ct _ _ _ _ q .refl rel rs
theorem z_nil : PSs X [] (sOf X W sPass) := PSs_le pss_nil fun D σ H ⟨env, h, k, rel, rs, q, o⟩ => o.nx _ _ _ _ q .refl rel rs
theorem z_cons (g1 : PS X st (sOf X W m1)) (g2 : PSs X s2 (sOf X W m2)) : PSs X (st :: s2) (sOf X W (bCons m1 m2)) :=
  PSs_le (pss_cons g1 g2) fun D σ H ⟨env, h, k, rel, rs, q, o⟩ => ⟨env, h, _, rel, rs, q, ⟨fun e1 h1 σ1 H1 q1 t1 r1 s1 => ⟨e1, h1, k, r1, s1, q1, o.go t1⟩, o.rt, o.bk, o.ct, o.ex⟩⟩
theorem z_ret (ha : PE X a (eOf X W ma)) : PS X (.Return (some a) pos) (sOf X W (sRet ma)) := PS_le (ps_ret ha) fun D σ H ⟨env, h, k, rel, rs, q, o⟩ => tE_of (o.now rel rs) q o.rt
theorem z_retn : PS X (.Return none pos) (sOf X W sRetn) := PS_le ps_retN fun D σ H ⟨env, h, k, rel, rs, q, o⟩ => o.rt _ _ _ _ q .refl rel .non
theorem z_expr (ha : PE X a (eOf X W ma)) (hs : swapsWith a none pos.line X.env = pure false) : PS X (.Expr a pos) (sOf X W (sExpr ma)) := PS_le (ps_expr ha hs) fun D σ H ⟨env, h, k, rel, rs, q, o⟩ =>
  ⟨env, h, _, _, o.now rel rs, q, fun r h1 v1 H1 q1 t1 r1 p1 => o.nx _ _ _ _ q1 t1 r1 (rs.mono (t1.mn rel))⟩
theorem z_if (hc : PT X c (cOf X W mc)) (g1 : PSs X s1 (sOf X W m1)) (g2 : PSs X s2 (sOf X W m2)) : PS X (.If c s1 s2 pos) (sOf X W (sIf mc m1 m2)) :=
  PS_le (ps_if hc g1 g2) fun D σ H ⟨env, h, k, rel, rs, q, o⟩ => ⟨env, h, _, _, o.now rel rs, q, fun b h1 H1 q1 t1 r1 => by
    cases b with
    | true => exact ⟨env, h1, k, r1, rs.mono (t1.mn rel), q1, o.go t1⟩
    | false => exact ⟨env, h1, k, r1, rs.mono (t1.mn rel), q1, o.go t1⟩⟩
theorem KsOk.turn {K : PySem.W.Frag} {M : Str → Option Value} {W : WX} {h : AH} {H : Hp} {k : Ks} {D : Ends} (o : KsOk K M W h H k D) {nx : Env → AH → Prop} {N : L2.St → Hp → Prop}
    (hN : ∀ env' h' σ' H', nx env' h' → Tr h H h' H' → RelH K M h' H' → RelS K M H' σ' env' → N σ' H') : KsOk K M W h H (k.turn nx) { D with nx := N, ct := N, bk := D.nx } := ⟨hN, o.rt, o.nx, hN, o.ex⟩
theorem z_whl (S : SitS P n Xs X W) (hc : PT X c (cOf X W mc)) (g1 : PSs X s1 (sOf X W m1)) : PS X (.While c s1 [] pos) (sOf X W (sWhl mc m1)) :=
  PS_le (ps_while S.po hc g1) fun D σ H ⟨env, h, k, rel, rs, ⟨W1, ⟨m0, w0⟩, q⟩, o⟩ =>
    ⟨fun m σ' H' => ∃ env' h', W1 m env' h' ∧ Tr h H h' H' ∧ RelH X.K X.mg h' H' ∧ RelS X.K X.mg H' σ' env', ⟨m0, env, h, w0, .refl, rel, rs⟩, fun m σ' H' ⟨env', h', w, t, r, s⟩ =>
      ⟨env', h', _, _, (o.go t).now r s, q m env' h' w, fun b h1 H1 q1 t1 r1 => by
        cases b with
        | true =>
          refine ⟨fun σ2 H2 => ∃ m', m' < m ∧ ∃ env2 h2, W1 m' env2 h2 ∧ Tr h H h2 H2 ∧ RelH X.K X.mg h2 H2 ∧ RelS X.K X.mg H2 σ2 env2, fun σ2 H2 z => z, env', h1, _, r1, s.mono (t1.mn r), q1, ?_⟩
          exact (o.go (t.trans t1)).turn fun e2 h2 σ2 H2 ⟨m', hm, w2⟩ t2 r2 s2 => ⟨m', hm, e2, h2, w2, (t.trans t1).trans t2, r2, s2⟩
        | false => exact o.nx _ _ _ _ q1 (t.trans t1) r1 (s.mono (t1.mn r))⟩⟩
theorem z_for {tg it : Expr} {mi : TI} {mt : TG} (S : SitS P n Xs X W) (hi : PI X tg it (iOf X W mi)) (ht : PG X tg (gOf X (fun _ => true) mt)) (g1 : PSs X s1 (sOf X W m1)) (hf : ∀ x, foldedSetIterable it X.env x = pure x) : PS X (.For tg it s1 [] pos) (sOf X W (sFor mt mi m1)) :=
  PS_le (ps_for S.po S.s.calm hi ht g1 hf) fun D σ H ⟨env, h, k, rel, rs, q, o⟩ => ⟨env, h, _, _, o.now rel rs, q, fun s h1 J H1 q1 t1 r1 wk => by
    refine ⟨fun i m σ' H' => ∃ env' h', m = s.items.length - i ∧ i ≤ s.items.length ∧ wFor s.chk (bdF mt m1 k) k.nx (s.items.drop i) env' h' ∧ Tr h1 H1 h' H' ∧ RelH X.K X.mg h' H' ∧ RelS X.K X.mg H' σ' env',
      ⟨_, env, h1, rfl, Nat.zero_le _, q1, .refl, r1, rs.mono (t1.mn rel)⟩, ?_⟩
    rintro i m σ' H' ⟨env', h', rfl, hi, w, t, r, s'⟩
    by_cases e : i < s.items.length
    · refine .inr ?_
      have hx : s.items[i]? = some s.items[i] := List.getElem?_eq_getElem e
      rw [List.drop_eq_getElem_cons e] at w
      obtain ⟨ck, w⟩ := w
      obtain ⟨go, yl⟩ := (wk h' H' (fun p o n e z => t.keep p o e z) (t.mn r1) r ck i).1 _ hx
      refine ⟨go, fun σ2 H2 => ∃ env2 h2, wFor s.chk (bdF mt m1 k) k.nx (s.items.drop (i + 1)) env2 h2 ∧ Tr h1 H1 h2 H2 ∧ RelH X.K X.mg h2 H2 ∧ RelS X.K X.mg H2 σ2 env2,
        fun σ2 H2 ⟨env2, h2, w2, t2, r2, s2⟩ => ⟨s.items.length - (i + 1), by omega, env2, h2, rfl, e, w2, t2, r2, s2⟩, fun x H2 y => ?_⟩
      obtain ⟨rfl, rx⟩ := yl x H2 y
      refine ⟨_, env', h', _, r, s', rx, w, fun env3 h3 σ3 H3 q3 t3 r3 s3 _ => ⟨env3, h3, _, r3, s3, q3, ?_⟩⟩
      exact (o.go ((t1.trans t).trans t3)).turn fun e2 h2 σ2 H2 w2 t2 r2 s2 => ⟨e2, h2, w2, (t.trans t3).trans t2, r2, s2⟩
    · have ei : i = s.items.length := by omega
      subst ei
      rw [List.drop_length] at w
      exact .inl ⟨(wk h' H' (fun p o n e z => t.keep p o e z) (t.mn r1) r w.1 _).2 (Nat.le_refl _), o.nx _ _ _ _ w.2 (t1.trans t) r s'⟩⟩
theorem z_asg {tg : Expr} {mt : TG} (ha : PE X a (eOf X W ma)) (ht : PG X tg (gOf X (fun _ => true) mt)) (hs : swapsWithSole [tg] a pos.line X.env = pure false) (hw : swappedStores [tg] a X.env = pure none) (h1 : (assignEach [tg] X.env).map (·.2) = [assign tg X.env]) :
    PS X (.Assign [tg] a pos) (sOf X W (sAsg mt ma)) :=
  PS_le (ps_asg ha ht hs hw h1) fun D σ H ⟨env, h, k, rel, rs, q, o⟩ => tE_of (o.now rel rs) q fun d h1 v H1 q1 t1 r1 p1 =>
    ⟨d, env, h1, _, r1, rs.mono (t1.mn rel), p1, q1, fun e2 h2 σ2 H2 q2 t2 r2 s2 _ => o.nx _ _ _ _ q2 (t1.trans t2) r2 s2⟩
/-- name = value: what is shown of the value's reading -/
theorem z_nm {te : L2.TE} (g : PS X st (tAsg te (gName i))) (hle : ∀ σ H Q, eOf X W ma σ H Q → te σ H Q) : PS X st (sOf X W (sAsg (gNm i) ma)) :=
  PS_le g fun D σ H ⟨env, h, k, rel, rs, q, o⟩ => hle _ _ _ (tE_of (o.now rel rs) q fun d h1 v H1 q1 t1 r1 p1 => o.nx _ _ _ _ q1 t1 r1 ((rs.mono (t1.mn rel)).set p1 i))
theorem z_set {o i : Expr} {mo mi : TX} {p2 : Pos} (ha : PE X a (eOf X W ma)) (ho : PE X o (eOf X W mo)) (hi : PE X i (eOf X W mi)) (hs : swapsWithSole [.Subscript o i p2] a pos.line X.env = pure false) (hw : swappedStores [.Subscript o i p2] a X.env = pure none) (hns : plainE i = true) :
    PS X (.Assign [.Subscript o i p2] a pos) (sOf X W (sSet mo mi ma)) :=
  PS_le (ps_asg ha (pg_sub ho hi set_ok (by intro v; cases i <;> first | rfl | cases hns)) hs hw rfl) fun D σ H ⟨env, h, k, rel, rs, q, oo⟩ => tE_of (oo.now rel rs) q fun d h1 v H1 q1 t1 r1 p1 =>
    tE_of ((oo.now rel rs).go t1 r1) q1 fun d2 h2 v2 H2 q2 t2 r2 p2 => tE_of (((oo.now rel rs).go t1 r1).go t2 r2) q2 fun d3 h3 v3 H3 ⟨h4, e4, q4⟩ t3 r3 p3 =>
      ⟨h3, d2, d3, d, h4, r3, p2.mono (t3.mn r2), p3, (p1.mono (t2.mn r1)).mono (t3.mn r2), e4, fun H4 t4 r4 => oo.nx _ _ _ _ q4 (((t1.trans t2).trans t3).trans t4) r4 (rs.mono ((((t1.trans t2).trans t3).trans t4).mn rel))⟩
theorem z_aug (op : Bop) {p2 : Pos} (nd : X.N.Nodup) (hi : X.N[i]? = some x) (hx : Loc X.env.scope x) (hf : X.fn x = true) (ha : PE X a (eOf X W ma)) : PS X (.AugAssign (.Name x p2) (opOf op) a pos) (sOf X W (sAug i op ma)) :=
  PS_le (ps_aug nd hi hx ha (fun pins s σ H x y v u Q I r r' q => augR (aug_ok op) I r r' q) (.inl hf)) fun D σ H ⟨env, h, k, rel, rs, ⟨d, ed, q⟩, o⟩ => by
    obtain ⟨v, ev, rv⟩ := rs.lk ed
    refine ⟨v, ev, env, h, _, _, o.now rel rs, q, fun r h1 v1 H1 ⟨p, ep, q1⟩ t1 r1 p1 => ?_⟩
    refine ⟨h1, d, r, p.1, p.2, r1, rv.mono (t1.mn rel), p1.opd, ep, fun v2 H2 t2 r2 p2 => ?_⟩
    obtain ⟨d2, h3, q3, t3, r3, p3⟩ := rv_take q1 t2 r2 p2
    exact o.nx _ _ _ _ q3 (t1.trans t3) r3 ((rs.mono ((t1.trans t3).mn rel)).set p3 i)
theorem z_rais {m : Str} {j : Nat} {p p2 p3 : Pos} (S : SitS P n Xs X W) (hc : Xs c1 = true) (hg : Gl X c1) (hd : (c1 == ("__debug__" : Str)) = false) : PS X (.Raise (some (.Call (.Name c1 p) [.Constant (.str m) j p2] [] p3)) none pos) (sOf X W (sRais c1)) := by
  obtain ⟨C, h1, h2, h3, B, nw, it, bm, F, h4⟩ := S.cls _ hc
  exact PS_le (ps_raise S.s.calm S.s.tk (pmk_own F h4 h1 h2 h3 hg hd)) fun D σ H ⟨env, h, k, rel, rs, q, o⟩ => o.ex _ _ _ _ _ _ _ q .refl rel rs h1
theorem z_par {i j : Nat} {y : Str} {b : Expr} {ms : TEs} {px py pt : Pos} {kt k2 : Nat} {pt2 : Pos} (S : SitS P n Xs X W) (hi : X.N[i]? = some x) (hj : X.N[j]? = some y) (hij : i ≠ j) (hx : X.env.scope.names.lookup x = some .local) (hy : X.env.scope.names.lookup y = some .local)
    (ha : PA X [a, b] (aOf X W ms)) (hw : swappedStores [.Tuple [.Name x px, .Name y py] kt pt] (.Tuple [a, b] k2 pt2) X.env = pure (some [x, y])) :
    PS X (.Assign [.Tuple [.Name x px, .Name y py] kt pt] (.Tuple [a, b] k2 pt2) pos) (sOf X W (sAsg (gTp (gCons (gNm i) (gCons (gNm j) gNil))) (xTup ms))) :=
  PS_le (ps_par S.s.calm S.s.nd hi hj hij hx hy ha hw rfl) fun D σ H ⟨env, h, k, rel, rs, q, o⟩ => ⟨env, h, _, _, o.now rel rs, q, fun ds h1 vs H1 ⟨_, q1⟩ t1 r1 p1 => by
    obtain ⟨xs, e, q1⟩ := q1
    cases (show some ds = some xs from e)
    match ds, vs, p1, q1 with
    | [d1, d2], [v1, v2], .cons a1 (.cons a2 .nil), q1 =>
      exact ⟨v1, v2, rfl, o.nx _ _ _ _ q1.2 t1 r1 (((rs.mono (t1.mn rel)).set a1 i).set a2 j)⟩
    | d1 :: d2 :: d3 :: r, _, _, q1 => cases q1.1
    | [d1], _, _, q1 => exact q1.elim
    | [], _, _, q1 => exact q1.elim⟩
theorem z_par3 {i j l : Nat} {y z : Str} {b c : Expr} {ms : TEs} {px py pz pt : Pos} {kt k2 : Nat} {pt2 : Pos} (S : SitS P n Xs X W) (hi : X.N[i]? = some x) (hj : X.N[j]? = some y) (hl : X.N[l]? = some z) (hij : i ≠ j) (hil : i ≠ l) (hjl : j ≠ l)
    (hx : X.env.scope.names.lookup x = some .local) (hy : X.env.scope.names.lookup y = some .local) (hz : X.env.scope.names.lookup z = some .local)
    (ha : PA X [a, b, c] (aOf X W ms)) (hw : swappedStores [.Tuple [.Name x px, .Name y py, .Name z pz] kt pt] (.Tuple [a, b, c] k2 pt2) X.env = pure (some [x, y, z])) :
    PS X (.Assign [.Tuple [.Name x px, .Name y py, .Name z pz] kt pt] (.Tuple [a, b, c] k2 pt2) pos) (sOf X W (sAsg (gTp (gCons (gNm i) (gCons (gNm j) (gCons (gNm l) gNil)))) (xTup ms))) :=
  PS_le (ps_par3 S.s.calm S.s.nd hi hj hl hij hil hjl hx hy hz ha hw rfl) fun D σ H ⟨env, h, k, rel, rs, q, o⟩ => ⟨env, h, _, _, o.now rel rs, q, fun ds h1 vs H1 ⟨_, q1⟩ t1 r1 p1 => by
    obtain ⟨xs, e, q1⟩ := q1
    cases (show some ds = some xs from e)
    match ds, vs, p1, q1 with
    | [d1, d2, d3], [v1, v2, v3], .cons a1 (.cons a2 (.cons a3 .nil)), q1 =>
      exact ⟨v1, v2, v3, rfl, o.nx _ _ _ _ q1.2 t1 r1 ((((rs.mono (t1.mn rel)).set a1 i).set a2 j).set a3 l)⟩
    | d1 :: d2 :: d3 :: d4 :: r, _, _, q1 => cases q1.1
    | [d1, d2], _, _, q1 => exact q1.elim
    | [d1], _, _, q1 => exact q1.elim
    | [], _, _, q1 => exact q1.elim⟩
theorem SitS.tr (S : SitS P n Xs X W) (W' : WX) (pn : List (Addr × Obj)) (xe : Value → Shared → Prop) (tk : Takes (X.tr pn xe) W') (po : PassesOwn (model X.prog X.w) X.A X.env xe) : SitS P n Xs (X.tr pn xe) W' :=
  ⟨⟨S.s.calm, S.s.nd, S.s.room, S.s.blt, S.s.glo, fun f h => let ⟨fa, fd, ps, F⟩ := S.s.fns f h; ⟨fa, fd, ps, ⟨F.ok, F.np, F.mg, F.keep, F.binds⟩⟩, S.s.gfn, tk⟩, S.kind, S.fn, po, S.stk, S.frm, S.cls, S.sub⟩
theorem z_try {cx : Str} {np p2 p3 pos' : Pos} {kc : Const} {j : Nat} {d : D} (S : SitS P n Xs X W) (hc : Xs cx = true) (hg : Gl X cx) (hd : (cx == ("__debug__" : Str)) = false) (hk : trC kc = some d)
    (hb : ∀ (W' : WX) (pn : List (Addr × Obj)) (xe : Value → Shared → Prop), SitS P n Xs (X.tr pn xe) W' → PSs (X.tr pn xe) s1 (sOf X W' m1)) :
    PS X (.Try s1 [.ExceptHandler (some (.Name cx np)) none [.Return (some (.Constant kc j p2)) p3] pos'] [] [] pos) (sOf X W (sTry P.sub m1 cx d)) := by
  obtain ⟨C, h1, h2, _⟩ := S.cls _ hc
  obtain ⟨v, _, hv⟩ := s_const (X := X) (k := j) (pos := p2) hk
  refine PS_le (ps_try_only (c := .ref C) (tb := fun W' => sOf X W' m1) (ts := fun _ _ _ => tRet (tC v)) S.stk S.frm ⟨hg, hd, .inl h1⟩ S.s.tk (fun W' pn xe tk po => hb W' pn xe (S.tr W' pn xe tk po)) fun a oe cls dd pn _ _ => ?_) fun D σ H ⟨env, h, k, rel, rs, q, o⟩ =>
    ⟨env, h, _, rel, rs, q, ⟨o.nx, o.rt, o.bk, o.ct, fun e2 y h2 σ2 H2 d2 a ⟨kk, ek, q2⟩ t2 r2 s2 hm => ?_⟩⟩
  · have hc : PE (X.suite a ((a, oe) :: pn)) (.Constant kc j p2) (tC v) := by
      unfold trC at hk
      split at hk
      · cases hk; cases hv (fun _ => none); exact pe_non
      · cases hk; cases hv (fun _ => none); exact pe_bl
      · cases hk; cases hv (fun _ => none); exact pe_int
      · cases hk; cases hv (fun _ => none); exact pe_str
      · cases hk
    exact pss_one (ps_ret hc)
  · refine ⟨kk, S.sub _ _ _ _ _ ek hm h1, fun e a' _ => ?_, fun e => ?_⟩
    · subst e
      exact o.rt _ _ _ _ q2 t2 r2 (hv H2)
    · subst e
      exact o.ex _ _ _ _ _ _ _ q2 t2 r2 s2 hm
end
end Py
namespace Py
open L2 PySem.Spec PySem PyProof.Rows
theorem bk_fun {env : PySem.Env} (h : env.scope.kind = .function) : env.blockKind = .function := by unfold Env.blockKind; rw [h]; rfl
theorem lcl_eq {sc : Scope} {x : Str} : lclB sc x = (sc.names.lookup x == some .local) := by
  unfold lclB
  split
  · rename_i e; rw [e]; rfl
  · rename_i e
    cases h : sc.names.lookup x with
    | none => rfl
    | some k => cases k <;> first | rfl | exact absurd h e
theorem sw_nm {e : Expr} {t : Str} {p : Pos} {l : Nat} {env : PySem.Env} {sc : Scope} {F : Str → Bool} {N : List Str} {m : Nat} {ex : Ex} (hk : env.scope.kind = .function) (hs : env.scope = sc) (he : trE F N m sc e = some ex) :
    swapsWith e (some (.Name t p)) l env = pure (swB sc t p e) := by
  cases m with
  | zero => unfold trE at he; cases he
  | succ m =>
    cases e with
    | SetComp _ _ _ _ => unfold trE at he; cases he
    | DictComp _ _ _ _ _ => unfold trE at he; cases he
    | ListComp elt gs s q =>
      unfold swapsWith swB
      simp only [bk_fun hk, lcl_eq]
      rw [← hs]
      rfl
    | _ => rfl
theorem sw_o {e : Expr} {o i : Expr} {p : Pos} {l : Nat} {env : PySem.Env} : swapsWith e (some (.Subscript o i p)) l env = pure false := by
  cases e <;> rfl
theorem sw_t {e : Expr} {ts : List Expr} {k : Nat} {p : Pos} {l : Nat} {env : PySem.Env} : swapsWith e (some (.Tuple ts k p)) l env = pure false := by
  cases e <;> rfl
theorem sw_n {e : Expr} {l : Nat} {env : PySem.Env} {sc : Scope} {F : Str → Bool} {N : List Str} {m : Nat} {ex : Ex} (he : trE F N m sc e = some ex) (hn : ∀ a b c d, e ≠ .ListComp a b c d) : swapsWith e none l env = pure false := by
  cases m with
  | zero => unfold trE at he; cases he
  | succ m =>
    cases e with
    | SetComp _ _ _ _ => unfold trE at he; cases he
    | DictComp _ _ _ _ _ => unfold trE at he; cases he
    | ListComp a b c d => exact absurd rfl (hn a b c d)
    | _ => rfl
theorem ss_no {t e : Expr} {env : PySem.Env} (h : ∀ ts k p, e ≠ .Tuple ts k p) : swappedStores [t] e env = pure none := by
  cases e with
  | Tuple ts k p => exact absurd rfl (h ts k p)
  | _ => cases t <;> rfl
theorem ss_sub {o i e : Expr} {p : Pos} {env : PySem.Env} : swappedStores [.Subscript o i p] e env = pure none := by
  cases e <;> rfl
theorem star_eq (vs : List Expr) : (vs.any fun | .Starred .. => true | _ => false) = vs.any isStar := by
  congr 1
theorem ss_eq {ts vs : List Expr} {k k2 : Nat} {p p2 : Pos} {env : PySem.Env} {sc : Scope} {r : Option (List Str)} (hk : env.scope.kind = .function) (hs : env.scope = sc) (h : swC sc ts vs = some r) : swappedStores [.Tuple ts k p] (.Tuple vs k2 p2) env = pure r := by
  unfold swappedStores
  unfold swC at h
  simp only [bk_fun hk]
  subst hs
  rw [show (ScopeKind.function != ScopeKind.function) = false from rfl, Bool.or_false]
  split at h
  · rename_i c
    cases h
    exact if_pos c
  rename_i c1
  refine (if_neg c1).trans ?_
  split at h
  · rename_i c
    cases h
    exact if_pos c
  rename_i c2
  refine (if_neg c2).trans ?_
  simp only at h
  split at h
  · rename_i c
    cases h
    exact if_pos c
  rename_i c3
  refine (if_neg c3).trans ?_
  split at h
  · rename_i c
    cases h
    exact if_pos c
  rename_i c4
  refine (if_neg c4).trans ?_
  split at h
  · cases h
  rename_i c5
  refine (if_neg c5).trans ?_
  cases h
  rfl
/-- a pair stored from the right: whose names they are -/
theorem nmS_eq {N : List Str} {sc : Scope} {e : Expr} {i : Nat} (h : nmS N sc e = some i) : ∃ x p, e = .Name x p ∧ sc.names.lookup x = some .local ∧ N[i]? = some x := by
  unfold nmS at h
  split at h
  · rename_i x p
    split at h
    · rename_i hl
      rw [lcl_eq] at hl
      exact ⟨x, p, rfl, by simpa using hl, slot_at h⟩
    · cases h
  · cases h
theorem swC_2 {sc : Scope} {x y : Str} {px py : Pos} {vs : List Expr} {r : List Str} (h : swC sc [.Name x px, .Name y py] vs = some (some r)) : r = [x, y] := by
  unfold swC at h
  split at h
  · cases h
  split at h
  · cases h
  simp only at h
  split at h
  · cases h
  rename_i c
  split at h
  · cases h
  split at h
  · cases h
  cases h
  simp only [Bool.or_eq_true, not_or, bne_iff_ne, ne_eq, Decidable.not_not] at c
  have c1 := c.1
  simp only [List.filterMap_cons, List.filterMap_nil] at c1 ⊢
  split at c1
  · split at c1 <;> simp at c1
  · rename_i h1
    split at c1
    · simp at c1
    · rename_i h2
      split at h1 <;> first | (cases h1; done) | skip
      split at h2 <;> first | (cases h2; done) | skip
      simp_all
theorem swC_3 {sc : Scope} {x y z : Str} {px py pz : Pos} {vs : List Expr} {r : List Str} (h : swC sc [.Name x px, .Name y py, .Name z pz] vs = some (some r)) : r = [x, y, z] := by
  unfold swC at h
  split at h
  · cases h
  split at h
  · cases h
  simp only at h
  split at h
  · cases h
  rename_i c
  split at h
  · cases h
  split at h
  · cases h
  cases h
  simp only [Bool.or_eq_true, not_or, bne_iff_ne, ne_eq, Decidable.not_not] at c
  have c1 := c.1
  simp only [List.filterMap_cons, List.filterMap_nil] at c1 ⊢
  split at c1
  · split at c1
    · split at c1 <;> simp at c1
    · split at c1 <;> simp at c1
  · rename_i h1
    split at c1
    · split at c1 <;> simp at c1
    · rename_i h2
      split at c1
      · simp at c1
      · rename_i h3
        split at h1 <;> first | (cases h1; done) | skip
        split at h2 <;> first | (cases h2; done) | skip
        split at h3 <;> first | (cases h3; done) | skip
        simp_all
end Py
namespace Py
open L2 PySem.Spec PySem PyProof.Rows
def SOk (P : Prog) (n : Nat) (F Xs : Str → Bool) (N : List Str) (m : Nat) : Prop := ∀ (sc : Scope) (st : PySem.Stmt) (s : St), trS F Xs N m sc st = some s → ∀ (X : Cx) (W : WX), SitS P n Xs X W → X.env.scope = sc → X.N = N →
  PS X st (sOf X W (wS (wC P n) P.gl P.sub s))
def BOk (P : Prog) (n : Nat) (F Xs : Str → Bool) (N : List Str) (m : Nat) : Prop := ∀ (sc : Scope) (b : List PySem.Stmt) (s : Sts), trS.go F Xs N m sc b = some s → ∀ (X : Cx) (W : WX), SitS P n Xs X W → X.env.scope = sc → X.N = N →
  PSs X b (sOf X W (wB (wC P n) P.gl P.sub s))
theorem b_of {P : Prog} {n : Nat} {F Xs : Str → Bool} {N : List Str} {m : Nat} (ih : SOk P n F Xs N m) : BOk P n F Xs N m := by
  intro sc b
  induction b with
  | nil =>
    intro s h X W S hs hN
    unfold trS.go at h
    cases h
    exact z_nil
  | cons a b ihb =>
    intro s h X W S hs hN
    unfold trS.go at h
    simp only [bind, Option.bind_eq_some_iff, pure, Option.some.injEq] at h
    obtain ⟨x, h1, y, h2, rfl⟩ := h
    exact z_cons (ih sc a x h1 X W S hs hN) (ihb y h2 X W S hs hN)
theorem loc_b {sc : Scope} {x : Str} (h : locB sc x = true) : Loc sc x := by
  unfold locB at h
  split at h
  · exact .inl (by assumption)
  · exact .inr (by assumption)
  · cases h
theorem okc {Xs : Str → Bool} {sc : Scope} {c : Str} (h : (Xs c && gloB sc c && okN c) = true) : Xs c = true ∧ gloB sc c = true ∧ (c == ("__debug__" : Str)) = false := by
  simp only [Bool.and_eq_true]
      at h
  exact ⟨h.1.1, h.1.2, (okN_d h.2).1⟩
theorem each1 {tg : Expr} {N : List Str} {ok : Str → Bool} {n : Nat} {t : Tg} (h : trT N ok n tg = some t) (env : PySem.Env) : (assignEach [tg] env).map (·.2) = [assign tg env] := by
  rw [trT_star h]
  rfl
theorem sw_ts {e : Expr} {ts : List Expr} {k : Nat} {p : Pos} {l : Nat} {env : PySem.Env} : swapsWithSole [.Tuple ts k p] e l env = pure false := by cases e <;> rfl
theorem sw_os {e o i : Expr} {p : Pos} {l : Nat} {env : PySem.Env} : swapsWithSole [.Subscript o i p] e l env = pure false := by cases e <;> rfl
theorem sS {P : Prog} {n : Nat} {F Xs : Str → Bool} {N : List Str} (hF : ∀ f, F f = true → P.fn f ≠ none) : ∀ m, SOk P n F Xs N m
  | 0 => fun sc st s h => by unfold trS at h; cases h
  | m + 1 => by
    have ihS := sS hF m (n := n) (N := N) (Xs := Xs)
    have ihB := b_of ihS
    have ih := sE hF trN (n := n) (N := N)
    intro sc st s h X W S hs hN
    have hk := S.kind
    have tgt : ∀ {tg : Expr} {t : Tg}, trT N (locB sc) 6 tg = some t → PG X tg (gOf X (fun _ => true) (wTg t)) := fun {tg t} h => s_tgt S.s.calm S.s.nd hN (fun x hx => ⟨hs ▸ loc_b hx, .inl (S.fn x)⟩) 6 tg t h (tgIn_all t)
    unfold trS at h
    split at h
    · -- an assignment
      rename_i tg e pos
      split at h
      · -- to a name
        rename_i x p
        split at h
        · rename_i hl
          simp only [bind, Option.bind_eq_some_iff, pure, Option.some.injEq] at h
          obtain ⟨i, hi, v, hv, rfl⟩ := h
          have hx : Loc X.env.scope x := hs ▸ loc_b hl
          have hi' : X.N[i]? = some x := hN ▸ slot_at hi
          have sw := sw_nm (t := x) (p := p) (l := pos.line) hk hs hv
          cases hb : swB sc x p e with
          | false =>
            rw [hb] at sw
            exact z_nm (ps_set S.s.nd hi' hx (ih sc e v hv X W S.s hs hN).1 sw (.inl (S.fn x))) fun _ _ _ q => q
          | true =>
            rw [hb] at sw
            cases e with
            | ListComp elt gens scope q =>
              have hy : X.env.scope.names.lookup x = some .local := by
                unfold swB at hb
                simp only [Bool.and_eq_true] at hb
                have := hb.1.1
                rw [lcl_eq, ← hs] at this
                simpa using this
              have hv' : trE F N (59 + 1) sc (.ListComp elt gens scope q) = some v := hv
              rcases (lc_ok (sE hF 59) S.s hs hN hv').one with ⟨tg, iter, ifs, own, g, tt, te, wi, rfl, h1, h2, h3, h4, h5, h6, h7⟩ | ⟨tg, iter, tg1, iter1, own, g, g1, te, wi, wi1, rfl, h1, h2, h3, h4, h5, h6, h7, h8, h9⟩
              · exact z_nm (ps_setLc S.s.calm S.s.nd hi' hy sw h1 h2 h3 h4 h5 h6) h7
              · exact z_nm (ps_setLc2 S.s.calm S.s.nd hi' hy sw h1 h2 (fun i hi => hi) h3 (fun _ _ _ _ _ => pts_nil) h4 h5 (fun _ _ _ _ _ => pts_nil) h6 h7 h8) h9
            | _ => cases hb
        · cases h
      · -- to several
        rename_i ts kt pt
        split at h
        · rename_i vs k2 p2
          split at h
          · cases h
          · rename_i hw
            simp only [bind, Option.bind_eq_some_iff, pure, Option.some.injEq] at h
            obtain ⟨t, ht, v, hv, rfl⟩ := h
            exact z_asg (ih sc _ v hv X W S.s hs hN).1 (tgt ht) sw_ts (ss_eq hk hs hw) (each1 ht _)
          · rename_i r hw
            split at h
            · rename_i a b c d
              simp only [bind, Option.bind_eq_some_iff, pure] at h
              obtain ⟨i, hi, j, hj, r2, hr, h⟩ := h
              split at h
              · cases h
              · rename_i hij
                cases h
                obtain ⟨x, px, rfl, hx, hix⟩ := nmS_eq hi
                obtain ⟨y, py, rfl, hy, hjy⟩ := nmS_eq hj
                have er := swC_2 hw
                subst er
                subst hs
                subst hN
                exact z_par S hix hjy hij hx hy (s_es ih S.s rfl rfl hr).1 (ss_eq hk rfl hw)
            · rename_i a b l c d m'
              simp only [bind, Option.bind_eq_some_iff, pure] at h
              obtain ⟨i, hi, j, hj, k, hk', r2, hr, h⟩ := h
              split at h
              · cases h
              · rename_i hij
                cases h
                obtain ⟨x, px, rfl, hx, hix⟩ := nmS_eq hi
                obtain ⟨y, py, rfl, hy, hjy⟩ := nmS_eq hj
                obtain ⟨z, pz, rfl, hz, hkz⟩ := nmS_eq hk'
                have er := swC_3 hw
                subst er
                subst hs
                subst hN
                exact z_par3 S hix hjy hkz (fun q => hij (.inl q)) (fun q => hij (.inr (.inl q))) (fun q => hij (.inr (.inr q))) hx hy hz (s_es ih S.s rfl rfl hr).1 (ss_eq hk rfl hw)
            · cases h
        · rename_i hne
          simp only [bind, Option.bind_eq_some_iff, pure, Option.some.injEq] at h
          obtain ⟨t, ht, v, hv, rfl⟩ := h
          exact z_asg (ih sc _ v hv X W S.s hs hN).1 (tgt ht) sw_ts (ss_no fun ts k p q => hne _ _ _ q) (each1 ht _)
      · -- to an item
        rename_i o i p
        split at h
        · cases h
        · simp only [bind, Option.bind_eq_some_iff, pure, Option.some.injEq] at h
          obtain ⟨v, hv, a, ha, k, hk2, rfl⟩ := h
          exact z_set (ih sc _ v hv X W S.s hs hN).1 (ih sc _ a ha X W S.s hs hN).1 (ih sc _ k hk2 X W S.s hs hN).1 sw_os ss_sub (trE_plain hk2)
      · cases h
    · -- op=
      split at h
      · rename_i hl
        simp only [bind, Option.bind_eq_some_iff, pure, Option.some.injEq] at h
        obtain ⟨i, hi, o, ho, v, hv, rfl⟩ := h
        cases trOp_eq ho
        exact z_aug o S.s.nd (hN ▸ slot_at hi) (hs ▸ loc_b hl) (S.fn _) (ih sc _ v hv X W S.s hs hN).1
      · cases h
    · -- an expression
      split at h
      · cases h
        exact z_doc
      · cases h
      · rename_i hn
        simp only [bind, Option.bind_eq_some_iff, pure, Option.some.injEq] at h
        obtain ⟨v, hv, rfl⟩ := h
        exact z_expr (ih sc _ v hv X W S.s hs hN).1 (sw_n hv fun a b c d q => hn _ _ _ _ q)
    · simp only [bind, Option.bind_eq_some_iff, pure, Option.some.injEq] at h
      obtain ⟨z, hz, x, hx, y, hy, rfl⟩ := h
      exact z_if (ih sc _ z hz X W S.s hs hN).2 (ihB sc _ x hx X W S hs hN) (ihB sc _ y hy X W S hs hN)
    · simp only [bind, Option.bind_eq_some_iff, pure, Option.some.injEq] at h
      obtain ⟨z, hz, x, hx, rfl⟩ := h
      exact z_whl S (ih sc _ z hz X W S.s hs hN).2 (ihB sc _ x hx X W S hs hN)
    · simp only [bind, Option.bind_eq_some_iff, pure, Option.some.injEq] at h
      obtain ⟨t, ht, z, hz, x, hx, rfl⟩ := h
      exact z_for S (s_it ih S.s hs hN hz) (tgt ht) (ihB sc _ x hx X W S hs hN) (plain_fold (trI_plain hz) X.env)
    · simp only [bind, Option.bind_eq_some_iff, pure, Option.some.injEq] at h
      obtain ⟨v, hv, rfl⟩ := h
      exact z_ret (ih sc _ v hv X W S.s hs hN).1
    · cases h
      exact z_retn
    · split at h
      · rename_i hc
        cases h
        obtain ⟨h1, h2, h3⟩ := okc hc
        exact z_rais S h1 (glo_of hs h2) h3
      · cases h
    · split at h
      · rename_i hc
        simp only [bind, Option.bind_eq_some_iff, pure, Option.some.injEq] at h
        obtain ⟨x, hx, d, hd, rfl⟩ := h
        obtain ⟨h1, h2, h3⟩ := okc hc
        exact z_try S h1 (glo_of hs h2) h3 hd fun W' pn xe S' => ihB sc _ x hx (X.tr pn xe) W' S' hs hN
      · cases h
    · cases h; exact z_pass
    · cases h; exact z_brk
    · cases h; exact z_cnt
    · cases h
end Py
/-! The defs of a program's top, and its law's end. -/
namespace Py
open L2 PySem.Spec PySem PyProof.Rows
/-- one def of the top -/
structure FnT where
  name : Str
  params : Arguments
  body : List PySem.Stmt
  scope : Scope
  ps : List Str
  N : List Str
  c : Fn
def FnT.d (t : FnT) : He.DefD := ⟨(t.name, none), t.name, t.name, t.params, t.body, t.scope, [], []⟩
def fsB (N ps : List Str) (sc : Scope) : Bool := sc.kind == .function && (!sc.isCoroutine && (!sc.isGenerator && (decide N.Nodup && (decide (N.take ps.length = ps) && ((ps.all fun x => locB sc x) && (sc.names.all fun y => y.2 != .free))))))
theorem fs_of {N ps : List Str} {sc : Scope} (h : fsB N ps sc = true) : FnScope N ps sc := by
  unfold fsB at h
  simp only [Bool.and_eq_true, decide_eq_true_eq, Bool.not_eq_true', List.all_eq_true, bne_iff_ne, ne_eq] at h
  obtain ⟨h1, h2, h3, h4, h5, h6, h7⟩ := h
  exact ⟨eq_of_beq h1, h2, h3, h4, h5, fun x hx => loc_b (h6 x hx), h7⟩
def tbF (tb : List FnT) (x : Str) : Option FnT := tb.find? fun t => t.name == x
def inF (tb : List FnT) (x : Str) : Bool := (tbF tb x).isSome
def progOf (tb : List FnT) (gl : List (Str × D)) (sb : List (Str × Str × Bool)) : Prog :=
  ⟨fun x => (tbF tb x).map (·.c), fun x => gl.lookup x, fun x y => (sb.find? fun p => p.1 == x && p.2.1 == y).map (·.2.2)⟩
structure FnT.Ok (F Xs : Str → Bool) (t : FnT) : Prop where
  tr : trS.go F Xs t.N 60 t.scope t.body = some t.c.body
  sc : fsB t.N t.ps t.scope = true
  np : t.c.np = t.ps.length
  nn : t.c.nn = t.N.length
  bd : ∀ (kV doc pm : Value) (an : Option Addr) (cdv ct : Value) (us : List Value), us.length = t.ps.length → bindArgs (PySem.W.fnOf t.name t.name t.params t.body t.scope .none kV doc pm an cdv ct) ⟨us, []⟩ = pure (t.ps.zip us)
/-- what the module's part K says of it -/
structure MOk (K : PySem.W.Frag) (M : Str → Option Value) (tb : List FnT) (gl : List (Str × D)) (sb : List (Str × Str × Bool)) (xs : List Str) : Prop where
  df : ∀ t ∈ tb, ∃ fa fd, FunD K t.name t.name t.params t.body t.scope [] [] fa fd ∧ M t.name = some (.ref fa)
  blt : ∀ x, bltB x = true → M x = none
  glo : ∀ x d, (x, d) ∈ gl → ∃ v u, M x = some u ∧ RelV v u ∧ ∀ H, Rep K M H v d
  cls : ∀ c ∈ xs, ∃ C, M c = some (.ref C) ∧ PySem.W.keepIn K (.ref C) = true ∧ PySem.W.subIn K (.ref C) (.type "BaseException") = some true ∧ PySem.W.typeIn K (.ref C) = some (.type "type") ∧ PySem.W.excIn K C He.veBase "ValueError.__new__" = true
  sub : ∀ x c k, (x, c, k) ∈ sb → ∀ a b, M x = some (.ref a) → M c = some (.ref b) → PySem.W.exmOne K (.ref a) (.ref b) = some k
/-- a table's own facts: no program, no heap -/
structure TOk (tb : List FnT) (gl : List (Str × D)) (xs : List Str) : Prop where
  ok : ∀ t ∈ tb, t.Ok (inF tb) xs.contains
  gfn : gl.all (fun p => match p.2 with
    | .fn f => inF tb f
    | _ => true) = true
theorem tbF_mem {tb : List FnT} {x : Str} {t : FnT} (h : tbF tb x = some t) : t ∈ tb ∧ t.name = x := by
  unfold tbF at h
  exact ⟨List.mem_of_find?_eq_some h, by simpa using List.find?_some h⟩
section
variable {pr : Program} {w : World} {K : PySem.W.Frag} {M : Str → Option Value} {base : Heap} {tb : List FnT} {gl : List (Str × D)} {sb : List (Str × Str × Bool)} {xs : List Str}
theorem lookup_mem {α : Type} : ∀ {l : List (Str × α)} {x : Str} {a : α}, l.lookup x = some a → (x, a) ∈ l
  | [], _, _, h => by cases h
  | (y, b) :: r, x, a, h => by
    rw [List.lookup_cons] at h
    split at h
    · rename_i e
      cases h
      rw [eq_of_beq e]
      exact List.mem_cons_self
    · exact List.mem_cons_of_mem _ (lookup_mem h)
theorem reps_some {H : Hp} : ∀ {vs : List V} {ds : List D}, Reps K M H vs ds → ∀ m : Nat, RelS K M H (vs.map some ++ List.replicate m none) (ds.map some ++ List.replicate m none) := by
  intro vs ds r m
  refine ⟨by simp [r.length], fun i d e => ?_⟩
  by_cases hi : i < ds.length
  · rw [List.getElem?_append_left (by simpa using hi), List.getElem?_map, Option.map_eq_some_iff] at e
    obtain ⟨d', e1, e2⟩ := e
    cases e2
    obtain ⟨v, hv, rp⟩ := r.get e1
    exact ⟨v, by rw [List.getElem?_append_left (by rw [List.length_map, r.length]; exact hi), List.getElem?_map, hv]; rfl, rp⟩
  · rw [List.getElem?_append_right (by simpa using hi)] at e
    obtain ⟨_, e⟩ := List.getElem?_eq_some_iff.mp e
    simp at e
theorem _root_.Py.RelH.part {h h' : AH} {H : Hp} (r : RelH K M h H) (s : Sub h' h) : RelH K M h' H := fun a o e => r a o (s a o e)
theorem _root_.Py.Tr.part {h h' h2 : AH} {H H' : Hp} (t : Tr h H h' H') (s : Sub h2 h') : Tr h H h2 H' := by
  refine ⟨fun a o e n => ?_, t.grow⟩
  obtain ⟨e1, n1⟩ := t.keep a o e n
  refine ⟨e1, ?_⟩
  cases q : h2 a with
  | none => rfl
  | some u =>
    have z := s a u q
    rw [n1] at z
    cases z
/-- every def, to n levels -/
theorem fnAll (T : TOk tb gl xs) (m : MOk K M tb gl sb xs) : ∀ (n : Nat) (t : FnT) (fa : Addr) (fd : FuncData), tbF tb t.name = some t → FunD K t.name t.name t.params t.body t.scope [] [] fa fd → M t.name = some (.ref fa) → FnA pr w K M base (progOf tb gl sb) n t.name fa fd t.ps := by
  intro n
  induction n with
  | zero =>
    intro t fa fd ht hF hM
    obtain ⟨hm, _⟩ := tbF_mem ht
    have o := T.ok t hm
    exact ⟨⟨fun vs H Q E h => h.1, fun A outer s H args us vs Q E _ _ _ _ h => by
        obtain ⟨_, _, _, _, _, _, _, z, _⟩ := h
        exact z.elim⟩, fun c hc => by
          have e : (tbF tb t.name).map (·.c) = some c := hc
          rw [ht] at e
          cases e
          exact o.np.symm, hM, hF.kp, hF.bindsN o.bd⟩
  | succ n ih =>
    intro t fa fd ht hF hM
    obtain ⟨hm, _⟩ := tbF_mem ht
    have o := T.ok t hm
    have S := fs_of o.sc
    have np : ∀ c, (progOf tb gl sb).fn t.name = some c → c = t.c := fun c hc => by
      have e : (tbF tb t.name).map (·.c) = some c := hc
      rw [ht] at e
      cases e
      rfl
    · refine ⟨FunD.ok hF S (fun vs H Q E h => h.1) (fun cdv A outer s H vs Q E hr h => ?_), fun c hc => by rw [np c hc]; exact o.np.symm, hM, hF.kp, hF.bindsN o.bd⟩
      obtain ⟨hl, h0, ds, Q0, X0, rel, rp, ⟨c, hc, hd, q⟩, hq, hx⟩ := h
      have ec := np c hc
      subst ec
      refine ⟨_, b_of (sS (P := progOf tb gl sb) (F := inF tb) (Xs := xs.contains) (n := n) (fun f hf => ?_) 60) t.scope t.body t.c.body o.tr _ (fun cls d _ H => E cls d H) ?_ rfl rfl, ?_⟩
      · intro z
        have z' : (tbF tb f).map (·.c) = none := z
        unfold inF at hf
        cases e : tbF tb f with
        | none => rw [e] at hf; cases hf
        | some t => rw [e] at z'; cases z'
      · refine ⟨⟨rfl, S.nd, hr, m.blt, fun x d hx => m.glo x d (lookup_mem hx), fun f hf => ?_, fun f hf => ?_, takes_of rfl rfl rfl rfl⟩, S.kind, fun _ => rfl, passes_of rfl, rfl, rfl, fun c hc => ?_, fun x c k a b hs h1 h2 => ?_⟩
        · cases hf2 : tbF tb f with
          | none => exact absurd (show (tbF tb f).map (·.c) = none by rw [hf2]; rfl) hf
          | some t2 =>
            obtain ⟨hm2, rfl⟩ := tbF_mem hf2
            obtain ⟨fa2, fd2, F2, M2⟩ := m.df t2 hm2
            exact ⟨fa2, fd2, t2.ps, ih t2 fa2 fd2 hf2 F2 M2⟩
        · intro z
          have z' : (tbF tb f).map (·.c) = none := z
          obtain ⟨d, e1, e2⟩ := Option.bind_eq_some_iff.mp hf
          have e3 := List.all_eq_true.mp T.gfn _ (lookup_mem e1)
          unfold asFn at e2
          split at e2
          · cases e2
            have e4 : inF tb f = true := e3
            unfold inF at e4
            cases e : tbF tb f with
            | none => rw [e] at e4; cases e4
            | some t => rw [e] at z'; cases z'
          · cases e2
        · obtain ⟨C, h1, h2, h3, h4, h5⟩ := m.cls c (by simpa using hc)
          exact ⟨C, h1, h2, raises_own h3 h4, _, _, _, _, PySem.F.excBase_ValueError, h5⟩
        · have hs' : (sb.find? fun p => p.1 == x && p.2.1 == c).map (·.2.2) = some k := hs
          obtain ⟨p, hp, rfl⟩ := Option.map_eq_some_iff.mp hs'
          have e := List.find?_some hp
          simp only [Bool.and_eq_true, beq_iff_eq] at e
          obtain ⟨rfl, rfl⟩ := e
          exact m.sub p.1 p.2.1 p.2.2 (List.mem_of_find?_eq_some hp) a b h1 h2
      · have hn : vs.length = ds.length := rp.length
        refine ⟨Py.start t.c.nn ds, h0, ksOf (someQ Q0) (someX X0), rel, ?_, q, ?_⟩
        · show RelS K M H (vs.map some ++ List.replicate (t.N.length - vs.length) none) (ds.map some ++ List.replicate (t.c.nn - ds.length) none)
          rw [hn, o.nn]
          exact reps_some rp _
        · exact ⟨fun e2 h2 σ2 H2 ⟨h3, s3, q3⟩ t2 r2 _ => hq _ _ _ _ q3 (t2.part s3) (r2.part s3) .non, fun d h2 v H2 ⟨h3, s3, q3⟩ t2 r2 p2 => hq _ _ _ _ q3 (t2.part s3) (r2.part s3) p2, fun _ _ _ _ q2 => q2.elim, fun _ _ _ _ q2 => q2.elim,
            fun e2 c h2 σ2 H2 d a ⟨h3, s3, q3⟩ t2 r2 _ hm => hx c h3 H2 d a q3 (t2.part s3) (r2.part s3) hm⟩
end
theorem mN {α : Type} {p : α → Prop} : ∀ x ∈ ([] : List α), p x := fun _ h => nomatch h
theorem mC {α : Type} {p : α → Prop} {a : α} {l : List α} (h : p a) (t : ∀ x ∈ l, p x) : ∀ x ∈ a :: l, p x := fun x hx => (List.mem_cons.mp hx).elim (fun e => e ▸ h) (t x)
end Py
namespace Py
open L2 PySem.Spec PySem PyProof.Rows
/-! ### constants of the module -/
def allB (f : Value → D → Bool) : List Value → List D → Bool
  | [], [] => true
  | u :: us, d :: ds => f u d && allB f us ds
  | _, _ => false
def repB (K : PySem.W.Frag) : Nat → Value → D → Bool
  | 0, _, _ => false
  | n + 1, u, d => match d with
    | .non => (match u with
      | .none => true
      | _ => false)
    | .bl b => (match u with
      | .bool c => b == c
      | _ => false)
    | .int i => (match u with
      | .int j _ => decide (i = j)
      | _ => false)
    | .str x => (match u with
      | .str y _ => decide (x = y)
      | _ => false)
    | .fn x => (match u with
      | .ref a => He.eqO (PySem.W.nsIn K mainGlobals x) (some (some (.ref a)))
      | _ => false)
    | .tup ds => (match u with
      | .ref a =>
          (match K.lookup a with
        | some ⟨.type c, none, .seq its _, _⟩ => decide (c = "tuple") && (decide (its.size ≤ sizeLine) && allB (repB K n) its.toList ds)
        | _ => false)
      | _ => false)
    | .fl ds => (match u with
      | .ref a =>
          (match K.lookup a with
        | some ⟨.type c, none, .seq its _, _⟩ => decide (c = "list") && (decide (its.size ≤ sizeLine) && allB (repB K n) its.toList ds)
        | _ => false)
      | _ => false)
    | .loc _ => false
section
variable {K : PySem.W.Frag} {M : Str → Option Value} {h : Heap}
theorem repB_ok (X : K.In h) (G : h.Ns mainGlobals M) : ∀ (n : Nat) (u : Value) (d : D), repB K n u d = true → ∃ v, RelV v u ∧ ∀ H, Rep K M H v d
  | 0, u, d, q => by cases q
  | n + 1, u, d, q => by
    have all : ∀ (us : List Value) (ds : List D), allB (repB K n) us ds = true → ∃ vs, Vals vs us ∧ ∀ H, Reps K M H vs ds := by
      intro us
      induction us with
      | nil =>
        intro ds q
        cases ds with
        | nil => exact ⟨[], .nil, fun _ => .nil⟩
        | cons _ _ => cases q
      | cons u us ih =>
        intro ds q
        cases ds with
        | nil => cases q
        | cons d ds =>
          rw [allB, Bool.and_eq_true] at q
          obtain ⟨v, r1, r2⟩ := repB_ok X G n u d q.1
          obtain ⟨vs, r3, r4⟩ := ih ds q.2
          exact ⟨v :: vs, .cons r1 r3, fun H => .cons (r2 H) (r4 H)⟩
    unfold repB at q
    cases d with
    | non =>
      cases u with
      | none => exact ⟨.non, rfl, fun _ => .non⟩
      | _ => cases q
    | bl b =>
      cases u with
      | bool c =>
        have e : b = c := by simpa using q
        subst e
        exact ⟨.bl b, rfl, fun _ => .bl b⟩
      | _ => cases q
    | int i =>
      cases u with
      | int j t =>
        have e : i = j := by simpa using q
        subst e
        exact ⟨.int i, ⟨t, rfl⟩, fun _ => .int i⟩
      | _ => cases q
    | str x =>
      cases u with
      | str y t =>
        have e : x = y := by simpa using q
        subst e
        exact ⟨.str x, ⟨t, rfl⟩, fun _ => .str x⟩
      | _ => cases q
    | fn x =>
      cases u with
      | ref a => exact ⟨.ref a, rfl, fun _ => .fn (PySem.W.mg_of X G (He.eqO_ok q))⟩
      | _ => cases q
    | loc _ => cases q
    | tup ds =>
      cases u with
      | ref a =>
        simp only at q
        split at q
        · rename_i c its m sl e
          simp only [Bool.and_eq_true,
              decide_eq_true_eq] at q
          obtain ⟨rfl, hz, q⟩ := q
          obtain ⟨vs, r1, r2⟩ := all _ _ q
          exact ⟨.ref a, rfl, fun H => .tup (.inr ⟨_, its, m, e, rfl, rfl, rfl, hz, r1⟩) (r2 H)⟩
        · cases q
      | _ => cases q
    | fl ds =>
      cases u with
      | ref a =>
        simp only at q
        split at q
        · rename_i c its m sl e
          simp only [Bool.and_eq_true,
              decide_eq_true_eq] at q
          obtain ⟨rfl, hz, q⟩ := q
          obtain ⟨vs, r1, r2⟩ := all _ _ q
          exact ⟨.ref a, rfl, fun H => .fl (.inr ⟨_, its, m, e, rfl, rfl, rfl, hz, r1⟩) (r2 H)⟩
        · cases q
      | _ => cases q
def glB (gl : List (Str × D)) (K : PySem.W.Frag) : Bool := gl.all fun p => match PySem.W.nsIn K mainGlobals p.1 with
  | some (some u) => repB K 12 u p.2
  | _ => false
def faOf (tb : List FnT) (sb : List (Str × Str × Bool)) (xs : List Str) : List He.Fa := (tb.map fun t => .glo t.name) ++ (blts.map .free ++ (xs.flatMap (fun c => [.glo c, .exc c]) ++ sb.map fun p => .exm p.1 p.2.1 p.2.2))
/-! ### the Hook -/
abbrev AlP : Type := He.AlD × Bool
def obsP (n : Nat) (fa : List He.Fa) (fn : List He.DefD) (gl : List (Str × D)) (g : Addr → Option Obj) : AlP := (He.obsD fa fn (He.frG g (He.asD g n)), glB gl (He.frG g (He.asD g n)))
def hookP (n : Nat) (fa : List He.Fa) (fn : List He.DefD) (gl : List (Str × D)) : PySem.W.Hook where
  α := AlP
  obs := fun s => obsP n fa fn gl s.heap.get?
  val := fun _ => (He.valD fn, true)
  says := fun _ h => ∃ K : PySem.W.Frag, K.In h ∧ He.SaysD fa fn K ∧ glB gl K = true
  of := fun _ _ e => ⟨_, He.frG_in, congrArg (fun z : AlP => z.1) e, congrArg (fun z : AlP => z.2) e⟩
  keeps :=
      fun _ _ _ ⟨K, hK, c⟩ k => ⟨K, PySem.W.Frag.In.keeps hK k, c⟩
theorem obsP_eq {n : Nat} {fa : List He.Fa} {fn : List He.DefD} {gl : List (Str × D)} {g : Addr → Option Obj} {s : Shared} (h : ∀ a, g a = s.heap.get? a) : obsP n fa fn gl g = (hookP n fa fn gl).obs s := by
  have e : g = s.heap.get? :=
      funext h
  rw [e] <;> rfl
theorem mok_of {tb : List FnT} {gl : List (Str × D)} {sb : List (Str × Str × Bool)} {xs : List Str} (hsb : (sb.all fun p => xs.contains p.1 && xs.contains p.2.1) = true) (X : K.In h) (G : h.Ns mainGlobals M) (c : He.SaysD (faOf tb sb xs) (tb.map FnT.d) K) (cg : glB gl K = true) : MOk K M tb gl sb xs := by
  have fx : ∀ f ∈ faOf tb sb xs, f.ok K = true := fun f hf => He.SaysD.facts c hf
  have hx : ∀ x ∈ xs, M x = some (.ref (He.ga K x)) := fun x hx => He.glo_ok X G (fx _ (List.mem_append_right _ (List.mem_append_right _ (List.mem_append_left _ (List.mem_flatMap.mpr ⟨x, hx, by simp⟩)))))
  refine ⟨fun t ht => ?_, fun x hx => ?_, fun x d hd => ?_, fun y hy => ?_, fun x y k hs a b ha hb => ?_⟩
  · obtain ⟨fd, F⟩ := He.SaysD.defs c (d := t.d) (List.mem_map_of_mem ht)
    have hM := He.glo_ok X G (fx (.glo t.name) (List.mem_append_left _ (List.mem_map.mpr ⟨t, ht, rfl⟩)))
    exact ⟨_, fd, F, hM⟩
  · refine He.free_ok X G (fx (.free x) (List.mem_append_right _ (List.mem_append_left _ (List.mem_map.mpr ⟨x, ?_, rfl⟩))))
    unfold bltB at hx
    simpa using hx
  · have q := List.all_eq_true.mp cg _ hd
    simp only at q
    split at q
    · rename_i u e
      obtain ⟨v, r1, r2⟩ := repB_ok X G 12 u d q
      exact ⟨v, u, PySem.W.mg_of X G e, r1, r2⟩
    · cases q
  · have q := He.exc_ok (fx (.exc y) (List.mem_append_right _ (List.mem_append_right _ (List.mem_append_left _ (List.mem_flatMap.mpr ⟨y, hy, by simp⟩)))))
    exact ⟨_, hx y hy, q.2.1, q.2.2.1, q.2.2.2, q.1⟩
  · have q := He.exm_ok (fx (.exm x y k) (List.mem_append_right _ (List.mem_append_right _ (List.mem_append_right _ (List.mem_map.mpr ⟨_, hs, rfl⟩)))))
    have q2 := List.all_eq_true.mp hsb _ hs
    rw [Bool.and_eq_true] at q2
    have e1 := (hx x (by simpa using q2.1)).symm.trans ha
    have e2 := (hx y (by simpa using q2.2)).symm.trans hb
    cases e1
    cases e2
    exact q
end
def cxA (P : Program) : CXT := fun outer H s E e s' => ∃ w, L2.CX P w outer H s E e s'
theorem cx_no {P : Program} {w : World} {H : Hp} {s : Shared} {e : Value} {s' : Shared} (c : L2.CX P w [] H s (fun _ _ _ => False) e s') : False := by
  obtain ⟨_, _, _, _, _, _, _, _, _, _, _, _, z⟩ := c
  exact z
theorem fn_cx {P : Program} {w : World} {K : PySem.W.Frag} {mg : Str → Option Value} {base : Heap} {k : Nat} {f : Addr} {fd : FuncData} {ps : List Str} {sp : Sp} (F : FnOk P w K mg base (L2.CX P w) k f fd ps sp) : FnOk P w K mg base (cxA P) k f fd ps sp :=
  ⟨F.len, fun A outer s H args us vs Q E h1 h2 h3 h4 h5 => codeAny_mono (F.run A outer s H args us vs Q E h1 h2 h3 h4 h5) fun r s' q => by
    cases r with
    | error e => exact ⟨w, q⟩
    | ok fl => cases fl <;> exact q⟩
/-- THE END of a law: the abstract reading of law(script) comes to True -/
theorem law_end {l : PySem.W.OpenLaw} {k m : Nat} {q : Program} {loose : List Str} {XP : (Str → Option Value) → Heap → Prop} {d : DefRec} {tb : List FnT} {gl : List (Str × D)} {sb : List (Str × Str × Bool)} {xs : List Str} {t : FnT} {x : Str}
    (hl : l.most = some 63) (hdf : d.params.defaults = []) (hr : Room k callerA) (T : TOk tb gl xs) (hsb : (sb.all fun p => xs.contains p.1 && xs.contains p.2.1) = true) (ht : tbF tb d.name = some t) (hps : t.ps = [x])
    (F : ∀ ns : List Int, ns.length ≤ 63 → wC (progOf tb gl sb) k d.name [.fl (ns.map D.int)] (fun _ => none) (fun v _ => v = .bl true) noX) :
    PySem.W.WalkO q loose XP (hookP m (faOf tb sb xs) (tb.map FnT.d) gl).says l.row.toRowW d [] (fun f vs => PySem.call f vs) := by
  refine L2.walk_ofE (n := 63) (k := k) (x := x) (CX := cxA l.prog) hl (by decide) hdf hr (fun w mg fa h Y G hmg => ?_) (fun H s e s' ⟨w, c⟩ => ?_)
  · obtain ⟨K, KX, c, cg⟩ := Y
    have m := mok_of hsb KX G c cg
    obtain ⟨tm, tn⟩ := tbF_mem ht
    obtain ⟨fa', fd, hF, hM⟩ := m.df t tm
    have e : fa = fa' := by
      have e1 := hmg.symm.trans ((congrArg mg tn.symm).trans hM)
      cases e1
      rfl
    subst e
    have o := T.ok t tm
    have hb := fun (s : Shared) (u : Value) => hF.bindsA (ps := t.ps) o.bd s [u] (by rw [hps]; rfl)
    refine ⟨K, fd, spOf K mg (wC (progOf tb gl sb) k) d.name t.ps.length, KX, fun s u => by have := hb s u; rw [hps] at this; exact this, fun H a ns hl hO hS => ?_, fun base hK hB => ?_⟩
    · refine ⟨by rw [hps]; rfl, fun _ => none, [.fl (ns.map D.int)], _, noX, (fun a o e => by cases e), .cons (.fl ?_ (Reps.ofInts ns)) .nil, F ns hl, fun d h' v H' e _ _ r => ?_, fun _ _ _ _ _ z => z.elim⟩
      · rcases hS with hS | hS
        · rcases hS with hS | hS
          · rcases hO a with z | ⟨o', xs', z⟩
            · rw [z] at hS; cases hS
            · rw [z] at hS; cases hS
          · exact .inl hS
        · exact .inr hS
      · subst e
        cases r
        rfl
    · have F2 := fnAll (pr := l.prog) (w := w) (base := base) T m k t fa fd (by rw [tn]; exact ht) hF hM
      have F3 := fn_cx F2.ok
      rw [tn, hps] at F3
      rw [hps]
      exact F3
  · exact cx_no c
end Py
namespace Py
open PySem (Str)
theorem wC_i {P : Prog} {n : Nat} {f : Str} {c : Fn} {ds : List D} {h : AH} {Q : D → AH → Prop} {X : Xc} (e : P.fn f = some c) (l : ds.length = c.np) (q : wB (wC P n) P.gl P.sub c.body (start c.nn ds) h (ksOf (someQ Q) (someX X))) : wC P (n + 1) f ds h Q X := ⟨c, e, l, q⟩
theorem sub_refl {h : AH} : Sub h h := fun _ _ e => e
theorem sub_put {h : AH} {a : Nat} {o : AO} (n : h a = none) : Sub h (put h a o) := fun b u e => by
  have : b ≠ a := fun z => by rw [z, n] at e; cases e
  rw [put_ne this]; exact e
theorem Sub.put {h h' : AH} {a : Nat} {o : AO} (s : Sub h h') (n : h a = none) : Sub h (put h' a o) := fun b u e => by
  have : b ≠ a := fun z => by rw [z, n] at e; cases e
  rw [put_ne this]; exact s b u e
theorem someX_i {X : Xc} {c : Str} {h : AH} (q : X c h) : someX X c h := ⟨h, sub_refl, q⟩
theorem someQ_i {Q : D → AH → Prop} {d : D} {h : AH} (q : Q d h) : someQ Q d h := ⟨h, sub_refl, q⟩
theorem someQ_s {Q : D → AH → Prop} {d : D} {h h' : AH} (s : Sub h h') (q : Q d h) : someQ Q d h' := ⟨h, s, q⟩
section
variable {cal : Cal} {G : Str → Option D} {Sb : Str → Str → Option Bool} {env : Env} {h : AH} {K : Ks} {X : Xc} {Q : Rv → AH → Prop} {QE : List D → AH → Prop} {QO : Option Int → AH → Prop} {QI : Src → AH → Prop}
/-- the rest of a body, not opened yet -/
def rB (cal : Cal) (G : Str → Option D) (Sb : Str → Str → Option Bool) (r : Sts) (K : Ks) : Env → AH → Prop := fun env h => wB cal G Sb r env h K
@[simp] theorem v_rB {r : Sts} : rB cal G Sb r K env h = wB cal G Sb r env h K := (rfl)
@[simp] theorem v_nil : wB cal G Sb .nil env h K = K.nx env h := (rfl)
@[simp] theorem v_cons {s : St} {r : Sts} : wB cal G Sb (.cons s r) env h K = wS cal G Sb s env h (K.then (rB cal G Sb r K)) := (rfl)
@[simp] theorem v_nx {n : Env → AH → Prop} : (K.then n).nx = n := (rfl)
@[simp] theorem v_rt {n : Env → AH → Prop} : (K.then n).rt = K.rt := (rfl)
@[simp] theorem v_bk {n : Env → AH → Prop} : (K.then n).bk = K.bk := (rfl)
@[simp] theorem v_ct {n : Env → AH → Prop} : (K.then n).ct = K.ct := (rfl)
@[simp] theorem v_ex {n : Env → AH → Prop} : (K.then n).ex = K.ex := (rfl)
@[simp] theorem v_tnx {n : Env → AH → Prop} : (K.turn n).nx = n := (rfl)
@[simp] theorem v_trt {n : Env → AH → Prop} : (K.turn n).rt = K.rt := (rfl)
@[simp] theorem v_tbk {n : Env → AH → Prop} : (K.turn n).bk = K.nx := (rfl)
@[simp] theorem v_tct {n : Env → AH → Prop} : (K.turn n).ct = n := (rfl)
@[simp] theorem v_tex {n : Env → AH → Prop} : (K.turn n).ex = K.ex := (rfl)
@[simp] theorem v_krt {Q : D → AH → Prop} {X : Xc} : (ksOf Q X).rt = Q := (rfl)
@[simp] theorem v_knx {Q : D → AH → Prop} {X : Xc} {env : Env} {h : AH} : (ksOf Q X).nx env h = Q .non h := (rfl)
@[simp] theorem v_kex {Q : D → AH → Prop} {X : Xc} {env : Env} : (ksOf Q X).ex env = X := (rfl)
@[simp] theorem v_asg {t : Tg} {e : Ex} : wS cal G Sb (.asg t e) env h K = wX cal G e env h (fun r h1 => rv r h1 fun d h2 => wTg t d env h2 K.nx) (K.ex env) := (rfl)
@[simp] theorem v_set {o i e : Ex} : wS cal G Sb (.set o i e) env h K = wX cal G e env h (fun r h1 => rv r h1 fun d h2 => wX cal G o env h2 (fun r2 h3 => rv r2 h3 fun a h4 => wX cal G i env h4 (fun r3 h5 => rv r3 h5 fun k h6 => gd (setD a k d h6) fun h7 => K.nx env h7) (K.ex env)) (K.ex env)) (K.ex env) := (rfl)
@[simp] theorem v_aug {i : Nat} {op : Bop} {e : Ex} : wS cal G Sb (.aug i op e) env h K = gd (lk env i) fun x => wX cal G e env h (fun r h1 => gd (augD op x r h1) fun p => rv p.1 p.2 fun d h2 => K.nx (env.set i (some d)) h2) (K.ex env) := (rfl)
@[simp] theorem v_expr {e : Ex} : wS cal G Sb (.expr e) env h K = wX cal G e env h (fun _ h1 => K.nx env h1) (K.ex env) := (rfl)
@[simp] theorem v_ifs {c : Ex} {a b : Sts} : wS cal G Sb (.ifs c a b) env h K = wX cal G c env h (fun r h1 => gd (tru r h1) fun k => if k = true then wB cal G Sb a env h1 K else wB cal G Sb b env h1 K) (K.ex env) := (rfl)
@[simp] theorem v_ret {e : Ex} : wS cal G Sb (.ret e) env h K = wX cal G e env h (fun r h1 => rv r h1 K.rt) (K.ex env) := (rfl)
@[simp] theorem v_retn : wS cal G Sb .retn env h K = K.rt .non h := (rfl)
@[simp] theorem v_rais {c : Str} : wS cal G Sb (.rais c) env h K = K.ex env c h := (rfl)
/-- what is wanted inside of a try -/
def Ks.tr (K : Ks) (S : Str → Str → Option Bool) (c : Str) (d : D) : Ks := ⟨K.nx, K.rt, K.bk, K.ct, fun env1 x h1 => gd (S x c) fun k => if k = true then K.rt d h1 else K.ex env1 x h1⟩
@[simp] theorem v_try {b : Sts} {c : Str} {d : D} : wS cal G Sb (.tryx b c d) env h K = wB cal G Sb b env h (K.tr Sb c d) := (rfl)
@[simp] theorem v_trnx {S : Str → Str → Option Bool} {c : Str} {d : D} : (K.tr S c d).nx = K.nx := (rfl)
@[simp] theorem v_trrt {S : Str → Str → Option Bool} {c : Str} {d : D} : (K.tr S c d).rt = K.rt := (rfl)
@[simp] theorem v_trbk {S : Str → Str → Option Bool} {c : Str} {d : D} : (K.tr S c d).bk = K.bk := (rfl)
@[simp] theorem v_trct {S : Str → Str → Option Bool} {c : Str} {d : D} : (K.tr S c d).ct = K.ct := (rfl)
@[simp] theorem v_trex {S : Str → Str → Option Bool} {c : Str} {d : D} {x : Str} : (K.tr S c d).ex env x h = gd (S x c) fun k => if k = true then K.rt d h else K.ex env x h := (rfl)
@[simp] theorem v_pass : wS cal G Sb .pass env h K = K.nx env h := (rfl)
@[simp] theorem v_brk : wS cal G Sb .brk env h K = K.bk env h := (rfl)
@[simp] theorem v_cnt : wS cal G Sb .cnt env h K = K.ct env h := (rfl)
@[simp] theorem v_lit {d : D} : wX cal G (.lit d) env h Q X = Q (.v d) h := (rfl)
@[simp] theorem v_var {i : Nat} : wX cal G (.var i) env h Q X = gd (lk env i) fun d => Q (.v d) h := (rfl)
@[simp] theorem v_glo {x : Str} : wX cal G (.glo x) env h Q X = gd (G x) fun d => Q (.v d) h := (rfl)
@[simp] theorem v_bin {op : Bop} {a b : Ex} : wX cal G (.bin op a b) env h Q X = wX cal G a env h (fun x h1 => wX cal G b env h1 (fun y h2 => gd (binD op x y h2) fun r => Q r h2) X) X := (rfl)
@[simp] theorem v_cmp {op : Cop} {a b : Ex} : wX cal G (.cmp op a b) env h Q X = wX cal G a env h (fun x h1 => wX cal G b env h1 (fun y h2 => gd (cmpD op x y h2) fun k => Q (.v (.bl k)) h2) X) X := (rfl)
@[simp] theorem v_chain {o1 o2 : Cop} {a b c : Ex} : wX cal G (.chain o1 o2 a b c) env h Q X = wX cal G a env h (fun x h1 => wX cal G b env h1 (fun y h2 => gd (cmpD o1 x y h2) fun k => if k = true then wX cal G c env h2 (fun z h3 => gd (cmpD o2 y z h3) fun k2 => Q (.v (.bl k2)) h3) X else Q (.v (.bl false)) h2) X) X := (rfl)
@[simp] theorem v_isc {neg : Bool} {a : Ex} {c : D} : wX cal G (.isc neg a c) env h Q X = wX cal G a env h (fun x h1 => gd (isD x c) fun k => Q (.v (.bl (k != neg))) h1) X := (rfl)
@[simp] theorem v_and {a b : Ex} : wX cal G (.and a b) env h Q X = wX cal G a env h (fun x h1 => gd (tru x h1) fun k => if k = true then wX cal G b env h1 Q X else Q x h1) X := (rfl)
@[simp] theorem v_or {a b : Ex} : wX cal G (.or a b) env h Q X = wX cal G a env h (fun x h1 => gd (tru x h1) fun k => if k = true then Q x h1 else wX cal G b env h1 Q X) X := (rfl)
@[simp] theorem v_not {a : Ex} : wX cal G (.not a) env h Q X = wX cal G a env h (fun x h1 => gd (tru x h1) fun k => Q (.v (.bl (!k))) h1) X := (rfl)
@[simp] theorem v_neg {a : Ex} : wX cal G (.neg a) env h Q X = wX cal G a env h (fun x h1 => gd (asInt x) fun i => Q (.v (.int (-i))) h1) X := (rfl)
@[simp] theorem v_ite {c a b : Ex} : wX cal G (.ite c a b) env h Q X = wX cal G c env h (fun x h1 => gd (tru x h1) fun k => if k = true then wX cal G a env h1 Q X else wX cal G b env h1 Q X) X := (rfl)
@[simp] theorem v_tup {es : Es} : wX cal G (.tup es) env h Q X = wEs cal G es env h (fun ds h1 => ds.length ≤ 16777216 ∧ Q (.v (.tup ds)) h1) X := (rfl)
@[simp] theorem v_lst {es : Es} : wX cal G (.lst es) env h Q X = wEs cal G es env h (fun ds h1 => ds.length ≤ 16777216 ∧ Q (.o (.lst ds)) h1) X := (rfl)
@[simp] theorem v_call {f : Str} {es : Es} : wX cal G (.call f es) env h Q X = wEs cal G es env h (fun ds h1 => cal f ds h1 (fun d h2 => Q (.v d) h2) X) X := (rfl)
@[simp] theorem v_b1 {b : Bi} {a : Ex} : wX cal G (.b1 b a) env h Q X = wX cal G a env h (fun x h1 => gd (b1D b x h1) fun r => Q r h1) X := (rfl)
@[simp] theorem v_b2 {b : B2} {a c : Ex} : wX cal G (.b2 b a c) env h Q X = wX cal G a env h (fun x h1 => rv x h1 fun x1 h2 => wX cal G c env h2 (fun y h3 => rv y h3 fun y1 h4 => gd (b2D b x1 y1) fun r => Q (.v r) h4) X) X := (rfl)
@[simp] theorem v_mt {m : Mt} {o : Ex} {es : Es} : wX cal G (.mt m o es) env h Q X = wX cal G o env h (fun x h1 => mtChk m x h1 = true ∧ wEs cal G es env h1 (fun ds h2 => gd (mtD m x ds h2) fun p => Q p.1 p.2) X) X := (rfl)
@[simp] theorem v_ix {a i : Ex} : wX cal G (.ix a i) env h Q X = wX cal G a env h (fun x h1 => wX cal G i env h1 (fun y h2 => gd (ixD x y h2) fun d => Q (.v d) h2) X) X := (rfl)
@[simp] theorem v_sl {a : Ex} {lo hi : Oe} : wX cal G (.sl a lo hi) env h Q X = wX cal G a env h (fun x h1 => wO cal G lo env h1 (fun l h2 => wO cal G hi env h2 (fun u h3 => gd (slD x l u h3) fun r => Q r h3) X) X) X := (rfl)
@[simp] theorem v_rng {t : Bool} {it : It} : wX cal G (.rng t it) env h Q X = wI cal G it env h (fun s h1 => s.items.length ≤ 16777216 ∧ Q (if t = true then .v (.tup s.items) else .o (.lst s.items)) h1) X := (rfl)
@[simp] theorem v_esn : wEs cal G .nil env h QE X = QE [] h := (rfl)
@[simp] theorem v_esc {e : Ex} {es : Es} : wEs cal G (.cons e es) env h QE X = wX cal G e env h (fun r h1 => rv r h1 fun d h2 => wEs cal G es env h2 (fun ds h3 => QE (d :: ds) h3) X) X := (rfl)
@[simp] theorem v_ono : wO cal G .no env h QO X = QO none h := (rfl)
@[simp] theorem v_oso {e : Ex} : wO cal G (.so e) env h QO X = wX cal G e env h (fun r h1 => gd (asInt r) fun i => QO (some i) h1) X := (rfl)
@[simp] theorem v_iseq {e : Ex} : wI cal G (.seq e) env h QI X = wX cal G e env h (fun r h1 => gd (srcOf r h1) fun s => QI s h1) X := (rfl)
@[simp] theorem v_ir1 {a : Ex} : wI cal G (.rng1 a) env h QI X = wX cal G a env h (fun r h1 => gd (asInt r) fun j => small62 j = true ∧ QI (.fix (rngL 0 j.toNat)) h1) X := (rfl)
@[simp] theorem v_ir2 {a b : Ex} : wI cal G (.rng2 a b) env h QI X = wX cal G a env h (fun r h1 => gd (asInt r) fun i => wX cal G b env h1 (fun r2 h2 => gd (asInt r2) fun j => (small62 i && small62 j) = true ∧ QI (.fix (rngL i (j - i).toNat)) h2) X) X := (rfl)
@[simp] theorem v_tnm {i : Nat} {d : D} {k : Env → AH → Prop} : wTg (.nm i) d env h k = k (env.set i (some d)) h := (rfl)
@[simp] theorem v_ttp {ts : Tgs} {d : D} {k : Env → AH → Prop} : wTg (.tp ts) d env h k = gd (sqV (.v d) h) fun xs => wTgs ts xs env h k := (rfl)
@[simp] theorem v_tsn {xs : List D} {k : Env → AH → Prop} : wTgs .nil xs env h k = (xs = [] ∧ k env h) := (rfl)
@[simp] theorem v_tsc {t : Tg} {ts : Tgs} {x : D} {r : List D} {k : Env → AH → Prop} : wTgs (.cons t ts) (x :: r) env h k = wTg t x env h fun env1 h1 => wTgs ts r env1 h1 k := (rfl)
@[simp] theorem v_tse {t : Tg} {ts : Tgs} {k : Env → AH → Prop} : wTgs (.cons t ts) [] env h k = False := (rfl)
end
@[simp] theorem v_lk0 {o : Option D} {r : Env} : lk (o :: r) 0 = o := by cases o <;> rfl
@[simp] theorem v_lkS {o : Option D} {r : Env} {n : Nat} : lk (o :: r) (n + 1) = lk r n := (rfl)
@[simp] theorem v_asInt {i : Int} : asInt (.v (.int i)) = some i := (rfl)
@[simp] theorem v_start {n : Nat} {ds : List D} : start n ds = ds.map some ++ List.replicate (n - ds.length) none := (rfl)
@[simp] theorem v_fixi {xs : List D} : (Src.fix xs).items = xs := (rfl)
@[simp] theorem v_fixc {xs : List D} {h : AH} : (Src.fix xs).chk h = True := (rfl)
@[simp] theorem v_lsti {a : Nat} {xs : List D} : (Src.lst a xs).items = xs := (rfl)
@[simp] theorem v_lstc {a : Nat} {xs : List D} {h : AH} : (Src.lst a xs).chk h = (h a = some (.lst xs)) := (rfl)
/-- a walk over a list, by a word -/
theorem wFor_by {chk : AH → Prop} {bd : D → Env → AH → (Env → AH → Prop) → Prop} {nx : Env → AH → Prop} (mono : ∀ x e h k k', (∀ e h, k e h → k' e h) → bd x e h k → bd x e h k') {xs : List D} (I : Nat → Env → AH → Prop) {env : Env} {h : AH} (h0 : I 0 env h)
    (hc : ∀ i env h, i ≤ xs.length → I i env h → chk h) (hs : ∀ (i : Nat) (x : D) (env : Env) (h : AH), xs[i]? = some x → I i env h → bd x env h (I (i + 1))) (hn : ∀ env h, I xs.length env h → nx env h) : wFor chk bd nx xs env h := by
  have key : ∀ (ys : List D) (i : Nat) (env : Env) (h : AH), ys = xs.drop i → i ≤ xs.length → I i env h → wFor chk bd nx ys env h := by
    intro ys
    induction ys with
    | nil =>
      intro i env h e hi q
      have : i = xs.length := by
        have := congrArg List.length e
        simp at this
        omega
      subst this
      exact ⟨hc _ _ _ hi q, hn _ _ q⟩
    | cons y ys ih =>
      intro i env h e hi q
      have hlt :
          i < xs.length := by
        have := congrArg List.length e
        simp at this
        omega
      have hx : xs[i]? = some y := by
        have := congrArg (fun l => l[0]?) e
        simpa using this.symm
      refine ⟨hc _ _ _ hi q, mono _ _ _ _ _ (fun env1 h1 q1 => ih (i + 1) env1 h1 ?_ hlt q1) (hs i y env h hx q)⟩
      rw [List.drop_eq_getElem_cons hlt] at e
      exact (List.cons.inj e).2
  exact key xs 0 env h rfl (Nat.zero_le _) h0
theorem bdF_mono {P : Prog} {n : Nat} {t : Tg} {b : Sts} {K : Ks} : ∀ x e h k k', (∀ e h, k e h → k' e h) → bdF (wTg t) (wB (wC P n) P.gl P.sub b) K x e h k → bdF (wTg t) (wB (wC P n) P.gl P.sub b) K x e h k' := fun x e h k k' m q =>
  mTg t _ _ _ _ _ (fun e3 h3 q => mB (wC_mono P n) b e3 h3 (K.turn k) (K.turn k') ⟨m, fun _ _ z => z, fun _ _ z => z, m, fun _ _ _ z => z⟩ q) q
/-- a walk, not opened yet -/
def ForG (cal : Cal) (G : Str → Option D) (Sb : Str → Str → Option Bool) (t : Tg) (b : Sts) (K : Ks) (env : Env) (s : Src) (h : AH) : Prop := wFor s.chk (bdF (wTg t) (wB cal G Sb b) K) K.nx s.items env h
@[simp] theorem v_for {cal : Cal} {G : Str → Option D} {Sb : Str → Str → Option Bool} {t : Tg} {it : It} {b : Sts} {env : Env} {h : AH} {K : Ks} : wS cal G Sb (.for_ t it b) env h K = wI cal G it env h (fun s h1 => ForG cal G Sb t b K env s h1) (K.ex env) := (rfl)
section
variable {P : Prog} {n : Nat} {t : Tg} {b : Sts} {env : Env} {h : AH} {K : Ks} {xs : List D} {a : Nat}
/-- over what stays -/
theorem for_f (I : Nat → Env → AH → Prop) (h0 : I 0 env h) (hs : ∀ (i : Nat) (x : D) (env : Env) (h : AH) (N : Env → AH → Prop), xs[i]? = some x → I i env h → (∀ env h, I (i + 1) env h → N env h) → wTg t x env h fun e3 h3 => wB (wC P n) P.gl P.sub b e3 h3 (K.turn N))
    (hn : ∀ env h, I xs.length env h → K.nx env h) : ForG (wC P n) P.gl P.sub t b K env (.fix xs) h := wFor_by bdF_mono I h0 (fun _ _ _ _ _ => trivial) (fun i x env h hx hi => hs i x env h _ hx hi fun _ _ z => z) hn
/-- over a list of the heap -/
theorem for_l (I : Nat → Env → AH → Prop) (h0 : I 0 env h) (hc : ∀ i env h, i ≤ xs.length → I i env h → h a = some (.lst xs)) (hs : ∀ (i : Nat) (x : D) (env : Env) (h : AH) (N : Env → AH → Prop), xs[i]? = some x → I i env h → (∀ env h, I (i + 1) env h → N env h) → wTg t x env h fun e3 h3 => wB (wC P n) P.gl P.sub b e3 h3 (K.turn N))
    (hn : ∀ env h, I xs.length env h → K.nx env h) : ForG (wC P n) P.gl P.sub t b K env (.lst a xs) h := wFor_by bdF_mono I h0 (fun i e h hi q => hc i e h hi q) (fun i x env h hx hi => hs i x env h _ hx hi fun _ _ z => z) hn
/-- a loop, by a word and a measure -/
theorem whl_i {c : Ex} {b : Sts} (I : Nat → Env → AH → Prop) (m0 : Nat) (h0 : I m0 env h) (hs : ∀ (m : Nat) (env : Env) (h : AH) (N : Env → AH → Prop), I m env h → (∀ m' env h, m' < m → I m' env h → N env h) → wX (wC P n) P.gl c env h (fun r h1 => gd (tru r h1) fun k => if k = true then wB (wC P n) P.gl P.sub b env h1 (K.turn N) else K.nx env h1) (K.ex env)) :
    wS (wC P n) P.gl P.sub (.whl c b) env h K := ⟨I, ⟨m0, h0⟩, fun m env h q => hs m env h _ q fun m' e h hm q => ⟨m', hm, q⟩⟩
end
theorem rngL_at {lo : Int} {n i : Nat} {x : D} (h : (rngL lo n)[i]? = some x) : i < n ∧ x = .int (lo + (i : Int)) := by
  simp only [rngL, List.getElem?_map, Option.map_eq_some_iff] at h
  obtain ⟨k, hk, rfl⟩ := h
  obtain ⟨hl, e⟩ := List.getElem?_eq_some_iff.mp hk
  rw [List.length_range] at hl
  rw [List.getElem_range] at e
  subst e
  exact ⟨hl, rfl⟩
@[simp] theorem rngL_length {lo : Int} {n : Nat} : (rngL lo n).length = n := by simp [rngL]
/-- turns that leave the heap as it is -/
theorem wComp_map {chk : AH → Prop} {step : D → AH → (Option D → AH → Prop) → Prop} {f : D → Option D} {h : AH} {Q : List D → AH → Prop} (hc : chk h) : ∀ {xs acc : List D}, (∀ x ∈ xs, ∀ k : Option D → AH → Prop, k (f x) h → step x h k) → acc.length + xs.length ≤ 16777216 → Q (acc ++ xs.filterMap f) h →
    wComp chk step xs acc h Q
  | [], acc, hs, hl, q => ⟨hc, by simpa using q⟩
  | x :: r, acc, hs, hl, q => by
    refine ⟨hc, hs x List.mem_cons_self _ ?_⟩
    have hl' : acc.length + (r.length + 1) ≤ 16777216 := by simpa using hl
    cases e : f x with
    | none => exact wComp_map hc (fun y hy => hs y (List.mem_cons_of_mem _ hy)) (by omega) (by simpa [List.filterMap_cons, e] using q)
    | some y => exact ⟨by omega, wComp_map hc (fun y hy => hs y (List.mem_cons_of_mem _ hy)) (by simp; omega) (by simpa [List.filterMap_cons, e] using q)⟩
theorem wComp_by {chk : AH → Prop} {step : D → AH → (Option D → AH → Prop) → Prop} (mono : ∀ x h k k', (∀ o h, k o h → k' o h) → step x h k → step x h k') {xs : List D} {Q : List D → AH → Prop} (I : Nat → List D → AH → Prop) {acc : List D} {h : AH} (h0 : I 0 acc h)
    (hc : ∀ i acc h, i ≤ xs.length → I i acc h → chk h) (hs : ∀ (i : Nat) (x : D) (acc : List D) (h : AH), xs[i]? = some x → I i acc h → step x h fun o h1 => match o with
      | none => I (i + 1) acc h1
      | some y => acc.length < 16777216 ∧ I (i + 1) (acc ++ [y]) h1) (hn : ∀ acc h, I xs.length acc h → Q acc h) : wComp chk step xs acc h Q := by
  have key : ∀ (ys : List D) (i : Nat) (acc : List D) (h : AH), ys = xs.drop i → i ≤ xs.length → I i acc h → wComp chk step ys acc h Q := by
    intro ys
    induction ys with
    | nil =>
      intro i acc h e hi q
      have : i = xs.length := by
        have := congrArg List.length e
        simp at this
        omega
      subst this
      exact ⟨hc _ _ _ hi q, hn _ _ q⟩
    | cons y ys ih =>
      intro i acc h e hi q
      have hlt :
          i < xs.length := by
        have := congrArg List.length e
        simp at this
        omega
      have hx : xs[i]? = some y := by
        have := congrArg (fun l => l[0]?) e
        simpa using this.symm
      rw [List.drop_eq_getElem_cons hlt] at e
      refine ⟨hc _ _ _ hi q, mono _ _ _ _ (fun o h1 q1 => ?_) (hs i y acc h hx q)⟩
      cases o with
      | none => exact ih (i + 1) acc h1 (List.cons.inj e).2 hlt q1
      | some z => exact ⟨q1.1, ih (i + 1) _ h1 (List.cons.inj e).2 hlt q1.2⟩
  exact key xs 0 acc h rfl (Nat.zero_le _) h0
/-- a comprehension's turns, not opened yet -/
def CompG (cal : Cal) (G : Str → Option D) (t : Tg) (own : List Nat) (e : Ex) (env : Env) (s : Src) (h : AH) (Q : List D → AH → Prop) : Prop := wComp s.chk (stepC (wTg t) env own (wX cal G e)) s.items [] h Q
def CompiG (cal : Cal) (G : Str → Option D) (t : Tg) (own : List Nat) (c e : Ex) (env : Env) (s : Src) (h : AH) (Q : List D → AH → Prop) : Prop := wComp s.chk (stepCi (wTg t) env own (wX cal G c) (wX cal G e)) s.items [] h Q
section
variable {cal : Cal} {G : Str → Option D} {t : Tg} {it : It} {own : List Nat} {c e : Ex} {env : Env} {h : AH} {Q : Rv → AH → Prop} {X : Xc}
@[simp] theorem v_comp : wX cal G (.comp t it own e) env h Q X = wI cal G it env h (fun s h1 => CompG cal G t own e env s h1 fun acc h2 => Q (.o (.lst acc)) h2) X := (rfl)
@[simp] theorem v_compi : wX cal G (.compi t it own c e) env h Q X = wI cal G it env h (fun s h1 => CompiG cal G t own c e env s h1 fun acc h2 => Q (.o (.lst acc)) h2) X := (rfl)
end
section
variable {P : Prog} {n : Nat} {t : Tg} {own : List Nat} {c e : Ex} {env : Env} {h : AH} {Q : List D → AH → Prop} {s : Src}
/-- [e for t in ..], the heap as it is -/
theorem comp_m (f : D → D) (hc : s.chk h) (hl : s.items.length ≤ 16777216) (hs : ∀ x ∈ s.items, ∀ k : D → AH → Prop, k (f x) h → wTg t x (wipe env own) h fun e2 h3 => wX (wC P n) P.gl e e2 h3 (fun r h4 => rv r h4 k) noX) (hq : Q (s.items.map f) h) :
    CompG (wC P n) P.gl t own e env s h Q := wComp_map (f := fun x => some (f x)) hc (fun x hx k hk => hs x hx _ hk) (by simpa using hl) (by simpa using hq)
theorem filterMap_if (p : D → Bool) (f : D → D) (xs : List D) : (xs.filterMap fun x => if p x = true then some (f x) else none) = (xs.filter p).map f := by
  induction xs with
  | nil => rfl
  | cons x r ih =>
    rw [List.filterMap_cons, List.filter_cons]
    cases p x <;> simp [ih]
/-- [e for t in .. if c] -/
theorem compi_m (p : D → Bool) (f : D → D) (hc : s.chk h) (hl : s.items.length ≤ 16777216) (hs : ∀ x ∈ s.items, ∀ k : Option D → AH → Prop, k (if p x = true then some (f x) else none) h → wTg t x (wipe env own) h fun e2 h3 =>
      wX (wC P n) P.gl c e2 h3 (fun b h4 => gd (tru b h4) fun b => if b = true then wX (wC P n) P.gl e e2 h4 (fun r h5 => rv r h5 fun d h6 => k (some d) h6) noX else k none h4) noX) (hq : Q ((s.items.filter p).map f) h) : CompiG (wC P n) P.gl t own c e env s h Q :=
  wComp_map (f := fun x => if p x = true then some (f x) else none) hc (fun x hx k hk => hs x hx _ hk) (by simpa using hl) (by rw [List.nil_append, filterMap_if]; exact hq)
/-- .., by a word -/
theorem comp_by (I : Nat → List D → AH → Prop) (h0 : I 0 [] h) (hc : ∀ i acc h, i ≤ s.items.length → I i acc h → s.chk h) (hs : ∀ (i : Nat) (x : D) (acc : List D) (h : AH) (N : List D → AH → Prop), s.items[i]? = some x → I i acc h → (∀ acc h, I (i + 1) acc h → N acc h) →
      wTg t x (wipe env own) h fun e2 h3 => wX (wC P n) P.gl e e2 h3 (fun r h4 => rv r h4 fun d h5 => acc.length < 16777216 ∧ N (acc ++ [d]) h5) noX) (hq : ∀ acc h, I s.items.length acc h → Q acc h) : CompG (wC P n) P.gl t own e env s h Q :=
  wComp_by (mStepC (mTg t) (mX (wC_mono P n) e)) I h0 hc (fun i x acc h hx hi => hs i x acc h _ hx hi fun _ _ z => z) hq
theorem compi_by (I : Nat → List D → AH → Prop) (h0 : I 0 [] h) (hc : ∀ i acc h, i ≤ s.items.length → I i acc h → s.chk h) (hs : ∀ (i : Nat) (x : D) (acc : List D) (h : AH) (N : List D → AH → Prop), s.items[i]? = some x → I i acc h → (∀ acc h, I (i + 1) acc h → N acc h) →
      wTg t x (wipe env own) h fun e2 h3 => wX (wC P n) P.gl c e2 h3 (fun b h4 => gd (tru b h4) fun b => if b = true then wX (wC P n) P.gl e e2 h4 (fun r h5 => rv r h5 fun d h6 => acc.length < 16777216 ∧ N (acc ++ [d]) h6) noX else N acc h4) noX)
    (hq : ∀ acc h, I s.items.length acc h → Q acc h) : CompiG (wC P n) P.gl t own c e env s h Q :=
  wComp_by (mStepCi (mTg t) (mX (wC_mono P n) c) (mX (wC_mono P n) e)) I h0 hc (fun i x acc h hx hi => hs i x acc h _ hx hi fun _ _ z => z) hq
end
/-- a body cut behind a statement -/
theorem cut_i {P : Prog} {n : Nat} {s : St} {r : Sts} {env : Env} {h : AH} {K : Ks} (R : Env → AH → Prop) (h1 : ∀ N : Env → AH → Prop, (∀ env h, R env h → N env h) → wS (wC P n) P.gl P.sub s env h (K.then N)) (h2 : ∀ env h, R env h → wB (wC P n) P.gl P.sub r env h K) : wB (wC P n) P.gl P.sub (.cons s r) env h K :=
  mS (wC_mono P n) s env h (K.then R) (K.then (rB (wC P n) P.gl P.sub r K)) ⟨h2, fun _ _ z => z, fun _ _ z => z, fun _ _ z => z, fun _ _ _ z => z⟩ (h1 R fun _ _ z => z)
/-- all(..), any(..) of what is just made -/
def allP {α : Type} (p : α → Bool) (xs : List α) : Bool := xs.all p
def anyP {α : Type} (p : α → Bool) (xs : List α) : Bool := xs.any p
theorem allP_iff {α : Type} {p : α → Bool} {xs : List α} : allP p xs = true ↔ ∀ x ∈ xs, p x = true := List.all_eq_true
theorem anyP_iff {α : Type} {p : α → Bool} {xs : List α} : anyP p xs = true ↔ ∃ x ∈ xs, p x = true := List.any_eq_true
theorem blsL_p {α : Type} (p : α → Bool) : ∀ xs : List α, blsL (xs.map fun x => D.bl (p x)) = some (xs.map p)
  | [] => rfl
  | x :: xs => by show (blsL (xs.map fun x => D.bl (p x))).map (p x :: ·) = _; rw [blsL_p p xs]; rfl
theorem all_p {α : Type} (p : α → Bool) (xs : List α) (h : AH) : b1D .all (.o (.lst (xs.map fun x => D.bl (p x)))) h = some (.v (.bl (allP p xs))) := by
  show (blsL (xs.map fun x => D.bl (p x))).map (fun bs => Rv.v (D.bl (bs.all id))) = _
  rw [blsL_p]
  simp [allP, Function.comp_def]
theorem any_p {α : Type} (p : α → Bool) (xs : List α) (h : AH) : b1D .any (.o (.lst (xs.map fun x => D.bl (p x)))) h = some (.v (.bl (anyP p xs))) := by
  show (blsL (xs.map fun x => D.bl (p x))).map (fun bs => Rv.v (D.bl (bs.any id))) = _
  rw [blsL_p]
  simp [anyP, Function.comp_def]
def dI : D → Int
  | .int i => i
  | _ => 0
@[simp] theorem dI_int {i : Int} : dI (.int i) = i := rfl
/-! ### what the steps come to -/
section
variable {h : AH} {i j : Int} {b b' : Bool} {s t : Str} {xs ys : List D} {a : Nat} {d : D}
@[simp] theorem t_non : tru (.v .non) h = some false := rfl
@[simp] theorem t_bl : tru (.v (.bl b)) h = some b := rfl
@[simp] theorem t_int : tru (.v (.int i)) h = some (i != 0) := rfl
@[simp] theorem t_tup : tru (.v (.tup xs)) h = some (!xs.isEmpty) := rfl
@[simp] theorem t_o : tru (.o (.lst xs)) h = some (!xs.isEmpty) := rfl
@[simp] theorem t_loc (e : h a = some (.lst xs)) : tru (.v (.loc a)) h = some (!xs.isEmpty) := by simp [tru, ob, e]
@[simp] theorem l_fl : lsV (.v (.fl xs)) h = some xs := rfl
@[simp] theorem l_o : lsV (.o (.lst xs)) h = some xs := rfl
@[simp] theorem l_loc (e : h a = some (.lst xs)) : lsV (.v (.loc a)) h = some xs := by simp [lsV, ob, e]
@[simp] theorem l_tup : lsV (.v (.tup xs)) h = none := rfl
@[simp] theorem lt_o : ltV (.o (.lst xs)) h = some xs := rfl
@[simp] theorem lt_loc (e : h a = some (.lst xs)) : ltV (.v (.loc a)) h = some xs := by simp [ltV, ob, e]
@[simp] theorem s_tupV : sqV (.v (.tup xs)) h = some xs := rfl
@[simp] theorem s_flV : sqV (.v (.fl xs)) h = some xs := rfl
@[simp] theorem s_oV : sqV (.o (.lst xs)) h = some xs := rfl
@[simp] theorem s_locV (e : h a = some (.lst xs)) : sqV (.v (.loc a)) h = some xs := by simp [sqV, lsV, ob, e]
@[simp] theorem n_len_t : b1D .len (.v (.tup xs)) h = some (.v (.int xs.length)) := rfl
@[simp] theorem n_len_f : b1D .len (.v (.fl xs)) h = some (.v (.int xs.length)) := rfl
@[simp] theorem n_len_o : b1D .len (.o (.lst xs)) h = some (.v (.int xs.length)) := rfl
@[simp] theorem n_len_l (e : h a = some (.lst xs)) : b1D .len (.v (.loc a)) h = some (.v (.int xs.length)) := by simp [b1D, e]
@[simp] theorem n_int_i : b1D .int (.v (.int i)) h = some (.v (.int i)) := rfl
@[simp] theorem n_int_b : b1D .int (.v (.bl b)) h = some (.v (.int (if b then 1 else 0))) := rfl
@[simp] theorem n_bool_i : b1D .bool (.v (.int i)) h = some (.v (.bl (i != 0))) := rfl
@[simp] theorem n_bool_b : b1D .bool (.v (.bl b)) h = some (.v (.bl b)) := rfl
@[simp] theorem n_abs : b1D .abs (.v (.int i)) h = some (.v (.int (if i < 0 then -i else i))) := rfl
@[simp] theorem n_tup_t : b1D .tup (.v (.tup xs)) h = some (.v (.tup xs)) := rfl
@[simp] theorem n_tup_f : b1D .tup (.v (.fl xs)) h = some (.v (.tup xs)) := rfl
@[simp] theorem n_tup_o : b1D .tup (.o (.lst xs)) h = some (.v (.tup xs)) := rfl
@[simp] theorem n_tup_l (e : h a = some (.lst xs)) : b1D .tup (.v (.loc a)) h = some (.v (.tup xs)) := by simp [b1D, e]
@[simp] theorem n_lst_t : b1D .lst (.v (.tup xs)) h = some (.o (.lst xs)) := rfl
@[simp] theorem n_lst_f : b1D .lst (.v (.fl xs)) h = some (.o (.lst xs)) := rfl
@[simp] theorem n_lst_o : b1D .lst (.o (.lst xs)) h = some (.o (.lst xs)) := rfl
@[simp] theorem n_lst_l (e : h a = some (.lst xs)) : b1D .lst (.v (.loc a)) h = some (.o (.lst xs)) := by simp [b1D, e]
@[simp] theorem i_non {t : Ty} : isTy (.v .non) t h = some false := rfl
@[simp] theorem i_bl {t : Ty} : isTy (.v (.bl b)) t h = some (match t with | .bool => true | .int => true | _ => false) := rfl
@[simp] theorem i_int {t : Ty} : isTy (.v (.int i)) t h = some (match t with | .int => true | _ => false) := rfl
@[simp] theorem i_str {t : Ty} : isTy (.v (.str s)) t h = some (match t with | .str => true | _ => false) := rfl
@[simp] theorem i_tup {t : Ty} : isTy (.v (.tup xs)) t h = some (match t with | .tup => true | _ => false) := rfl
@[simp] theorem n_isa {t : Ty} {x : Rv} : b1D (.isa t) x h = (isTy x t h).map fun b => .v (.bl b) := rfl
@[simp] theorem o_add : binD .add (.v (.int i)) (.v (.int j)) h = some (.v (.int (i + j))) := rfl
@[simp] theorem o_addt (e : xs.length + ys.length ≤ 16777216) : binD .add (.v (.tup xs)) (.v (.tup ys)) h = some (.v (.tup (xs ++ ys))) := by simp [binD, addD, e]
@[simp] theorem o_addo (e : xs.length + ys.length ≤ 16777216) : binD .add (.o (.lst xs)) (.o (.lst ys)) h = some (.o (.lst (xs ++ ys))) := by simp [binD, addD, ltV, ob, e]
@[simp] theorem o_addlo (e1 : h a = some (.lst xs)) (e : xs.length + ys.length ≤ 16777216) : binD .add (.v (.loc a)) (.o (.lst ys)) h = some (.o (.lst (xs ++ ys))) := by simp [binD, addD, ltV, ob, e, e1]
@[simp] theorem o_addol (e1 : h a = some (.lst ys)) (e : xs.length + ys.length ≤ 16777216) : binD .add (.o (.lst xs)) (.v (.loc a)) h = some (.o (.lst (xs ++ ys))) := by simp [binD, addD, ltV, ob, e, e1]
@[simp] theorem o_addll {a' : Nat} (e0 : h a = some (.lst xs)) (e1 : h a' = some (.lst ys)) (e : xs.length + ys.length ≤ 16777216) : binD .add (.v (.loc a)) (.v (.loc a')) h = some (.o (.lst (xs ++ ys))) := by simp [binD, addD, ltV, ob, e, e0, e1]
@[simp] theorem o_sub : binD .sub (.v (.int i)) (.v (.int j)) h = some (.v (.int (i - j))) := rfl
@[simp] theorem o_mod (e : 0 < j) : binD .mod (.v (.int i)) (.v (.int j)) h = some (.v (.int (i % j))) := by simp [binD, intOp, e]
@[simp] theorem o_fdiv (e : 0 < j) (e2 : j < 1073741824) : binD .fdiv (.v (.int i)) (.v (.int j)) h = some (.v (.int (i / j))) := by simp [binD, intOp, e, e2]
@[simp] theorem o_shr (e : 0 ≤ j) : binD .shr (.v (.int i)) (.v (.int j)) h = some (.v (.int (i / 2 ^ j.toNat))) := by simp [binD, intOp, e]
@[simp] theorem o_shl (e : 0 ≤ j) (e2 : j ≤ 1000000) (e3 : i.natAbs < 18446744073709551616) : binD .shl (.v (.int i)) (.v (.int j)) h = some (.v (.int (i * 2 ^ j.toNat))) := by simp [binD, intOp, e, e2, e3]
@[simp] theorem o_pow (e : 0 ≤ j) (e2 : j ≤ 1000000) (e3 : i.natAbs < 18446744073709551616) : binD .pow (.v (.int i)) (.v (.int j)) h = some (.v (.int (i ^ j.toNat))) := by simp [binD, intOp, e, e2, e3]
@[simp] theorem o_band : binD .band (.v (.int i)) (.v (.int j)) h = some (.v (.int (PySem.Builtin.bitAnd i j))) := rfl
@[simp] theorem o_bxor : binD .bxor (.v (.int i)) (.v (.int j)) h = some (.v (.int (PySem.Builtin.bitXor i j))) := rfl
@[simp] theorem o_bor : binD .bor (.v (.int i)) (.v (.int j)) h = some (.v (.int (PySem.Builtin.bitOr i j))) := rfl
/-- the left factor is small -/
def ml (i : Int) : Prop := -18446744073709551616 < i ∧ i < 18446744073709551616
@[simp] theorem o_mull (e : ml i) : binD .mul (.v (.int i)) (.v (.int j)) h = some (.v (.int (i * j))) := by simp [binD, mulD, mulOk, e.1, e.2]
@[simp] theorem o_mulr (e : ml j) : binD .mul (.v (.int i)) (.v (.int j)) h = some (.v (.int (i * j))) := by simp [binD, mulD, mulOk, e.1, e.2]
theorem ml_of (e1 : -18446744073709551616 < i) (e2 : i < 18446744073709551616) : ml i := ⟨e1, e2⟩
@[simp] theorem o_rep {k : Nat} (e : k < 9223372036854775808) (e2 : xs.length * k ≤ 16777216) : binD .mul (.o (.lst xs)) (.v (.int k)) h = some (.o (.lst (rept xs k))) := by
  have e3 : -9223372036854775808 ≤ (k : Int) := by omega
  have e4 : (k : Int) < 9223372036854775808 := by omega
  simp [binD, mulD, ltV, ob, e2, e3, e4]
@[simp] theorem k_eqi : cmpD .eq (.v (.int i)) (.v (.int j)) h = some (decide (i = j)) := rfl
@[simp] theorem k_nei : cmpD .ne (.v (.int i)) (.v (.int j)) h = some (!decide (i = j)) := rfl
@[simp] theorem k_lt : cmpD .lt (.v (.int i)) (.v (.int j)) h = some (decide (i < j)) := rfl
@[simp] theorem k_lt2 {a b c d : Int} {h : AH} : cmpD .lt (.v (.tup [.int a, .int b])) (.v (.tup [.int c, .int d])) h = some (decide (a < c ∨ (a = c ∧ b < d))) := (rfl)
@[simp] theorem k_le : cmpD .le (.v (.int i)) (.v (.int j)) h = some (decide (i ≤ j)) := rfl
@[simp] theorem k_gt : cmpD .gt (.v (.int i)) (.v (.int j)) h = some (decide (j < i)) := rfl
@[simp] theorem k_ge : cmpD .ge (.v (.int i)) (.v (.int j)) h = some (decide (j ≤ i)) := rfl
@[simp] theorem k_eqs : cmpD .eq (.v (.str s)) (.v (.str t)) h = some (decide (s = t)) := rfl
@[simp] theorem k_nes : cmpD .ne (.v (.str s)) (.v (.str t)) h = some (!decide (s = t)) := rfl
@[simp] theorem k_eqb : cmpD .eq (.v (.bl b)) (.v (.bl b')) h = some (b == b') := rfl
@[simp] theorem d_non : isD (.v .non) .non = some true := rfl
@[simp] theorem d_int : isD (.v (.int i)) .non = some false := rfl
@[simp] theorem d_bl : isD (.v (.bl b)) .non = some false := rfl
@[simp] theorem d_str : isD (.v (.str s)) .non = some false := rfl
@[simp] theorem d_tup : isD (.v (.tup xs)) .non = some false := rfl
@[simp] theorem d_fl : isD (.v (.fl xs)) .non = some false := rfl
@[simp] theorem d_loc : isD (.v (.loc a)) .non = some false := rfl
@[simp] theorem d_o {o : AO} : isD (.o o) .non = some false := rfl
@[simp] theorem x_t : ixD (.v (.tup xs)) (.v (.int i)) h = atI xs i := rfl
@[simp] theorem x_f : ixD (.v (.fl xs)) (.v (.int i)) h = atI xs i := rfl
@[simp] theorem x_o : ixD (.o (.lst xs)) (.v (.int i)) h = atI xs i := rfl
@[simp] theorem x_l (e : h a = some (.lst xs)) : ixD (.v (.loc a)) (.v (.int i)) h = atI xs i := by simp [ixD, e]
@[simp] theorem x_0 {x : D} : atI (x :: xs) 0 = some x := by simp [atI, ixN]
theorem atN {k : Nat} {v : D} (e : xs[k]? = some v) : atI xs (k : Int) = some v := by
  have hl := (List.getElem?_eq_some_iff.mp e).1
  simp [atI, ixN, hl]
  exact (List.getElem?_eq_some_iff.mp e).2
@[simp] theorem x_1 {x y : D} : atI (x :: y :: xs) 1 = some y := atN (k := 1) rfl
@[simp] theorem x_2 {x y z : D} : atI (x :: y :: z :: xs) 2 = some z := atN (k := 2) rfl
@[simp] theorem x_3 {x y z w : D} : atI (x :: y :: z :: w :: xs) 3 = some w := atN (k := 3) rfl
@[simp] theorem x_4 {x y z w u : D} : atI (x :: y :: z :: w :: u :: xs) 4 = some u := atN (k := 4) rfl
@[simp] theorem x_5 {x y z w u v : D} : atI (x :: y :: z :: w :: u :: v :: xs) 5 = some v := atN (k := 5) rfl
@[simp] theorem sl_t {lo hi : Option Int} : slD (.v (.tup xs)) lo hi h = some (.v (.tup (cut xs lo hi))) := rfl
@[simp] theorem sl_o {lo hi : Option Int} : slD (.o (.lst xs)) lo hi h = some (.o (.lst (cut xs lo hi))) := rfl
@[simp] theorem sl_f {lo hi : Option Int} : slD (.v (.fl xs)) lo hi h = some (.o (.lst (cut xs lo hi))) := rfl
@[simp] theorem sl_l {lo hi : Option Int} (e : h a = some (.lst xs)) : slD (.v (.loc a)) lo hi h = some (.o (.lst (cut xs lo hi))) := by simp [slD, e]
@[simp] theorem c_t : srcOf (.v (.tup xs)) h = some (.fix xs) := rfl
@[simp] theorem c_f : srcOf (.v (.fl xs)) h = some (.fix xs) := rfl
@[simp] theorem c_o : srcOf (.o (.lst xs)) h = some (.fix xs) := rfl
@[simp] theorem c_l (e : h a = some (.lst xs)) : srcOf (.v (.loc a)) h = some (.lst a xs) := by simp [srcOf, e]
@[simp] theorem m_app (e : h a = some (.lst xs)) (hl : xs.length < 16777216) : mtD .append (.v (.loc a)) [d] h = some (.v .non, put h a (.lst (xs ++ [d]))) := by simp [mtD, mLs, e, hl]
@[simp] theorem m_rev (e : h a = some (.lst xs)) : mtD .reverse (.v (.loc a)) [] h = some (.v .non, put h a (.lst xs.reverse)) := by simp [mtD, mLs, e]
@[simp] theorem q_app (e : h a = some (.lst xs)) : mtChk .append (.v (.loc a)) h = true := by simp [mtChk, e]
@[simp] theorem q_pop (e : h a = some (.lst xs)) : mtChk .pop (.v (.loc a)) h = true := by simp [mtChk, e]
@[simp] theorem q_rev (e : h a = some (.lst xs)) : mtChk .reverse (.v (.loc a)) h = true := by simp [mtChk, e]
@[simp] theorem q_ext (e : h a = some (.lst xs)) : mtChk .extend (.v (.loc a)) h = true := by simp [mtChk, e]
@[simp] theorem u_add : augD .add (.int i) (.v (.int j)) h = some (.v (.int (i + j)), h) := rfl
@[simp] theorem u_sub : augD .sub (.int i) (.v (.int j)) h = some (.v (.int (i - j)), h) := rfl
@[simp] theorem u_ext (e : h a = some (.lst xs)) (hl : xs.length + ys.length ≤ 16777216) : augD .add (.loc a) (.o (.lst ys)) h = some (.v (.loc a), put h a (.lst (xs ++ ys))) := by simp [augD, e, hl]
@[simp] theorem b_max : b2D .max (.int i) (.int j) = some (.int (if i < j then j else i)) := rfl
@[simp] theorem b_min : b2D .min (.int i) (.int j) = some (.int (if j < i then j else i)) := rfl
end
end Py
namespace Py
open PySem (Str)
/-! ### what all laws share -/
def c__law_draws : Fn := ⟨2, 10, (.cons (.asg (.nm 2) (.comp (.nm 9) (.seq (.var 0)) [8, 9] (.b1 .int (.var 9)))) (.cons (.ifs (.cmp .eq (.b1 .len (.var 2)) (.lit (.int 0))) (.cons (.expr (.mt .append (.var 2) (.cons (.lit (.int 0)) .nil))) .nil) .nil) (.cons (.asg (.nm 3) (.b1 .lst (.var 2))) (.cons (.asg (.nm 4) (.lst .nil)) (.cons (.for_ (.nm 5) (.rng1 (.var 1)) (.cons (.asg (.nm 6) (.bin .mod (.var 5) (.b1 .len (.var 2)))) (.cons (.ifs (.and (.cmp .ge (.ix (.var 2) (.var 6)) (.bin .pow (.lit (.int 10)) (.lit (.int 18)))) (.cmp .gt (.ix (.var 3) (.var 6)) (.lit (.int 0)))) (.cons (.expr (.mt .append (.var 4) (.cons (.bin .mod (.b1 .int (.ix (.var 3) (.var 6))) (.lit (.int 1000))) .nil))) (.cons (.set (.var 3) (.var 6) (.bin .fdiv (.ix (.var 3) (.var 6)) (.lit (.int 1000)))) .nil)) (.cons (.asg (.nm 7) (.bin .mod (.b1 .int (.bin .add (.bin .add (.bin .mul (.ix (.var 2) (.var 6)) (.lit (.int 48271))) (.bin .mul (.var 5) (.lit (.int 69621)))) (.lit (.int 11)))) (.lit (.int 2147483647)))) (.cons (.expr (.mt .append (.var 4) (.cons (.bin .mod (.b1 .int (.bin .add (.bin .add (.bin .mul (.var 7) (.var 7)) (.bin .mul (.lit (.int 3)) (.var 7))) (.var 5))) (.lit (.int 1000003))) .nil))) .nil))) .nil))) (.cons (.expr (.mt .reverse (.var 4) .nil)) (.cons (.ret (.var 4)) .nil)))))))⟩
def c__law_take : Fn := ⟨2, 2, (.cons (.ifs (.cmp .eq (.b1 .len (.var 0)) (.lit (.int 0))) (.cons (.ret (.lit (.int 0))) .nil) .nil) (.cons (.ret (.bin .mod (.b1 .int (.mt .pop (.var 0) .nil)) (.var 1))) .nil))⟩
def c__law_cell : Fn := ⟨1, 2, (.cons (.ifs (.cmp .eq (.b1 .len (.var 0)) (.lit (.int 0))) (.cons (.ret (.lit (.int 0))) .nil) .nil) (.cons (.asg (.nm 1) (.b1 .int (.ix (.var 0) (.bin .mod (.bin .mod (.b1 .int (.bin .sub (.b1 .len (.var 0)) (.lit (.int 1)))) (.lit (.int 7))) (.b1 .len (.var 0)))))) (.cons (.ifs (.cmp .lt (.var 1) (.lit (.int 0))) (.cons (.ret (.neg (.bin .mod (.b1 .int (.neg (.var 1))) (.bin .pow (.lit (.int 10)) (.lit (.int 60)))))) .nil) .nil) (.cons (.ret (.bin .mod (.b1 .int (.var 1)) (.bin .pow (.lit (.int 10)) (.lit (.int 60))))) .nil))))⟩
def c__law_same : Fn := ⟨2, 3, (.cons (.ifs (.b1 (.isa .bool) (.var 1)) (.cons (.ret (.and (.b1 (.isa .bool) (.var 0)) (.cmp .eq (.var 0) (.var 1)))) .nil) .nil) (.cons (.ifs (.b1 (.isa .int) (.var 1)) (.cons (.ret (.and (.b1 (.isa .int) (.var 0)) (.and (.not (.b1 (.isa .bool) (.var 0))) (.cmp .eq (.var 0) (.var 1))))) .nil) .nil) (.cons (.ifs (.b1 (.isa .str) (.var 1)) (.cons (.ret (.and (.b1 (.isa .str) (.var 0)) (.cmp .eq (.var 0) (.var 1)))) .nil) .nil) (.cons (.ifs (.isc false (.var 1) .non) (.cons (.ret (.isc false (.var 0) .non)) .nil) .nil) (.cons (.ifs (.or (.not (.b1 (.isa .tup) (.var 0))) (.cmp .ne (.b1 .len (.var 0)) (.b1 .len (.var 1)))) (.cons (.ret (.lit (.bl false))) .nil) .nil) (.cons (.for_ (.nm 2) (.rng1 (.b1 .len (.var 1))) (.cons (.ifs (.not (.call "_law_same" (.cons (.ix (.var 0) (.var 2)) (.cons (.ix (.var 1) (.var 2)) .nil)))) (.cons (.ret (.lit (.bl false))) .nil) .nil) .nil)) (.cons (.ret (.lit (.bl true))) .nil)))))))⟩
def c__law_power : Fn := ⟨1, 3, (.cons (.asg (.nm 1) (.lit (.int 1))) (.cons (.for_ (.nm 2) (.rng1 (.var 0)) (.cons (.asg (.nm 1) (.bin .mul (.lit (.int 2)) (.var 1))) .nil)) (.cons (.ret (.var 1)) .nil)))⟩
/-- plain data, not deep -/
def sm : Nat → D → Bool
  | _, .non => true
  | _, .bl _ => true
  | _, .int _ => true
  | _, .str _ => true
  | n + 1, .tup xs => decide (xs.length ≤ 16777216) && xs.all (sm n)
  | _, _ => false
/-- ints -/
def iL (xs : List Int) : List D := xs.map D.int
theorem take_i {P : Prog} (hf : P.fn "_law_take" = some c__law_take) {n : Nat} {a : Nat} {ds : List Int} {m : Int} {h : AH} {Q : D → AH → Prop} {X : Xc} (hm : 0 < m) (e : h a = some (.lst (iL ds)))
    (q : ∀ (v : Int) (ds' : List Int), 0 ≤ v → v < m → Q (.int v) (put h a (.lst (iL ds')))) : wC P (n + 1) "_law_take" [.loc a, .int m] h Q X := by
  refine wC_i hf rfl ?_
  rcases List.eq_nil_or_concat ds with rfl | ⟨l, x, rfl⟩
  · simp [c__law_take, b1D, sqV, lsV, ob, e, iL, cmpD, eqD, tru]
    refine someQ_i ?_
    have := q 0 [] (Int.le_refl 0) hm
    have e2 : put h a (.lst (iL [])) = h := by
      funext b
      by_cases hb : b = a
      · subst hb; rw [put_self, e]
      · exact put_ne hb
    rw [e2] at this
    exact this
  · have e' : h a = some (.lst (iL l ++ [.int x])) := by rw [e]; simp [iL]
    simp [c__law_take, b1D, sqV, lsV, ob, e', cmpD, eqD, tru]
    have hne : ¬ ((l.length : Int) + 1 = 0) := by omega
    simp [hne, iL, mtChk, ltV, ob, e', mtD, mLs, binD, intOp, hm]
    exact someQ_i (q _ l (Int.emod_nonneg _ (by omega)) (Int.emod_lt_of_pos _ hm))
theorem two_pow (i : Nat) : (2 : Int) * 2 ^ i = 2 ^ (i + 1) := by rw [Int.pow_succ, Int.mul_comm]
theorem power_i {P : Prog} (hf : P.fn "_law_power" = some c__law_power) {n : Nat} {w : Int} {h : AH} {Q : D → AH → Prop} {X : Xc} (hw : small62 w = true) (q : Q (.int (2 ^ w.toNat)) h) : wC P (n + 1) "_law_power" [.int w] h Q X := by
  refine wC_i hf rfl ?_
  simp [c__law_power, List.replicate, hw]
  refine for_f (fun i env h' => h' = h ∧ ∃ o, env = [some (.int w), some (.int (2 ^ i)), o]) ⟨rfl, none, by simp⟩ ?_ ?_
  · rintro i x env h' N hx ⟨rfl, o, rfl⟩ hN
    simp [binD, mulD, mulOk, two_pow]
    exact hN _ _ ⟨rfl, _, rfl⟩
  · rintro env h' ⟨rfl, o, rfl⟩
    simp
    exact someQ_i q
theorem cell_i {P : Prog} (hf : P.fn "_law_cell" = some c__law_cell) {n : Nat} {ns : List Int} {h : AH} {Q : D → AH → Prop} {X : Xc} (q : ∀ v : Int, Q (.int v) h) : wC P (n + 1) "_law_cell" [.fl (iL ns)] h Q X := by
  refine wC_i hf rfl ?_
  cases ns with
  | nil =>
    simp [c__law_cell, b1D, sqV, lsV, iL, cmpD, eqD, tru]
    exact someQ_i (q 0)
  | cons x ns =>
    have hne : ¬ ((ns.length : Int) + 1 = 0) := by omega
    have h0 : (0 : Int) < (ns.length : Int) + 1 := by omega
    have h1 : 0 ≤ (ns.length : Int) % 7 % ((ns.length : Int) + 1) := Int.emod_nonneg _ (by omega)
    have h2 : (ns.length : Int) % 7 % ((ns.length : Int) + 1) < (ns.length : Int) + 1 := Int.emod_lt_of_pos _ h0
    obtain ⟨j, hj⟩ := Int.eq_ofNat_of_zero_le h1
    have hj2 : j < (x :: ns).length := by rw [hj] at h2; simp; omega
    simp [c__law_cell, b1D, sqV, lsV, iL, cmpD, eqD, tru, hne, binD, intOp, h0, ixD, hj, atI, ixN]
    have hj3 : ((if j < ns.length + 1 then some j else none).bind fun j => (D.int x :: List.map D.int ns)[j]?) = some (.int (x :: ns)[j]) := by
      rw [if_pos (by simpa using hj2)]
      show (List.map D.int (x :: ns))[j]? = _
      rw [List.getElem?_map, List.getElem?_eq_getElem hj2]
      rfl
    rw [hj3]
    simp only [gd_some, rv_v]
    split
    · simp only [v_asInt, gd_some]
      exact someQ_i (q _)
    · exact someQ_i (q _)
theorem same_i {P : Prog} (hf : P.fn "_law_same" = some c__law_same) : ∀ {k n : Nat} {d : D} {h : AH} {Q : D → AH → Prop} {X : Xc}, sm k d = true → Q (.bl true) h → wC P (n + k + 1) "_law_same" [d, d] h Q X := by
  intro k
  induction k with
  | zero =>
    intro n d h Q X hs q
    refine wC_i hf rfl ?_
    cases d with
    | non => simp [c__law_same, b1D, isTy, tru, isD]; exact someQ_i q
    | bl b => simp [c__law_same, b1D, isTy, tru, isD, cmpD, eqD, lsV, ob, pu, eqv]; exact someQ_i q
    | int b => simp [c__law_same, b1D, isTy, tru, isD, cmpD, eqD]; exact someQ_i q
    | str b => simp [c__law_same, b1D, isTy, tru, isD, cmpD, eqD]; exact someQ_i q
    | _ => simp [sm] at hs
  | succ k ih =>
    intro n d h Q X hs q
    refine wC_i hf rfl ?_
    cases d with
    | non => simp [c__law_same, b1D, isTy, tru, isD]; exact someQ_i q
    | bl b => simp [c__law_same, b1D, isTy, tru, isD, cmpD, eqD, lsV, ob, pu, eqv]; exact someQ_i q
    | int b => simp [c__law_same, b1D, isTy, tru, isD, cmpD, eqD]; exact someQ_i q
    | str b => simp [c__law_same, b1D, isTy, tru, isD, cmpD, eqD]; exact someQ_i q
    | tup xs =>
      simp [sm] at hs
      have hz : small62 (xs.length : Int) = true := by simp [small62]; omega
      simp [c__law_same, b1D, isTy, tru, isD, cmpD, eqD, sqV, hz]
      refine for_f (fun i env h' => h' = h ∧ ∃ o, env = [some (.tup xs), some (.tup xs), o]) ⟨rfl, none, rfl⟩ ?_ ?_
      · rintro i x env h' N hx ⟨rfl, o, rfl⟩ hN
        obtain ⟨hi, rfl⟩ := rngL_at hx
        have hi' : i < xs.length := by simpa using hi
        have e1 : atI xs (i : Int) = some xs[i] := by simp [atI, ixN, hi', List.getElem?_eq_getElem hi']
        simp [ixD, sqV, e1]
        refine ih (hs.2 _ (List.getElem_mem hi')) ?_
        simp [tru]
        exact hN _ _ ⟨rfl, _, rfl⟩
      · rintro env h' ⟨rfl, o, rfl⟩
        simp
        exact someQ_i q
    | _ => simp [sm] at hs
theorem iL_len {xs : List Int} : (iL xs).length = xs.length := by simp [iL]
theorem iL_app {xs ys : List Int} : iL xs ++ iL ys = iL (xs ++ ys) := by simp [iL]
theorem iL_one {xs : List Int} {y : Int} : iL xs ++ [D.int y] = iL (xs ++ [y]) := by simp [iL]
theorem iL_at {xs : List Int} {k : Int} (h0 : 0 ≤ k) (h1 : k < xs.length) : ∃ v, atI (iL xs) k = some (.int v) := by
  obtain ⟨j, rfl⟩ :=
      Int.eq_ofNat_of_zero_le h0
  have hj : j < xs.length := by omega
  refine ⟨xs[j], ?_⟩
  simp [atI, ixN, iL, hj, h1]
theorem iL_set {xs : List Int} {v : Int} {j : Nat} : (iL xs).set j (.int v) = iL (xs.set j v) := by simp [iL, List.map_set]
theorem draws_i {P : Prog} (hf : P.fn "_law_draws" = some c__law_draws) {n : Nat} {ns : List Int} {m : Int} {h : AH} {Q : D → AH → Prop} {X : Xc} (hn : ns.length ≤ 63) (hm : small62 m = true) (hm2 : m ≤ 10000)
    (q : ∀ (a : Nat) (ds : List Int), h a = none → Q (.loc a) (put h a (.lst (iL ds)))) : wC P (n + 1) "_law_draws" [.fl (iL ns), .int m] h Q X := by
  refine wC_i hf rfl ?_
  simp only [c__law_draws, v_start, List.replicate, List.length_cons, List.length_nil, List.map_cons, List.map_nil, List.cons_append, List.nil_append]
  -- the cells
  refine cut_i (fun env1 h1 => ∃ a1, env1 = [some (.fl (iL ns)), some (.int m), some (.loc a1), none, none, none, none, none, none, none] ∧ h a1 = none ∧ h1 = put h a1 (.lst (iL ns))) (fun N hN => ?_) ?_
  · simp [srcOf]
    refine comp_m id trivial (by rw [v_fixi, iL_len]; omega) (fun x hx k hk => ?_) ?_
    · simp only [iL, List.mem_map, v_fixi] at hx
      obtain ⟨i, _, rfl⟩ := hx
      simpa [wipe, b1D] using hk
    · simp
      exact fun a1 n1 => hN _ _ ⟨a1, rfl, n1, rfl⟩
  rintro _ _ ⟨a1, rfl, n1, rfl⟩
  refine cut_i (fun env1 h1 => ∃ cs : List Int, 0 < cs.length ∧ cs.length ≤ 63 ∧ env1 = [some (.fl (iL ns)), some (.int m), some (.loc a1), none, none, none, none, none, none, none] ∧ h1 = put h a1 (.lst (iL cs))) (fun N hN => ?_) ?_
  · cases ns with
    | nil =>
      simp [b1D, sqV, lsV, ob, cmpD, eqD, tru, mtChk, ltV, mtD, mLs, iL]
      exact hN _ _ ⟨[0], by simp, by simp, rfl, rfl⟩
    | cons x ns =>
      have hne : ¬ ((ns.length : Int) + 1 = 0) := by omega
      simp [b1D, sqV, lsV, ob, cmpD, eqD, tru, iL, hne]
      exact hN _ _ ⟨x :: ns, by simp, by simpa using hn, rfl, rfl⟩
  rintro _ _ ⟨cs, c0, c1, rfl, rfl⟩
  refine cut_i (fun env1 h1 => ∃ a2, a2 ≠ a1 ∧ h a2 = none ∧ env1 = [some (.fl (iL ns)), some (.int m), some (.loc a1), some (.loc a2), none, none, none, none, none, none] ∧ h1 = put (put h a1 (.lst (iL cs))) a2 (.lst (iL cs))) (fun N hN => ?_) ?_
  · simp [b1D, sqV, lsV, ob]
    intro a2 n2
    have e1 : a2 ≠ a1 := fun e => by subst e; rw [put_self] at n2; cases n2
    rw [put_ne e1] at n2
    exact hN _ _ ⟨a2, e1, n2, rfl, rfl⟩
  rintro _ _ ⟨a2, n2, n20, rfl, rfl⟩
  refine cut_i (fun env1 h1 => ∃ a3, a3 ≠ a1 ∧ a3 ≠ a2 ∧ h a3 = none ∧ env1 = [some (.fl (iL ns)), some (.int m), some (.loc a1), some (.loc a2), some (.loc a3), none, none, none, none, none] ∧ h1 = put (put (put h a1 (.lst (iL cs))) a2 (.lst (iL cs))) a3 (.lst (iL []))) (fun N hN => ?_) ?_
  · simp
    intro a3 n3
    have e2 : a3 ≠ a2 := fun e => by subst e; rw [put_self] at n3; cases n3
    rw [put_ne e2] at n3
    have e1 : a3 ≠ a1 := fun e => by subst e; rw [put_self] at n3; cases n3
    rw [put_ne e1] at n3
    exact hN _ _ ⟨a3, e1, e2, n3, rfl, rfl⟩
  rintro _ _ ⟨a3, n31, n32, n3, rfl, rfl⟩
  -- the turns
  refine cut_i (fun env1 h1 => ∃ ds o5 o6 o7 rs, env1 = [some (.fl (iL ns)), some (.int m), some (.loc a1), some (.loc a2), some (.loc a3), o5, o6, o7, none, none] ∧ rs.length = cs.length ∧ ds.length ≤ m.toNat ∧ h1 = put (put (put h a1 (.lst (iL cs))) a2 (.lst (iL rs))) a3 (.lst (iL ds))) (fun N hN => ?_) ?_
  · simp [hm]
    refine for_f (fun i env1 h1 => ∃ ds o5 o6 o7 rs, env1 = [some (.fl (iL ns)), some (.int m), some (.loc a1), some (.loc a2), some (.loc a3), o5, o6, o7, none, none] ∧ rs.length = cs.length ∧ ds.length ≤ i ∧ h1 = put (put (put h a1 (.lst (iL cs))) a2 (.lst (iL rs))) a3 (.lst (iL ds))) ?_ ?_ ?_
    · exact ⟨[], none, none, none, cs, rfl, rfl, by simp, rfl⟩
    · rintro i x _ _ N2 hx ⟨ds, o5, o6, o7, rs, rfl, hr, hd, rfl⟩ hN2
      obtain ⟨hi, rfl⟩ := rngL_at hx
      have hc0 : (0 : Int) < (cs.length : Int) := by omega
      have g0 : 0 ≤ (i : Int) % (cs.length : Int) := Int.emod_nonneg _ (by omega)
      have g1 : (i : Int) % (cs.length : Int) < (cs.length : Int) := Int.emod_lt_of_pos _ hc0
      obtain ⟨v, hv⟩ := iL_at (xs := cs) g0 g1
      obtain ⟨w, hw⟩ := iL_at (xs := rs) g0 (by rw [hr]; exact g1)
      obtain ⟨j, hj⟩ := Int.eq_ofNat_of_zero_le g0
      have hj2 : j < rs.length := by omega
      have p1 : put (put (put h a1 (.lst (iL cs))) a2 (.lst (iL rs))) a3 (.lst (iL ds)) a1 = some (.lst (iL cs)) := by rw [put_ne n31.symm, put_ne n2.symm, put_self]
      have p2 : put (put (put h a1 (.lst (iL cs))) a2 (.lst (iL rs))) a3 (.lst (iL ds)) a2 = some (.lst (iL rs)) := by rw [put_ne n32.symm, put_self]
      have dl : ds.length < 16777216 := by omega
      have dl' : (iL ds).length < 16777216 := by rw [iL_len]; exact dl
      have fin : ∀ (y : Int) (rs2 : List Int) (o5 o6 o7 : Option D), rs2.length = cs.length → N2 [some (.fl (iL ns)), some (.int m), some (.loc a1), some (.loc a2), some (.loc a3), o5, o6, o7, none, none] (put (put (put h a1 (.lst (iL cs))) a2 (.lst (iL rs2))) a3 (.lst (iL ds ++ [.int y]))) := fun y rs2 o5 o6 o7 hl => by
        rw [iL_one]
        exact hN2 _ _ ⟨ds ++ [y], o5, o6, o7, rs2, rfl, hl, by simp; omega, rfl⟩
      have sw : ∀ o2 o3 : AO, put (put (put (put h a1 (.lst (iL cs))) a2 (.lst (iL rs))) a3 o3) a2 o2 = put (put (put h a1 (.lst (iL cs))) a2 o2) a3 o3 := fun o2 o3 => by
        funext b
        by_cases b2 : b = a2
        · subst b2
          rw [put_self, put_ne n32.symm, put_self]
        · rw [put_ne b2]
          by_cases b3 : b = a3
          · subst b3; rw [put_self, put_self]
          · rw [put_ne b3, put_ne b3, put_ne b2, put_ne b2]
      have u1 : -18446744073709551616 < (v * 48271 + (i : Int) * 69621 + 11) % 2147483647 := Int.lt_of_lt_of_le (by decide) (Int.emod_nonneg _ (by decide))
      have u2 : (v * 48271 + (i : Int) * 69621 + 11) % 2147483647 < 18446744073709551616 := Int.lt_trans (Int.emod_lt_of_pos _ (by decide)) (by decide)
      have ij : ixN cs.length ((i : Int) % (cs.length : Int)) = some j := by rw [hj]; simp [ixN]; omega
      have ij' : ixN rs.length ((i : Int) % (cs.length : Int)) = some j := by rw [hr]; exact ij
      simp [b1D, sqV, lsV, ob, p1, p2, iL_len, dl, u1, u2, ij, ij', iL_set, sw, binD, intOp, c0, ixD, hv, hw, cmpD, tru, mtChk, ltV, mtD, mLs, dl', put_ne n32.symm, put_ne n32, setD, addD, mulD, mulOk, iL_len]
      split
      · split
        · exact fin _ _ _ _ _ (by simpa using hr)
        · exact fin _ _ _ _ _ hr
      · exact fin _ _ _ _ _ hr
    · rintro _ _ ⟨ds, o5, o6, o7, rs, rfl, hr, hd, rfl⟩
      exact hN _ _ ⟨ds, o5, o6, o7, rs, rfl, hr, by simpa using hd, rfl⟩
  rintro _ _ ⟨ds, o5, o6, o7, rs, rfl, hr, hd, rfl⟩
  simp [mtChk, ltV, ob, mtD, mLs]
  have hs : Sub (put h a3 (.lst (iL ds.reverse))) (put (put (put h a1 (.lst (iL cs))) a2 (.lst (iL rs))) a3 (.lst (iL ds.reverse))) := fun b o e => by
    by_cases b3 : b = a3
    · subst b3
      rw [put_self] at e ⊢
      exact e
    · rw [put_ne b3] at e ⊢
      have b1 : b ≠ a1 := fun z => by subst z; rw [n1] at e; cases e
      by_cases b2 : b = a2
      · subst b2; rw [n20] at e; cases e
      · rw [put_ne b2, put_ne b1]; exact e
  have e : (iL ds).reverse = iL ds.reverse := by simp [iL]
  rw [e]
  exact someQ_s hs (q a3 _ n3)
theorem take_snoc {α : Type} {l : List α} {i : Nat} {x : α} (h : l[i]? = some x) : l.take (i + 1) = l.take i ++ [x] := by
  rw [List.take_add_one, h]; rfl
end Py
namespace Py
open PySem (Str)
theorem iL_pu (xs : List Int) : (iL xs).all (pu 40) = true := by
  rw [List.all_eq_true]
  intro d hd
  simp only [iL, List.mem_map] at hd
  obtain ⟨i, _, rfl⟩ := hd
  rfl
theorem iL_eqvs : ∀ xs ys : List Int, eqvs (iL xs) (iL ys) = decide (xs = ys)
  | [], [] => rfl
  | [], _ :: _ => rfl
  | _ :: _, [] => rfl
  | x :: xs, y :: ys => by
    show (x == y && eqvs (iL xs) (iL ys)) = _
    rw [iL_eqvs xs ys]
    by_cases h : x = y <;> by_cases h2 : xs = ys <;> simp [h, h2]
theorem eqD_iL (xs ys : List Int) (h : AH) : eqD (.v (.tup (iL xs))) (.v (.tup (iL ys))) h = some (decide (xs = ys)) := by
  unfold eqD
  simp only [iL_pu, iL_eqvs, Bool.and_self, if_true]
theorem iL_mem {xs : List Int} {x : D} (h : x ∈ iL xs) : ∃ i ∈ xs, x = .int i := by
  simp only [iL, List.mem_map] at h
  obtain ⟨i, h1, h2⟩ := h
  exact ⟨i, h1, h2.symm⟩
theorem blsL_map (bs : List Bool) : blsL (bs.map D.bl) = some bs := by
  induction bs with
  | nil => rfl
  | cons b r ih => show (blsL (r.map D.bl)).map (b :: ·) = _; rw [ih]; rfl
theorem sm_iL {k : Nat} {xs : List Int} (h : xs.length ≤ 16777216) : sm (k + 1) (.tup (iL xs)) = true := by
  simp only [sm, iL_len, h, decide_true, Bool.true_and, List.all_eq_true]
  intro d hd
  obtain ⟨i, _, rfl⟩ := iL_mem hd
  cases k <;> rfl
theorem intsL_iL : ∀ xs : List Int, intsL (iL xs) = some xs
  | [] => rfl
  | x :: xs => by show (intsL (iL xs)).map (x :: ·) = _; rw [intsL_iL xs]; rfl
theorem n_max {a : Nat} {xs : List Int} {m : Int} {h : AH} (e : h a = some (.lst (iL xs))) (hm : maxI xs = some m) : b1D .max (.v (.loc a)) h = some (.v (.int m)) := by
  simp [b1D, e, intsL_iL, hm]
theorem at_last (xs : List D) (x : D) : atI (xs ++ [x]) (-1) = some x := by
  unfold atI ixN
  have h1 : -(((xs ++ [x]).length : Nat) : Int) ≤ -1 := by simp; omega
  have h2 : (-1 + (((xs ++ [x]).length : Nat) : Int)).toNat = xs.length := by simp; omega
  rw [if_neg (by decide), if_pos h1]
  simp only [Option.bind_some, h2]
  simp
theorem rept_one (d : D) (k : Nat) : rept [d] (k : Int) = List.replicate k d := by
  unfold rept
  rw [Int.toNat_natCast]
  induction k with
  | zero => rfl
  | succ k ih => rw [List.replicate_succ, List.flatten_cons, ih]; rfl
def zeros (n : Nat) : List Int := List.replicate n 0
theorem iL_zeros (n : Nat) : List.replicate n (D.int 0) = iL (zeros n) := by simp [iL, zeros]
theorem cut_take {xs : List D} {k : Nat} (hk : k ≤ xs.length) : cut xs none (some (k : Int)) = xs.take k := by
  show (xs.drop 0).take ((if (k : Int) < 0 then ((k : Int) + (xs.length : Int)).toNat else min (k : Int).toNat xs.length) - 0) = _
  rw [if_neg (by omega), Int.toNat_natCast, Nat.min_eq_left hk, List.drop_zero, Nat.sub_zero]
theorem cut_iL (xs : List Int) (lo hi : Option Int) : cut (iL xs) lo hi = iL (cut xs lo hi) := by
  unfold cut
  rw [iL_len]
  simp [iL, List.map_drop, List.map_take]
theorem cut_len {α : Type} (xs : List α) (lo hi : Option Int) : (cut xs lo hi).length ≤ xs.length := by
  unfold cut
  simp
  omega
theorem cut_drop {α : Type} {xs : List α} {k : Nat} (hk : k ≤ xs.length) : cut xs (some (k : Int)) none = xs.drop k := by
  show (xs.drop (if (k : Int) < 0 then ((k : Int) + (xs.length : Int)).toNat else min (k : Int).toNat xs.length)).take (xs.length - (if (k : Int) < 0 then ((k : Int) + (xs.length : Int)).toNat else min (k : Int).toNat xs.length)) = _
  rw [if_neg (by omega), Int.toNat_natCast, Nat.min_eq_left hk]
  exact List.take_of_length_le
      (by simp)
/-- the draws stand at g, all else that was known is kept -/
structure Kd (h0 : AH) (g : Nat) (h : AH) : Prop where
  dr : ∃ ds : List Int, h g = some (.lst (iL ds))
  kp : ∀ b o, b ≠ g → h0 b = some o → h b = some o
section
variable {h0 h : AH} {g f : Nat}
theorem Kd.refl {ds : List Int} (e : h g = some (.lst (iL ds))) : Kd h g h := ⟨⟨ds, e⟩, fun _ _ _ e => e⟩
theorem Kd.take (k : Kd h0 g h) (ds : List Int) : Kd h0 g (put h g (.lst (iL ds))) := ⟨⟨ds, put_self⟩, fun b o n e => by rw [put_ne n]; exact k.kp b o n e⟩
theorem Kd.own (k : Kd h0 g h) (n : h0 f = none) (ne : f ≠ g) (o : AO) : Kd h0 g (put h f o) := by
  obtain ⟨ds, e⟩ := k.dr
  refine ⟨⟨ds, by rw [put_ne ne.symm]; exact e⟩, fun b u nb eb => ?_⟩
  rw [put_ne (fun z => by rw [z, n] at eb; cases eb)]
  exact k.kp b u nb eb
theorem Kd.free (k : Kd h0 g h) (hg : h0 g ≠ none) (n : h f = none) : h0 f = none ∧ f ≠ g := by
  obtain ⟨ds, e⟩ := k.dr
  have ne : f ≠ g := fun z => by rw [z, e] at n; cases n
  refine ⟨?_, ne⟩
  cases q : h0 f with
  | none => rfl
  | some o => have := k.kp f o ne q; rw [n] at this; cases this
theorem Kd.exit (k : Kd h0 g h) : ∃ ds : List Int, Sub (put h0 g (.lst (iL ds))) h := by
  obtain ⟨ds, e⟩ := k.dr
  refine ⟨ds, fun b o eb => ?_⟩
  by_cases hb : b = g
  · subst hb; rw [put_self] at eb; rw [e]; exact eb
  · rw [put_ne hb] at eb; exact k.kp b o hb eb
end
/-- lists of our own -/
def Rw (h0 : AH) (g : Nat) (h : AH) (rs : List Nat) : Prop := ∀ x ∈ rs, h0 x = none ∧ x ≠ g ∧ ∃ row : List Int, row.length ≤ 100000 ∧ h x = some (.lst (iL row))
section
variable {h0 h : AH} {g y : Nat} {rs : List Nat}
theorem Rw.new (r : Rw h0 g h rs) (n : h y = none) (o : AO) : Rw h0 g (put h y o) rs := fun x hx => by
  obtain ⟨a, b, row, l, e⟩ := r x hx
  exact ⟨a, b, row, l, by rw [put_ne (fun z => by rw [z, n] at e; cases e)]; exact e⟩
theorem Rw.add (r : Rw h0 g h rs) (n : h y = none) (n0 : h0 y = none) (ne : y ≠ g) {row : List Int} (l : row.length ≤ 100000) : Rw h0 g (put h y (.lst (iL row))) (rs ++ [y]) := fun x hx => by
  rcases List.mem_append.mp hx
      with hx | hx
  · exact r.new n _ x hx
  · rw [List.mem_singleton.mp hx]; exact ⟨n0, ne, row, l, put_self⟩
theorem Rw.take (r : Rw h0 g h rs) (o : AO) : Rw h0 g (put h g o) rs := fun x hx => by
  obtain ⟨a, b, row, l, e⟩ := r x hx
  exact ⟨a, b, row, l, by rw [put_ne b]; exact e⟩
end
/-! ### numbers that count -/
def nL (xs : List Nat) : List D := xs.map fun (x : Nat) => .int (x : Int)
def gn (xs : List Nat) (i : Nat) : Nat := xs[i]?.getD 0
@[simp] theorem nL_len {xs : List Nat} : (nL xs).length = xs.length := by simp [nL]
theorem nL_at {xs : List Nat} {i : Nat} (h : i < xs.length) : atI (nL xs) (i : Int) = some (.int (gn xs i)) := atN (by simp [nL, gn, h])
theorem nL_mem {xs : List Nat} {d : D} (h : d ∈ nL xs) : ∃ x ∈ xs, d = .int x := by
  simp only [nL, List.mem_map] at h
  obtain ⟨x, h1, h2⟩ := h
  exact ⟨x, h1, h2.symm⟩
theorem nL_iL (os : List Nat) : iL (os.map fun (w : Nat) => (w : Int)) = nL os := by simp [iL, nL]
theorem gn_left {W V : List Nat} {i : Nat} (h : i < W.length) : gn (W ++ V) i = gn W i := by simp [gn, List.getElem?_append_left h]
theorem gn_last {W : List Nat} {x : Nat} : gn (W ++ [x]) W.length = x := by simp [gn]
theorem put2 {h : AH} {w a : Nat} {x y x' y' : AO} (ne : w ≠ a) : put (put (put (put h w x) a y) w x') a y' = put (put h w x') a y' := by
  funext b
  by_cases h1 : b = a
  · subst h1; simp
  · by_cases h2 : b = w
    · subst h2; simp [put_ne ne]
    · simp [put_ne h1, put_ne h2]
theorem put3 {h : AH} {w a : Nat} {x y x' : AO} (ne : w ≠ a) : put (put (put h w x) a y) w x' = put (put h w x') a y := by
  funext b
  by_cases h1 : b = a
  · subst h1; simp [put_ne ne.symm]
  · by_cases h2 : b = w
    · subst h2; simp [put_ne ne]
    · simp [put_ne h1, put_ne h2]
theorem nL_snoc {xs : List Nat} {y : Nat} : nL xs ++ [.int (y : Int)] = nL (xs ++ [y]) := by simp [nL]
theorem rngL_mem {lo : Int} {n : Nat} {x : D} (h : x ∈ rngL lo n) : ∃ i : Nat, i < n ∧ x = .int (lo + (i : Int)) := by
  obtain ⟨i, hi⟩ := List.getElem?_of_mem h
  obtain ⟨h1, h2⟩ := rngL_at hi
  exact ⟨i, h1, h2⟩
theorem gn_cons2 {bs : List Nat} {x : Nat} {a b : Nat} : gn (a :: b :: bs) (x + 2) = gn bs x := by simp [gn]
def rgn (a n : Nat) : List Nat := (List.range n).map fun i => a + i
theorem rgn_len {a n : Nat} : (rgn a n).length = n := by simp [rgn]
theorem gn_rgn {a n i : Nat} (h : i < n) : gn (rgn a n) i = a + i := by simp [gn, rgn, h]
theorem rngL_nL {a n : Nat} : rngL (a : Int) n = nL (rgn a n) := by simp [rngL, nL, rgn, Function.comp_def]
theorem Sub.free {h h' : AH} {a : Nat} (s : Sub h h') (n : h' a = none) : h a = none := by
  cases e : h a with
  | none => rfl
  | some o => rw [s a o e] at n; cases n
theorem Sub.new {h h' : AH} {a : Nat} {o : AO} (s : Sub h h') (n : h' a = none) : Sub h (Py.put h' a o) := s.put (s.free n)
theorem gn_get {xs : List Nat} {k : Nat} (h : k < xs.length) : gn xs k = xs[k] := by simp [gn, h]
def InR (f : Int) (w : Int) : Prop := 0 ≤ w ∧ w < f
instance {f w : Int} : Decidable (InR f w) := inferInstanceAs (Decidable (_ ∧ _))
theorem Sub.trans {h1 h2 h3 : AH} (s : Sub h1 h2) (t : Sub h2 h3) : Sub h1 h3 := fun a o e => t a o (s a o e)
end Py
namespace Py
open PySem (Str)
/-! ### two clauses -/
def Comp2G (cal : Cal) (G : Str → Option D) (t : Tg) (own : List Nat) (t1 : Tg) (it1 : It) (own1 : List Nat) (e : Ex) (env : Env) (s : Src) (h : AH) (Q : List D → AH → Prop) : Prop := wComp2 s.chk (stepC2 (wTg t) env own (wTg t1) (wI cal G it1) own1 (wX cal G e)) s.items [] h Q
@[simp] theorem v_comp2 {cal : Cal} {G : Str → Option D} {t : Tg} {it : It} {own : List Nat} {t1 : Tg} {it1 : It} {own1 : List Nat} {e : Ex} {env : Env} {h : AH} {Q : Rv → AH → Prop} {X : Xc} : wX cal G (.comp2 t it own t1 it1 own1 e) env h Q X =
  wI cal G it env h (fun s h1 => Comp2G cal G t own t1 it1 own1 e env s h1 fun acc h2 => Q (.o (.lst acc)) h2) X := (rfl)
/-- what is wanted of the inner clause at x: it is walked over ys, and each of them gives g -/
structure In2 (P : Prog) (n : Nat) (t1 : Tg) (own1 : List Nat) (e : Ex) (h0 : AH) (env2 : Env) (r : List D) (s1 : Src) (h4 : AH) : Prop where
  sb : Sub h0 h4
  ck : s1.chk h4
  ex : ∃ g : D → D, s1.items.map g = r ∧ ∀ y ∈ s1.items, ∀ k : D → AH → Prop, k (g y) h4 → wTg t1 y (wipe env2 own1) h4 fun e2 h5 => wX (wC P n) P.gl e e2 h5 (fun r h6 => rv r h6 k) noX
theorem comp2_s {P : Prog} {n : Nat} {t : Tg} {own : List Nat} {t1 : Tg} {it1 : It} {own1 : List Nat} {e : Ex} {env : Env} {s : Src} {h0 h : AH} {Q : List D → AH → Prop} (f : D → List D) (sb : Sub h0 h) (hc : ∀ h', Sub h0 h' → s.chk h') (hl : ((s.items.map f).flatten).length ≤ 16777216)
    (hs : ∀ x ∈ s.items, ∀ h', Sub h0 h' → wTg t x (wipe env own) h' fun env2 h3 => wI (wC P n) P.gl it1 env2 h3 (fun s1 h4 => In2 P n t1 own1 e h0 env2 (f x) s1 h4) noX) (hq : ∀ h', Sub h0 h' → Q (s.items.map f).flatten h') : Comp2G (wC P n) P.gl t own t1 it1 own1 e env s h Q := by
  have key : ∀ (xs : List D) (acc : List D) (h : AH), Sub h0 h → (∀ x ∈ xs, x ∈ s.items) → acc.length + ((xs.map f).flatten).length ≤ 16777216 → (∀ h', Sub h0 h' → Q (acc ++ (xs.map f).flatten) h') → wComp2 s.chk (stepC2 (wTg t) env own (wTg t1) (wI (wC P n) P.gl it1) own1 (wX (wC P n) P.gl e)) xs acc h Q := by
    intro xs
    induction xs with
    | nil => exact fun acc h sb _ _ q => ⟨hc h sb, by simpa using q h sb⟩
    | cons x r ih =>
      intro acc h sb hm hl q
      refine ⟨hc h sb, ?_⟩
      refine mTg t _ _ _ _ _ (fun env2 h3 q2 => mI (wC_mono P n) it1 _ _ _ _ _ _ (fun s1 h4 ⟨sb4, ck, g, e1, hg⟩ => ?_) (fun _ _ z => z) q2) (hs x (hm x (by simp)) h sb)
      simp only [List.map_cons, List.flatten_cons, List.length_append] at hl
      refine wComp_map (f := fun y => some (g y)) ck (fun y hy k hk => hg y hy _ hk) ?_ ?_
      · have := congrArg List.length e1
        rw [List.length_map] at this
        omega
      · rw [List.filterMap_eq_map', e1]
        refine ih _ _ sb4 (fun y hy => hm y (List.mem_cons_of_mem _ hy)) (by rw [List.length_append]; omega) fun h' s' => ?_
        have := q h' s'
        simpa using this
  exact key s.items [] h sb (fun _ z => z) (by simpa using hl) (by simpa using hq)
/-! ### is it among numbers -/
theorem inD_iL (i : Int) (xs : List Int) (h : AH) : inD (.v (.int i)) (.v (.tup (iL xs))) h = some (decide (i ∈ xs)) := by
  have e : (iL xs).any (fun z => eqv z (.int i)) = decide (i ∈ xs) := by
    induction xs with
    | nil => rfl
    | cons x r ih =>
      show (eqv (.int x) (.int i) || (iL r).any fun z => eqv z (.int i)) = _
      rw [ih]
      show (x == i || _) = _
      by_cases z : x = i
      · subst z; simp
      · have z2 : ¬ i = x := fun w => z w.symm
        simp [z, z2]
  unfold inD
  simp only [s_tupV]
  rw [iL_pu, e]
  rfl
theorem inD_iLl {a : Nat} {i : Int} {xs : List Int} {h : AH} (ha : h a = some (.lst (iL xs))) : inD (.v (.int i)) (.v (.loc a)) h = some (decide (i ∈ xs)) := by
  have := inD_iL i xs h
  unfold inD at this ⊢
  simp only [s_locV ha]
  exact this
theorem k_in (i : Int) (xs : List Int) (h : AH) : cmpD .inn (.v (.int i)) (.v (.tup (iL xs))) h = some (decide (i ∈ xs)) := inD_iL i xs h
theorem k_inl {a : Nat} {i : Int} {xs : List Int} {h : AH} (ha : h a = some (.lst (iL xs))) : cmpD .inn (.v (.int i)) (.v (.loc a)) h = some (decide (i ∈ xs)) := inD_iLl ha
theorem k_nin (i : Int) (xs : List Int) (h : AH) : cmpD .nin (.v (.int i)) (.v (.tup (iL xs))) h = some (!decide (i ∈ xs)) := by
  show (inD _ _ h).map _ = _
  rw [inD_iL]; rfl
theorem k_ninl {a : Nat} {i : Int} {xs : List Int} {h : AH} (ha : h a = some (.lst (iL xs))) : cmpD .nin (.v (.int i)) (.v (.loc a)) h = some (!decide (i ∈ xs)) := by
  show (inD _ _ h).map _ = _
  rw [inD_iLl ha]; rfl
theorem nL_in (i : Nat) (xs : List Nat) : ((i : Int) ∈ xs.map fun (x : Nat) => (x : Int)) ↔ i ∈ xs := by
  rw [List.mem_map]
  constructor
  · rintro ⟨a, ha, e⟩
    have : a = i := by omega
    exact this ▸ ha
  · exact fun h => ⟨i, h, rfl⟩
theorem k_inN (i : Nat) (xs : List Nat) (h : AH) : cmpD .inn (.v (.int i)) (.v (.tup (nL xs))) h = some (decide (i ∈ xs)) := by
  rw [← nL_iL, k_in]
  simp only [nL_in]
theorem k_inNl {a : Nat} {i : Nat} {xs : List Nat} {h : AH} (ha : h a = some (.lst (nL xs))) : cmpD .inn (.v (.int i)) (.v (.loc a)) h = some (decide (i ∈ xs)) := by
  rw [← nL_iL] at ha
  rw [k_inl ha]
  simp only [nL_in]
theorem k_ninN (i : Nat) (xs : List Nat) (h : AH) : cmpD .nin (.v (.int i)) (.v (.tup (nL xs))) h = some (!decide (i ∈ xs)) := by
  rw [← nL_iL, k_nin]
  simp only [nL_in]
theorem k_ninNl {a : Nat} {i : Nat} {xs : List Nat} {h : AH} (ha : h a = some (.lst (nL xs))) : cmpD .nin (.v (.int i)) (.v (.loc a)) h = some (!decide (i ∈ xs)) := by
  rw [← nL_iL] at ha
  rw [k_ninl ha]
  simp only [nL_in]
theorem n_sortl {a : Nat} {xs : List Int} {h : AH} (ha : h a = some (.lst (iL xs))) : b1D .sorted (.v (.loc a)) h = some (.o (.lst (iL (sortI xs)))) := by
  simp only [b1D, l_loc ha, intsL_iL]
  rfl
theorem sm_nL {k : Nat} {xs : List Nat} (h : xs.length ≤ 16777216) : sm (k + 1) (.tup (nL xs)) = true := by
  rw [← nL_iL]
  exact sm_iL (by simpa using h)
theorem insI_mem {x y : Int} : ∀ {xs : List Int}, y ∈ insI x xs ↔ y = x ∨ y ∈ xs
  | [] => by simp [insI]
  | z :: r => by
    unfold insI
    split
    · simp
    · simp [insI_mem (xs := r)]
      exact ⟨fun h => by rcases h with h | h | h <;> simp [h], fun h => by rcases h with h | h | h <;> simp [h]⟩
theorem sortI_mem {y : Int} : ∀ {xs : List Int}, y ∈ sortI xs ↔ y ∈ xs
  | [] => by simp [sortI]
  | x :: r => by simp [sortI, insI_mem, sortI_mem (xs := r)]
theorem insI_len {x : Int} : ∀ {xs : List Int}, (insI x xs).length = xs.length + 1
  | [] => rfl
  | z :: r => by
    unfold insI
    split
    · rfl
    · simp [insI_len (xs := r)]
theorem sortI_len : ∀ {xs : List Int}, (sortI xs).length = xs.length
  | [] => rfl
  | x :: r => by simp [sortI, insI_len, sortI_len (xs := r)]
end Py
namespace Py
open PySem (Str)
/-! ### slices from behind -/
theorem fm_congr {α β : Type} {f g : α → Option β} : ∀ {xs : List α}, (∀ x ∈ xs, f x = g x) → xs.filterMap f = xs.filterMap g
  | [], _ => rfl
  | x :: xs, h => by
    rw [List.filterMap_cons, List.filterMap_cons, h x (by simp), fm_congr (xs := xs) fun y hy => h y (List.mem_cons_of_mem _ hy)]
theorem pickN {α : Type} (xs : List α) : (List.range xs.length).filterMap (fun k => xs[xs.length - 1 - k]?) = xs.reverse := by
  have e : (List.range xs.length).filterMap (fun k => xs[xs.length - 1 - k]?) = (List.range xs.length).filterMap (fun k => xs.reverse[k]?) := by
    apply fm_congr
    intro k hk
    rw [List.getElem?_reverse (by simpa using hk)]
  rw [e]
  have g : ∀ ys : List α, (List.range ys.length).filterMap (fun k => ys[k]?) = ys := by
    intro ys
    induction ys with
    | nil => rfl
    | cons y ys ih =>
      rw [List.length_cons, List.range_succ_eq_map, List.filterMap_cons]
      simp only [List.getElem?_cons_zero, List.filterMap_map, Function.comp_def, List.getElem?_cons_succ]
      rw [ih]
  have := g xs.reverse
  rw [List.length_reverse] at this
  exact this
theorem pkT_rev {α : Type} (xs : List α) : pkT (-1) none none xs = xs.reverse := by
  rw [← pickN xs]
  unfold pkT
  rw [List.filterMap_map]
  have e : PySem.Builtin.Slice.slicePlaces (PySem.Builtin.Slice.sliceAdjust none none (-1) xs.length).1 (PySem.Builtin.Slice.sliceAdjust none none (-1) xs.length).2 (-1) = xs.length := by
    show (if (-1 : Int) > 0 then _ else if ((xs.length : Int) - 1 > -1) then ((xs.length : Int) - 1 - -1 - 1) / (- -1) + 1 else 0).toNat = _
    rw [if_neg (by decide)]
    split <;> simp <;> omega
  rw [e]
  apply fm_congr
  intro k hk
  rw [List.mem_range] at hk
  show xs[((xs.length : Int) - 1 + k * (-1)).toNat]? = xs[xs.length - 1 - k]?
  congr 1
  omega
theorem pkL_rev {α : Type} (xs : List α) : pkL (-1) none none xs = xs.reverse := by
  rw [← pickN xs]
  unfold pkL
  show (PySem.sliceRange ((xs.length : Int) - 1) (-1) (-1)).filterMap _ = _
  have e : PySem.sliceRange ((xs.length : Int) - 1) (-1) (-1) = (List.range xs.length).map fun (k : Nat) => xs.length - 1 - k := by
    unfold PySem.sliceRange
    simp only
    have e1 : ((if (-1 : Int) > 0 then (if (xs.length : Int) - 1 < -1 then (-1 - ((xs.length : Int) - 1) + -1 - 1) / -1 else 0) else if (xs.length : Int) - 1 > -1 then ((xs.length : Int) - 1 - -1 - -1 - 1) / - -1 else 0)).toNat = xs.length := by
      rw [if_neg (by decide)]
      split <;> simp <;> omega
    rw [e1]
    apply List.map_congr_left
    intro k hk
    rw [List.mem_range] at hk
    omega
  rw [e, List.filterMap_map]
  rfl
section
variable {cal : Cal} {G : Str → Option D} {env : Env} {h : AH} {X : Xc} {Q : Rv → AH → Prop} {xs : List D} {a : Nat}
@[simp] theorem v_sls {a : Ex} {lo hi : Oe} {st : Int} : wX cal G (.sls a lo hi st) env h Q X = wX cal G a env h (fun x h1 => wO cal G lo env h1 (fun l h2 => wO cal G hi env h2 (fun u h3 => gd (slsD x l u st h3) fun r => Q r h3) X) X) X := rfl
@[simp] theorem sls_t (hl : xs.length ≤ 16777216) : slsD (.v (.tup xs)) none none (-1) h = some (.v (.tup xs.reverse)) := by simp [slsD, pkT_rev, hl]
@[simp] theorem sls_o (hl : xs.length ≤ 16777216) : slsD (.o (.lst xs)) none none (-1) h = some (.o (.lst xs.reverse)) := by simp [slsD, pkL_rev, hl]
@[simp] theorem sls_l (e : h a = some (.lst xs)) (hl : xs.length ≤ 16777216) : slsD (.v (.loc a)) none none (-1) h = some (.o (.lst xs.reverse)) := by simp [slsD, pkL_rev, hl, e]
end
end Py
namespace Py
open PySem (Str)
/-! ### draws of the laws about programs -/
namespace D3
def c__law_draws : Fn := ⟨2, 10, (.cons (.asg (.nm 2) (.lst (.cons (.lit (.int 0)) .nil))) (.cons (.for_ (.nm 3) (.seq (.var 0)) (.cons (.asg (.nm 4) (.b1 .abs (.var 3))) (.cons (.ifs (.cmp .lt (.var 4) (.bin .pow (.lit (.int 10)) (.lit (.int 18)))) (.cons (.expr (.mt .append (.var 2) (.cons (.var 4) .nil))) .nil) (.cons (.for_ (.nm 5) (.rng1 (.lit (.int 40))) (.cons (.ifs (.cmp .gt (.var 4) (.lit (.int 0))) (.cons (.expr (.mt .append (.var 2) (.cons (.bin .add (.b1 .int (.bin .mod (.var 4) (.bin .pow (.lit (.int 10)) (.lit (.int 9))))) (.bin .mul (.lit (.int 17)) (.var 5))) .nil))) (.cons (.asg (.nm 4) (.bin .fdiv (.var 4) (.bin .pow (.lit (.int 10)) (.lit (.int 9))))) .nil)) .nil) .nil)) .nil)) .nil))) (.cons (.asg (.nm 6) (.lst .nil)) (.cons (.for_ (.nm 5) (.rng1 (.var 1)) (.cons (.asg (.nm 7) (.b1 .int (.bin .mod (.bin .mul (.var 5) (.lit (.int 7))) (.b1 .len (.var 2))))) (.cons (.asg (.nm 8) (.bin .mod (.bin .add (.bin .add (.bin .add (.bin .mul (.ix (.var 2) (.var 7)) (.lit (.int 48271))) (.bin .mul (.var 5) (.lit (.int 69621)))) (.lit (.int 11))) (.b1 .len (.var 2))) (.lit (.int 2147483647)))) (.cons (.asg (.nm 9) (.bin .mod (.bin .add (.bin .add (.bin .add (.bin .mul (.var 8) (.var 8)) (.bin .mul (.ix (.var 2) (.b1 .int (.bin .mod (.bin .add (.var 5) (.lit (.int 1))) (.b1 .len (.var 2))))) (.lit (.int 613)))) (.bin .mul (.lit (.int 3)) (.var 8))) (.var 5)) (.lit (.int 1000003)))) (.cons (.expr (.mt .append (.var 6) (.cons (.var 9) .nil))) .nil))))) (.cons (.expr (.mt .reverse (.var 6) .nil)) (.cons (.ret (.var 6)) .nil))))))⟩
def c__law_take : Fn := ⟨2, 2, (.cons (.ifs (.cmp .eq (.b1 .len (.var 0)) (.lit (.int 0))) (.cons (.ret (.lit (.int 0))) .nil) .nil) (.cons (.ret (.b1 .int (.bin .mod (.mt .pop (.var 0) .nil) (.var 1)))) .nil))⟩
def c__law_half : Fn := ⟨1, 3, (.cons (.asg (.nm 1) (.lit (.int 1))) (.cons (.for_ (.nm 2) (.rng1 (.bin .sub (.var 0) (.lit (.int 1)))) (.cons (.asg (.nm 1) (.bin .mul (.var 1) (.lit (.int 2)))) .nil)) (.cons (.ret (.var 1)) .nil)))⟩
section
variable {P : Prog} {n : Nat} {h : AH} {Q : D → AH → Prop} {X : Xc}
theorem take_i (hf : P.fn "_law_take" = some c__law_take) {a : Nat} {ds : List Int} {m : Int} (hm : 0 < m) (e : h a = some (.lst (iL ds)))
    (q : ∀ (v : Nat) (ds' : List Int), (v : Int) < m → Q (.int v) (put h a (.lst (iL ds')))) : wC P (n + 1) "_law_take" [.loc a, .int m] h Q X := by
  refine wC_i hf rfl ?_
  rcases List.eq_nil_or_concat ds with rfl | ⟨l, x, rfl⟩
  · simp [c__law_take, b1D, sqV, lsV, ob, e, iL, cmpD, eqD, tru]
    refine someQ_i ?_
    have := q 0 [] hm
    have e2 : put h a (.lst (iL [])) = h := by
      funext b
      by_cases hb : b = a
      · subst hb; rw [put_self, e]
      · exact put_ne hb
    rw [e2] at this
    exact this
  · have e' : h a = some (.lst (iL l ++ [.int x])) := by rw [e]; simp [iL]
    simp [c__law_take, b1D, sqV, lsV, ob, e', cmpD, eqD, tru]
    have hne : ¬ ((l.length : Int) + 1 = 0) := by omega
    simp [hne, iL, mtChk, ltV, ob, e', mtD, mLs, binD, intOp, hm]
    have h0 := Int.emod_nonneg x (show m ≠ 0 by omega)
    obtain ⟨v, hv⟩ := Int.eq_ofNat_of_zero_le h0
    rw [hv]
    exact someQ_i (q v l (by rw [← hv]; exact Int.emod_lt_of_pos _ hm))
theorem half_i (hf : P.fn "_law_half" = some c__law_half) {w : Nat} (h1 : 1 ≤ w) (hw : w ≤ 1000000) (q : Q (.int ((2 ^ (w - 1) : Nat) : Int)) h) : wC P (n + 1) "_law_half" [.int w] h Q X := by
  have e : (w : Int) - 1 = ((w - 1 : Nat) : Int) := by omega
  have s1 : small62 ((w - 1 : Nat) : Int) = true := by simp [small62]; omega
  have m2 : ml 2 := ml_of (by decide) (by decide)
  refine wC_i hf rfl ?_
  simp [c__law_half, List.replicate, e, s1]
  refine for_f (fun i env h' => h = h' ∧ ∃ o, env = [some (.int w), some (.int (2 ^ i)), o]) ⟨rfl, none, by simp⟩ ?_ ?_
  · rintro i x env h' N hx ⟨rfl, o, rfl⟩ hN
    simp [m2]
    exact hN _ _ ⟨rfl, _, by rw [Int.pow_succ]⟩
  · rintro env h' ⟨rfl, o, rfl⟩
    simp
    exact someQ_i (by simpa using q)
theorem draws_i (hf : P.fn "_law_draws" = some c__law_draws) {ns : List Int} {m : Nat} (hn : ns.length ≤ 63) (hm2 : m ≤ 10000)
    (q : ∀ (a : Nat) (ds : List Int), h a = none → Q (.loc a) (put h a (.lst (iL ds)))) : wC P (n + 1) "_law_draws" [.fl (iL ns), .int m] h Q X := by
  have s0 : small62 40 = true := by decide
  have s1 : small62 (m : Int) = true := by simp [small62]; omega
  have m17 : ml 17 := ml_of (by decide) (by decide)
  have m7 : ml 7 := ml_of (by decide) (by decide)
  have m4 : ml 48271 := ml_of (by decide) (by decide)
  have m6 : ml 69621 := ml_of (by decide) (by decide)
  have m61 : ml 613 := ml_of (by decide) (by decide)
  have m3 : ml 3 := ml_of (by decide) (by decide)
  refine wC_i hf rfl ?_
  simp only [c__law_draws, v_start, List.replicate, List.length_cons, List.length_nil, List.map_cons, List.map_nil, List.cons_append, List.nil_append]
  simp [-v_rB]
  intro a na
  rw [v_rB]
  simp [-v_rB]
  refine for_f (fun i env h' => ∃ (cs : List Int) (o3 o4 o5 : Option D), 0 < cs.length ∧ cs.length ≤ 1 + i * 40 ∧ h' = put h a (.lst (iL cs)) ∧ env = [some (.fl (iL ns)), some (.int m), some (.loc a), o3, o4, o5, none, none, none, none]) ⟨[0], none, none, none, by simp, by simp, rfl, rfl⟩ ?_ ?_
  · rintro i x env h' N hx ⟨cs, o3, o4, o5, c0, c1, rfl, rfl⟩ hN
    have hi : i < 63 := by
      have := (List.getElem?_eq_some_iff.mp hx).1
      rw [iL_len] at this; omega
    obtain ⟨y, _, rfl⟩ := iL_mem (List.mem_of_getElem? hx)
    have cap : (iL cs).length < 16777216 := by rw [iL_len]; omega
    simp [-v_rB]
    rw [v_rB]
    simp [-v_rB]
    generalize (if y < 0 then -y else y) = r
    by_cases z : r < 1000000000000000000
    · simp [z, cap]
      exact hN _ _ ⟨cs ++ [r], _, _, _, by simp, by simp; omega, by rw [iL_one], rfl⟩
    · simp [z, s0]
      refine for_f (fun j env h' => ∃ (cs2 : List Int) (o5 : Option D) (r : Int), 0 < cs2.length ∧ cs2.length ≤ cs.length + j ∧ h' = put h a (.lst (iL cs2)) ∧ env = [some (.fl (iL ns)), some (.int m), some (.loc a), some (.int y), some (.int r), o5, none, none, none, none]) ⟨cs, _, r, c0, Nat.le_refl _, rfl, rfl⟩ ?_ ?_
      · rintro j x env h' N2 hx ⟨cs2, o5, r, c3, c4, rfl, rfl⟩ hN2
        obtain ⟨hj, rfl⟩ := rngL_at hx
        have hj' : j < 40 := by simpa using hj
        have cap2 : (iL cs2).length < 16777216 := by rw [iL_len]; omega
        by_cases z : 0 < r
        · simp [z, cap2, m17]
          exact hN2 _ _ ⟨cs2 ++ [_], _, _, by simp, by simp; omega, by rw [iL_one], rfl⟩
        · simp [z]
          exact hN2 _ _ ⟨cs2, _, _, c3, by omega, rfl, rfl⟩
      · rintro env h' ⟨cs2, o5, r, c3, c4, rfl, rfl⟩
        have c5 : (rngL 0 (40 : Int).toNat).length = 40 := by rw [rngL_length]; rfl
        simp only [rngL_length] at c4
        refine hN _ _ ⟨cs2, _, _, _, c3, ?_, rfl, rfl⟩
        have : (40 : Int).toNat = 40 := rfl
        omega
  · rintro env h' ⟨cs, o3, o4, o5, c0, c1, rfl, rfl⟩
    rw [iL_len] at c1
    rw [v_nx, v_rB]
    simp [-v_rB]
    intro b nb
    have ba : b ≠ a := fun e => by rw [e, put_self] at nb; cases nb
    rw [put_ne ba] at nb
    rw [v_rB]
    simp [-v_rB, s1]
    refine for_f (fun i env h' => ∃ (ds : List Int) (o5 o7 o8 o9 : Option D), ds.length = i ∧ h' = put (put h a (.lst (iL cs))) b (.lst (iL ds)) ∧ env = [some (.fl (iL ns)), some (.int m), some (.loc a), o3, o4, o5, some (.loc b), o7, o8, o9]) ⟨[], _, none, none, none, rfl, rfl, rfl⟩ ?_ ?_
    · rintro i x env h' N hx ⟨ds, o5, o7, o8, o9, dl, rfl, rfl⟩ hN
      obtain ⟨hi, rfl⟩ := rngL_at hx
      have hc : (0 : Int) < (cs.length : Int) := by omega
      obtain ⟨v, hv⟩ := iL_at (xs := cs) (Int.emod_nonneg ((i : Int) * 7) (by omega)) (Int.emod_lt_of_pos _ hc)
      obtain ⟨u, hu⟩ := iL_at (xs := cs) (Int.emod_nonneg ((i : Int) + 1) (by omega)) (Int.emod_lt_of_pos _ hc)
      have cap : (iL ds).length < 16777216 := by rw [iL_len]; omega
      have hc2 : 0 < cs.length := c0
      simp [-v_rB, put_ne ba.symm, m7, iL_len, hc2]
      rw [v_rB]
      simp [-v_rB, put_ne ba.symm, m4, m6, hv, iL_len]
      generalize hw : (v * 48271 + (i : Int) * 69621 + 11 + (cs.length : Int)) % 2147483647 = w
      have w0 : ml w := by
        rw [← hw]
        exact ml_of (Int.lt_of_lt_of_le (by decide) (Int.emod_nonneg _ (by decide))) (Int.lt_trans (Int.emod_lt_of_pos _ (by decide)) (by decide))
      rw [v_rB]
      simp [-v_rB, put_ne ba.symm, m3, m61, w0, hu, iL_len, hc2]
      rw [v_rB]
      simp [-v_rB, cap]
      exact hN _ _ ⟨ds ++ [_], _, _, _, _, by simp [dl], by rw [iL_one], rfl⟩
    · rintro env h' ⟨ds, o5, o7, o8, o9, dl, rfl, rfl⟩
      simp
      have e : (iL ds).reverse = iL ds.reverse := by simp [iL]
      rw [e]
      have sb : Sub (put h b (.lst (iL ds.reverse))) (put (put h a (.lst (iL cs))) b (.lst (iL ds.reverse))) := by
        intro c o ec
        by_cases hb : c = b
        · subst hb; rw [put_self] at ec ⊢; exact ec
        · rw [put_ne hb] at ec ⊢
          exact (sub_put na) c o ec
      exact someQ_s sb (q b ds.reverse nb)
end
end D3
end Py
namespace Py
open PySem (Str)
namespace Cor
/-! ### names -/
inductive Nm | number | of | paired | first | second | plus | minus | less | same | hear | show | pair | set | goto | halt | test | push | load | keep | jump | unless | call | drop | back
  deriving DecidableEq
def nm : Nm → Str
  | .number => "number" | .of => "of" | .paired => "paired" | .first => "first" | .second => "second" | .plus => "plus" | .minus => "minus" | .less => "less" | .same => "same"
  | .hear => "hear" | .show => "show" | .pair => "pair" | .set => "set" | .goto => "goto" | .halt => "halt" | .test => "test" | .push => "push" | .load => "load" | .keep => "keep" | .jump => "jump"
  | .unless => "unless" | .call => "call" | .drop => "drop" | .back => "back"
/-- a number of its own for each name's text -/
def nmK (s : Str) : Nat := s.cps.toList.foldl (fun a c => a * 1000 + c) 0
def nmI : Nm → Nat := fun a => nmK (nm a)
theorem nm_inj : ∀ a b : Nm, nm a = nm b → a = b := by
  intro a b h
  have e : nmI a = nmI b := by unfold nmI; rw [h]
  cases a <;> cases b <;> first | rfl | exact absurd e (by decide +kernel)
@[simp] theorem nm_eq {a b : Nm} : nm a = nm b ↔ a = b := ⟨nm_inj a b, fun h => h ▸ rfl⟩
theorem nm_pu (a : Nm) : (nm a).cps.all (· < 0x110000) = true := by cases a <;> decide +kernel
@[simp] theorem pu_nm {n : Nat} {a : Nm} : pu n (.str (nm a)) = true := by
  unfold pu
  cases n <;> exact nm_pu a
@[simp] theorem eqv_nm {a b : Nm} : eqv (.str (nm a)) (.str (nm b)) = decide (a = b) := by
  show (nm a == nm b) = _
  by_cases h : a = b
  · subst h; simp
  · have : ¬ nm a = nm b := fun z => h (nm_inj a b z)
    simp [h, this]
@[simp] theorem k_nm {a b : Nm} {h : AH} : cmpD .eq (.v (.str (nm a))) (.v (.str (nm b))) h = some (decide (a = b)) := by
  rw [k_eqs]
  congr 1
  exact decide_eq_decide.mpr nm_eq
theorem k_inn (x y : Rv) (h : AH) : cmpD .inn x y h = inD x y h := rfl
@[simp] theorem in_nm {a : Nm} {ys : List D} {h : AH} (hy : ys.all (pu 40) = true) : cmpD .inn (.v (.str (nm a))) (.v (.tup ys)) h = some (ys.any fun z => eqv z (.str (nm a))) := by
  rw [k_inn]
  unfold inD
  simp [hy]
theorem n1 : Str.ofString "number" = nm .number := rfl
theorem n2 : Str.ofString "of" = nm .of := rfl
theorem n3 : Str.ofString "paired" = nm .paired := rfl
theorem n4 : Str.ofString "first" = nm .first := rfl
theorem n5 : Str.ofString "second" = nm .second := rfl
theorem n6 : Str.ofString "plus" = nm .plus := rfl
theorem n7 : Str.ofString "minus" = nm .minus := rfl
theorem n8 : Str.ofString "less" = nm .less := rfl
theorem n9 : Str.ofString "same" = nm .same := rfl
theorem n10 : Str.ofString "hear" = nm .hear := rfl
theorem n11 : Str.ofString "show" = nm .show := rfl
theorem n12 : Str.ofString "pair" = nm .pair := rfl
theorem n13 : Str.ofString "set" = nm .set := rfl
theorem n14 : Str.ofString "goto" = nm .goto := rfl
theorem n15 : Str.ofString "halt" = nm .halt := rfl
theorem n16 : Str.ofString "test" = nm .test := rfl
theorem n17 : Str.ofString "push" = nm .push := rfl
theorem n18 : Str.ofString "load" = nm .load := rfl
theorem n19 : Str.ofString "keep" = nm .keep := rfl
theorem n20 : Str.ofString "jump" = nm .jump := rfl
theorem n21 : Str.ofString "unless" = nm .unless := rfl
theorem n22 : Str.ofString "call" = nm .call := rfl
theorem n23 : Str.ofString "drop" = nm .drop := rfl
theorem n24 : Str.ofString "back" = nm .back := rfl
/-! ### a walk over few -/
section
variable {P : Prog} {n : Nat} {t : Tg} {b : Sts} {env : Env} {h : AH} {K : Ks} {x : D} {r : List D}
theorem for_nil (q : K.nx env h) : ForG (wC P n) P.gl P.sub t b K env (.fix []) h := ⟨trivial, q⟩
theorem for_cons (q : wTg t x env h fun e3 h3 => wB (wC P n) P.gl P.sub b e3 h3 (K.turn fun e h => ForG (wC P n) P.gl P.sub t b K e (.fix r) h)) : ForG (wC P n) P.gl P.sub t b K env (.fix (x :: r)) h := ⟨trivial, q⟩
end
/-! ### core expressions -/
inductive CE | num (n : Nat) | of (v : Nat) | un (s : Nm) (a : CE) | bi (s : Nm) (a b : CE)
def CE.d : CE → D
  | .num n => .tup [.str (nm .number), .int n]
  | .of v => .tup [.str (nm .of), .int v]
  | .un s a => .tup [.str (nm s), a.d]
  | .bi s a b => .tup [.str (nm s), a.d, b.d]
def CE.dep : CE → Nat
  | .num _ => 1
  | .of _ => 1
  | .un _ a => a.dep + 1
  | .bi _ a b => max a.dep b.dep + 1
structure Un (s : Nm) : Prop where
  h : s = .paired ∨ s = .first ∨ s = .second
structure Bn (s : Nm) : Prop where
  h : s = .plus ∨ s = .minus ∨ s = .less ∨ s = .same
def CE.Ok (half many : Nat) : CE → Prop
  | .num n => n < half
  | .of v => v < many
  | .un s a => Un s ∧ a.Ok half many
  | .bi s a b => Bn s ∧ a.Ok half many ∧ b.Ok half many
abbrev Row := Nm × Option Nat
def rw1 : Row → D
  | (s, none) => .tup [.str (nm s)]
  | (s, some n) => .tup [.str (nm s), .int n]
def rwL (l : List Row) : List D := l.map rw1
@[simp] theorem rwL_len {l : List Row} : (rwL l).length = l.length := by simp [rwL]
theorem rwL_app {l m : List Row} : rwL l ++ rwL m = rwL (l ++ m) := by simp [rwL]
def CE.rows : CE → List Row
  | .num n => [(.push, some n)]
  | .of v => [(.load, some v)]
  | .un s a => a.rows ++ [(s, none)]
  | .bi s a b => a.rows ++ b.rows ++ [(s, none)]
def CE.pl : CE → Nat
  | .num _ => 1
  | .of _ => 1
  | .un _ a => a.pl
  | .bi _ a b => max a.pl (1 + b.pl)
theorem pl_pos : ∀ e : CE, 1 ≤ e.pl
  | .num _ => Nat.le_refl _
  | .of _ => Nat.le_refl _
  | .un _ a => pl_pos a
  | .bi _ a b => Nat.le_trans (pl_pos a) (Nat.le_max_left _ _)
theorem dep_pos : ∀ e : CE, 1 ≤ e.dep
  | .num _ => Nat.le_refl _
  | .of _ => Nat.le_refl _
  | .un _ a => by unfold CE.dep; omega
  | .bi _ a b => by unfold CE.dep; omega
theorem rows_pos : ∀ e : CE, 1 ≤ e.rows.length
  | .num _ => Nat.le_refl _
  | .of _ => Nat.le_refl _
  | .un _ a => by simp [CE.rows]
  | .bi _ a b => by simp [CE.rows]; omega
theorem rows_len : ∀ e : CE, e.rows.length < 2 ^ e.dep
  | .num _ => by simp [CE.rows, CE.dep]
  | .of _ => by simp [CE.rows, CE.dep]
  | .un _ a => by
    have := rows_len a
    simp only [CE.rows, CE.dep, List.length_append, List.length_cons, List.length_nil, Nat.pow_succ]
    omega
  | .bi _ a b => by
    have h1 := rows_len a
    have h2 := rows_len b
    have h3 : 2 ^ a.dep ≤ 2 ^ max a.dep b.dep := Nat.pow_le_pow_right (by decide) (Nat.le_max_left _ _)
    have h4 : 2 ^ b.dep ≤ 2 ^ max a.dep b.dep := Nat.pow_le_pow_right (by decide) (Nat.le_max_right _ _)
    simp only [CE.rows, CE.dep, List.length_append, List.length_cons, List.length_nil, Nat.pow_succ]
    omega
theorem un_ne {s : Nm} (h : Un s) : ¬ s = .number ∧ ¬ s = .of := by
  rcases h.h with rfl | rfl | rfl <;> decide
theorem bn_ne {s : Nm} (h : Bn s) : ¬ s = .number ∧ ¬ s = .of := by
  rcases h.h with rfl | rfl | rfl | rfl <;> decide
theorem cut1 {x : D} {xs : List D} : cut (x :: xs) (some 1) none = xs := by
  have := cut_drop (xs := x :: xs) (k := 1) (by simp)
  exact this
def c_core_expression_rows : Fn := ⟨1, 3, (.cons (.ifs (.cmp .eq (.ix (.var 0) (.lit (.int 0))) (.lit (.str "number"))) (.cons (.ret (.tup (.cons (.tup (.cons (.lit (.str "push")) (.cons (.ix (.var 0) (.lit (.int 1))) .nil))) .nil))) .nil) .nil) (.cons (.ifs (.cmp .eq (.ix (.var 0) (.lit (.int 0))) (.lit (.str "of"))) (.cons (.ret (.tup (.cons (.tup (.cons (.lit (.str "load")) (.cons (.ix (.var 0) (.lit (.int 1))) .nil))) .nil))) .nil) .nil) (.cons (.asg (.nm 1) (.tup .nil)) (.cons (.for_ (.nm 2) (.seq (.sl (.var 0) (.so (.lit (.int 1))) .no)) (.cons (.asg (.nm 1) (.bin .add (.var 1) (.call "core_expression_rows" (.cons (.var 2) .nil)))) .nil)) (.cons (.ret (.bin .add (.var 1) (.tup (.cons (.tup (.cons (.ix (.var 0) (.lit (.int 0))) .nil)) .nil)))) .nil)))))⟩
def c_places_for_expression : Fn := ⟨1, 3, (.cons (.ifs (.cmp .inn (.ix (.var 0) (.lit (.int 0))) (.tup (.cons (.lit (.str "number")) (.cons (.lit (.str "of")) .nil)))) (.cons (.ret (.lit (.int 1))) .nil) .nil) (.cons (.asg (.nm 1) (.lit (.int 0))) (.cons (.for_ (.nm 2) (.rng2 (.lit (.int 1)) (.b1 .len (.var 0))) (.cons (.asg (.nm 1) (.b2 .max (.var 1) (.bin .add (.bin .sub (.var 2) (.lit (.int 1))) (.call "places_for_expression" (.cons (.ix (.var 0) (.var 2)) .nil))))) .nil)) (.cons (.ret (.var 1)) .nil))))⟩
def c_core_command_rows : Fn := ⟨1, 1, (.cons (.ifs (.cmp .eq (.ix (.var 0) (.lit (.int 0))) (.lit (.str "hear"))) (.cons (.ret (.tup (.cons (.tup (.cons (.lit (.str "hear")) .nil)) (.cons (.tup (.cons (.lit (.str "keep")) (.cons (.ix (.var 0) (.lit (.int 1))) .nil))) .nil)))) .nil) .nil) (.cons (.ifs (.cmp .eq (.ix (.var 0) (.lit (.int 0))) (.lit (.str "show"))) (.cons (.ret (.bin .add (.call "core_expression_rows" (.cons (.ix (.var 0) (.lit (.int 1))) .nil)) (.tup (.cons (.tup (.cons (.lit (.str "show")) .nil)) .nil)))) .nil) .nil) (.cons (.ifs (.cmp .eq (.ix (.var 0) (.lit (.int 0))) (.lit (.str "set"))) (.cons (.ret (.bin .add (.call "core_expression_rows" (.cons (.ix (.var 0) (.lit (.int 2))) .nil)) (.tup (.cons (.tup (.cons (.lit (.str "keep")) (.cons (.ix (.var 0) (.lit (.int 1))) .nil))) .nil)))) .nil) .nil) (.cons (.ret (.bin .add (.bin .add (.call "core_expression_rows" (.cons (.ix (.var 0) (.lit (.int 2))) .nil)) (.call "core_expression_rows" (.cons (.ix (.var 0) (.lit (.int 3))) .nil))) (.tup (.cons (.tup (.cons (.lit (.str "pair")) .nil)) (.cons (.tup (.cons (.lit (.str "keep")) (.cons (.ix (.var 0) (.lit (.int 1))) .nil))) .nil))))) .nil))))⟩
def c_places_for_command : Fn := ⟨1, 1, (.cons (.ifs (.cmp .eq (.ix (.var 0) (.lit (.int 0))) (.lit (.str "hear"))) (.cons (.ret (.lit (.int 1))) .nil) .nil) (.cons (.ifs (.cmp .eq (.ix (.var 0) (.lit (.int 0))) (.lit (.str "pair"))) (.cons (.ret (.b2 .max (.call "places_for_expression" (.cons (.ix (.var 0) (.lit (.int 2))) .nil)) (.bin .add (.lit (.int 1)) (.call "places_for_expression" (.cons (.ix (.var 0) (.lit (.int 3))) .nil))))) .nil) .nil) (.cons (.ret (.call "places_for_expression" (.cons (.ix (.var 0) (.neg (.lit (.int 1)))) .nil))) .nil)))⟩
def c_length_of_jump : Fn := ⟨1, 1, (.cons (.ret (.ite (.cmp .eq (.ix (.var 0) (.lit (.int 0))) (.lit (.str "test"))) (.bin .add (.b1 .len (.call "core_expression_rows" (.cons (.ix (.var 0) (.lit (.int 1))) .nil))) (.lit (.int 2))) (.lit (.int 1)))) .nil)⟩
def c__law_rows : Fn := ⟨1, 3, (.cons (.ifs (.cmp .eq (.ix (.var 0) (.lit (.int 0))) (.lit (.str "number"))) (.cons (.ret (.lst (.cons (.tup (.cons (.lit (.str "push")) (.cons (.ix (.var 0) (.lit (.int 1))) .nil))) .nil))) .nil) .nil) (.cons (.ifs (.cmp .eq (.ix (.var 0) (.lit (.int 0))) (.lit (.str "of"))) (.cons (.ret (.lst (.cons (.tup (.cons (.lit (.str "load")) (.cons (.ix (.var 0) (.lit (.int 1))) .nil))) .nil))) .nil) .nil) (.cons (.asg (.nm 1) (.lst .nil)) (.cons (.for_ (.nm 2) (.seq (.sl (.var 0) (.so (.lit (.int 1))) .no)) (.cons (.asg (.nm 1) (.bin .add (.var 1) (.call "_law_rows" (.cons (.var 2) .nil)))) .nil)) (.cons (.ret (.bin .add (.var 1) (.lst (.cons (.tup (.cons (.ix (.var 0) (.lit (.int 0))) .nil)) .nil)))) .nil)))))⟩
def c__law_command_rows : Fn := ⟨1, 2, (.cons (.ifs (.cmp .eq (.ix (.var 0) (.lit (.int 0))) (.lit (.str "hear"))) (.cons (.ret (.lst (.cons (.tup (.cons (.lit (.str "hear")) .nil)) (.cons (.tup (.cons (.lit (.str "keep")) (.cons (.ix (.var 0) (.lit (.int 1))) .nil))) .nil)))) .nil) .nil) (.cons (.ifs (.cmp .eq (.ix (.var 0) (.lit (.int 0))) (.lit (.str "show"))) (.cons (.ret (.bin .add (.call "_law_rows" (.cons (.ix (.var 0) (.lit (.int 1))) .nil)) (.lst (.cons (.tup (.cons (.lit (.str "show")) .nil)) .nil)))) .nil) .nil) (.cons (.asg (.nm 1) (.call "_law_rows" (.cons (.ix (.var 0) (.lit (.int 2))) .nil))) (.cons (.ifs (.cmp .eq (.ix (.var 0) (.lit (.int 0))) (.lit (.str "pair"))) (.cons (.asg (.nm 1) (.bin .add (.bin .add (.var 1) (.call "_law_rows" (.cons (.ix (.var 0) (.lit (.int 3))) .nil))) (.lst (.cons (.tup (.cons (.lit (.str "pair")) .nil)) .nil)))) .nil) .nil) (.cons (.ret (.bin .add (.var 1) (.lst (.cons (.tup (.cons (.lit (.str "keep")) (.cons (.ix (.var 0) (.lit (.int 1))) .nil))) .nil)))) .nil)))))⟩
section
variable {P : Prog} {n : Nat} {h : AH} {Q : D → AH → Prop} {X : Xc} {half many : Nat}
theorem expr_rows_i (hf : P.fn "core_expression_rows" = some c_core_expression_rows) : ∀ (e : CE) {k : Nat} {h : AH} {Q : D → AH → Prop} {X : Xc}, e.Ok half many → e.dep ≤ k → e.rows.length ≤ 100000 → Q (.tup (rwL e.rows)) h → wC P (n + k) "core_expression_rows" [e.d] h Q X
  | .num m, 0, _, _, _, _, hk, _, _ => absurd hk (by simp [CE.dep])
  | .of m, 0, _, _, _, _, hk, _, _ => absurd hk (by simp [CE.dep])
  | .un s a, 0, _, _, _, _, hk, _, _ => absurd hk (by simp [CE.dep])
  | .bi s a b, 0, _, _, _, _, hk, _, _ => absurd hk (by simp [CE.dep])
  | .num m, k + 1, h, Q, X, ok, hk, hl, q => by
    refine wC_i hf rfl ?_
    simp [c_core_expression_rows, List.replicate, CE.d, n1, n17]
    exact someQ_i q
  | .of m, k + 1, h, Q, X, ok, hk, hl, q => by
    refine wC_i hf rfl ?_
    simp [c_core_expression_rows, List.replicate, CE.d, n1, n2, n18]
    exact someQ_i q
  | .un s a, k + 1, h, Q, X, ok, hk, hl, q => by
    obtain ⟨ok1, ok2⟩ := ok
    obtain ⟨e1, e2⟩ := un_ne ok1
    have hk' : a.dep ≤ k := by simp [CE.dep] at hk; omega
    have hl' : a.rows.length ≤ 100000 := by simp [CE.rows] at hl; omega
    refine wC_i hf rfl ?_
    simp [c_core_expression_rows, List.replicate, CE.d, n1, n2, e1, e2, cut1]
    refine for_cons ?_
    simp
    refine expr_rows_i hf a ok2 hk' hl' ?_
    have l1 : a.rows.length ≤ 16777216 := by omega
    have l2 : a.rows.length + 1 ≤ 16777216 := by omega
    simp [l1]
    refine for_nil ?_
    simp [l2]
    refine someQ_i ?_
    have e : rwL (CE.un s a).rows = rwL a.rows ++ [.tup [.str (nm s)]] := by simp [CE.rows, rwL, rw1]
    rw [e] at q
    exact q
  | .bi s a b, k + 1, h, Q, X, ok, hk, hl, q => by
    obtain ⟨ok1, ok2, ok3⟩ := ok
    obtain ⟨e1, e2⟩ := bn_ne ok1
    have hk' : a.dep ≤ k ∧ b.dep ≤ k := by simp [CE.dep] at hk; omega
    have hl' : a.rows.length + b.rows.length + 1 ≤ 100000 := by simp [CE.rows] at hl; omega
    refine wC_i hf rfl ?_
    simp [c_core_expression_rows, List.replicate, CE.d, n1, n2, e1, e2, cut1]
    refine for_cons ?_
    simp
    refine expr_rows_i hf a ok2 hk'.1 (by omega) ?_
    have l1 : a.rows.length ≤ 16777216 := by omega
    have l2 : a.rows.length + b.rows.length ≤ 16777216 := by omega
    have l3 : a.rows.length + b.rows.length + 1 ≤ 16777216 := by omega
    simp [l1]
    refine for_cons ?_
    simp
    refine expr_rows_i hf b ok3 hk'.2 (by omega) ?_
    simp [l2]
    refine for_nil ?_
    simp [l3]
    refine someQ_i ?_
    have e : rwL (CE.bi s a b).rows = rwL a.rows ++ (rwL b.rows ++ [.tup [.str (nm s)]]) := by simp [CE.rows, rwL, rw1]
    rw [e] at q
    exact q
theorem law_rows_i (hf : P.fn "_law_rows" = some c__law_rows) : ∀ (e : CE) {k : Nat} {h : AH} {Q : D → AH → Prop} {X : Xc}, e.Ok half many → e.dep ≤ k → e.rows.length ≤ 100000 → (∀ a h', Sub h h' → h a = none → h' a = some (.lst (rwL e.rows)) → Q (.loc a) h') → wC P (n + k) "_law_rows" [e.d] h Q X
  | .num m, 0, _, _, _, _, hk, _, _ => absurd hk (by simp [CE.dep])
  | .of m, 0, _, _, _, _, hk, _, _ => absurd hk (by simp [CE.dep])
  | .un s a, 0, _, _, _, _, hk, _, _ => absurd hk (by simp [CE.dep])
  | .bi s a b, 0, _, _, _, _, hk, _, _ => absurd hk (by simp [CE.dep])
  | .num m, k + 1, h, Q, X, ok, hk, hl, q => by
    refine wC_i hf rfl ?_
    simp [c__law_rows, List.replicate, CE.d, n1, n17]
    exact fun a na => someQ_i (q a _ (sub_put na) na put_self)
  | .of m, k + 1, h, Q, X, ok, hk, hl, q => by
    refine wC_i hf rfl ?_
    simp [c__law_rows, List.replicate, CE.d, n1, n2, n18]
    exact fun a na => someQ_i (q a _ (sub_put na) na put_self)
  | .un s a, k + 1, h, Q, X, ok, hk, hl, q => by
    obtain ⟨ok1, ok2⟩ := ok
    obtain ⟨e1, e2⟩ := un_ne ok1
    have hk' : a.dep ≤ k := by simp [CE.dep] at hk; omega
    have hl' : a.rows.length ≤ 100000 := by simp [CE.rows] at hl; omega
    refine wC_i hf rfl ?_
    simp [c__law_rows, List.replicate, CE.d, n1, n2, e1, e2, cut1]
    intro u nu
    refine for_cons ?_
    simp
    refine law_rows_i hf a ok2 hk' hl' fun v h1 s1 nv hv => ?_
    have l1 : ([] : List D).length + (rwL a.rows).length ≤ 16777216 := by simp; omega
    rw [o_addll (s1 u _ put_self) hv l1]
    simp
    intro w nw
    refine for_nil ?_
    have l2 : a.rows.length + 1 ≤ 16777216 := by omega
    simp [l2]
    intro y ny
    have sb : Sub h h1 := (sub_put nu).trans s1
    refine someQ_i (q y _ ((sb.new nw).new ny) ?_ ?_)
    · exact (sb.new nw).free ny
    · rw [put_self]
      simp [CE.rows, rwL, rw1]
  | .bi s a b, k + 1, h, Q, X, ok, hk, hl, q => by
    obtain ⟨ok1, ok2, ok3⟩ := ok
    obtain ⟨e1, e2⟩ := bn_ne ok1
    have hk' : a.dep ≤ k ∧ b.dep ≤ k := by simp [CE.dep] at hk; omega
    have hl' : a.rows.length + b.rows.length + 1 ≤ 100000 := by simp [CE.rows] at hl; omega
    refine wC_i hf rfl ?_
    simp [c__law_rows, List.replicate, CE.d, n1, n2, e1, e2, cut1]
    intro u nu
    refine for_cons ?_
    simp
    refine law_rows_i hf a ok2 hk'.1 (by omega) fun v h1 s1 nv hv => ?_
    have l1 : ([] : List D).length + (rwL a.rows).length ≤ 16777216 := by simp; omega
    rw [o_addll (s1 u _ put_self) hv l1]
    simp
    intro w nw
    refine for_cons ?_
    simp
    refine law_rows_i hf b ok3 hk'.2 (by omega) fun v2 h2 s2 nv2 hv2 => ?_
    have l2 : (rwL a.rows).length + (rwL b.rows).length ≤ 16777216 := by simp; omega
    rw [o_addll (s2 w _ put_self) hv2 l2]
    simp
    intro x nx
    refine for_nil ?_
    have l3 : a.rows.length + b.rows.length + 1 ≤ 16777216 := by omega
    simp [l3]
    intro y ny
    have sb : Sub h h2 := (((sub_put nu).trans s1).new nw).trans s2
    refine someQ_i (q y _ ((sb.new nx).new ny) ((sb.new nx).free ny) ?_)
    rw [put_self]
    simp [CE.rows, rwL, rw1]
theorem places_i (hf : P.fn "places_for_expression" = some c_places_for_expression) : ∀ (e : CE) {k : Nat} {h : AH} {Q : D → AH → Prop} {X : Xc}, e.Ok half many → e.dep ≤ k → Q (.int e.pl) h → wC P (n + k) "places_for_expression" [e.d] h Q X
  | .num m, 0, _, _, _, _, hk, _ => absurd hk (by simp [CE.dep])
  | .of m, 0, _, _, _, _, hk, _ => absurd hk (by simp [CE.dep])
  | .un s a, 0, _, _, _, _, hk, _ => absurd hk (by simp [CE.dep])
  | .bi s a b, 0, _, _, _, _, hk, _ => absurd hk (by simp [CE.dep])
  | .num m, k + 1, h, Q, X, ok, hk, q => by
    refine wC_i hf rfl ?_
    simp [c_places_for_expression, List.replicate, CE.d, n1, n2]
    exact someQ_i q
  | .of m, k + 1, h, Q, X, ok, hk, q => by
    refine wC_i hf rfl ?_
    simp [c_places_for_expression, List.replicate, CE.d, n1, n2]
    exact someQ_i q
  | .un s a, k + 1, h, Q, X, ok, hk, q => by
    obtain ⟨ok1, ok2⟩ := ok
    obtain ⟨e1, e2⟩ := un_ne ok1
    have e1' : ¬ Nm.number = s := fun z => e1 z.symm
    have e2' : ¬ Nm.of = s := fun z => e2 z.symm
    have hk' : a.dep ≤ k := by simp [CE.dep] at hk; omega
    have s2 : small62 2 = true := by decide
    have s1 : small62 1 = true := by decide
    refine wC_i hf rfl ?_
    simp [c_places_for_expression, List.replicate, CE.d, n1, n2, e1', e2', s1, s2]
    have er : rngL 1 1 = [.int 1] := rfl
    rw [er]
    refine for_cons ?_
    simp
    refine places_i hf a ok2 hk' ?_
    have := pl_pos a
    simp
    refine for_nil ?_
    have z : (0 : Int) < (a.pl : Int) := by omega
    simp [z]
    try rw [if_pos (by omega)]
    exact someQ_i q
  | .bi s a b, k + 1, h, Q, X, ok, hk, q => by
    obtain ⟨ok1, ok2, ok3⟩ := ok
    obtain ⟨e1, e2⟩ := bn_ne ok1
    have e1' : ¬ Nm.number = s := fun z => e1 z.symm
    have e2' : ¬ Nm.of = s := fun z => e2 z.symm
    have hk' : a.dep ≤ k ∧ b.dep ≤ k := by simp [CE.dep] at hk; omega
    have s3 : small62 3 = true := by decide
    have s1 : small62 1 = true := by decide
    refine wC_i hf rfl ?_
    simp [c_places_for_expression, List.replicate, CE.d, n1, n2, e1', e2', s1, s3]
    have er : rngL 1 2 = [.int 1, .int 2] := rfl
    rw [er]
    refine for_cons ?_
    simp
    refine places_i hf a ok2 hk'.1 ?_
    have h1 := pl_pos a
    have h2 := pl_pos b
    simp
    refine for_cons ?_
    simp
    refine places_i hf b ok3 hk'.2 ?_
    simp
    refine for_nil ?_
    simp
    refine someQ_i ?_
    have e : (if (if (0 : Int) < (a.pl : Int) then (a.pl : Int) else 0) < 1 + (b.pl : Int) then 1 + (b.pl : Int) else if (0 : Int) < (a.pl : Int) then (a.pl : Int) else 0) = ((CE.bi s a b).pl : Int) := by
      show _ = ((max a.pl (1 + b.pl) : Nat) : Int)
      rw [if_pos (show (0 : Int) < (a.pl : Int) by omega)]
      split <;> omega
    simp only [Int.natCast_pos] at e ⊢
    first | (rw [e]; exact q) | (simp only [show 0 < a.pl by omega, if_true] at e ⊢; rw [e]; exact q)
end
end Cor
end Py
namespace Py
open PySem (Str)
namespace Cor
/-! ### the greatest, the sum -/
def mxN (xs : List Nat) : Nat := xs.foldl max 0
theorem foldl_max (xs : List Nat) (i : Nat) : xs.foldl max i = max i (mxN xs) := by
  induction xs
      generalizing i with
  | nil => simp [mxN]
  | cons x r ih =>
    rw [List.foldl_cons, ih, show mxN (x :: r) = r.foldl max (max 0 x) from rfl, ih]
    omega
theorem mxN_cons (x : Nat) (r : List Nat) : mxN (x :: r) = max x (mxN r) := by
  show r.foldl max (max 0 x) = _
  rw [foldl_max]
  omega
theorem mxN_app (xs ys : List Nat) : mxN (xs ++ ys) = max (mxN xs) (mxN ys) := by
  induction xs with
  | nil => simp [mxN]
  | cons x r ih => rw [List.cons_append, mxN_cons, mxN_cons, ih]; omega
theorem maxI_nat (x : Nat) (r : List Nat) : maxI ((x :: r).map fun (y : Nat) => (y : Int)) = some ((mxN (x :: r) : Nat) : Int) := by
  have key : ∀ (r : List Nat) (x : Nat), (r.map fun (y : Nat) => (y : Int)).foldl (fun m y => if m < y then y else m) (x : Int) = ((max x (mxN r) : Nat) : Int) := by
    intro r
    induction r with
    | nil => intro x; simp [mxN]
    | cons y r ih =>
      intro x
      rw [List.map_cons, List.foldl_cons]
      have e : (if (x : Int) < (y : Int) then (y : Int) else (x : Int)) = ((max x y : Nat) : Int) := by split <;> omega
      rw [e, ih, mxN_cons]
      congr 1
      omega
  show some _ = _
  rw [key, mxN_cons]
theorem n_maxo {x : Nat} {r : List Nat} {h : AH} : b1D .max (.o (.lst (nL (x :: r)))) h = some (.v (.int (mxN (x :: r)))) := by
  show ((intsL (nL (x :: r))).bind maxI).map _ = _
  rw [← nL_iL, intsL_iL, Option.bind_some, maxI_nat]
  rfl
theorem sum_nat (xs : List Nat) : (xs.map fun (x : Nat) => (x : Int)).sum = ((xs.sum : Nat) : Int) := by
  induction xs with
  | nil => rfl
  | cons x r ih => rw [List.map_cons, List.sum_cons, ih, List.sum_cons]; omega
theorem n_suml {a : Nat} {xs : List Nat} {h : AH} (ha : h a = some (.lst (nL xs))) : b1D .sum (.v (.loc a)) h = some (.v (.int (xs.sum : Nat))) := by
  simp only [b1D, l_loc ha]
  rw [← nL_iL, intsL_iL, Option.map_some]
  simp only [sum_nat]
theorem n_sumo {xs : List Nat} {h : AH} : b1D .sum (.o (.lst (nL xs))) h = some (.v (.int (xs.sum : Nat))) := by
  show (intsL (nL xs)).map _ = _
  rw [← nL_iL, intsL_iL, Option.map_some]
  simp only [sum_nat]
/-! ### commands, jumps, blocks -/
inductive Cmd | hear (v : Nat) | shw (e : CE) | set (v : Nat) (e : CE) | pair (v : Nat) (a b : CE)
def Cmd.d : Cmd → D
  | .hear v => .tup [.str (nm .hear), .int v]
  | .shw e => .tup [.str (nm .show), e.d]
  | .set v e => .tup [.str (nm .set), .int v, e.d]
  | .pair v a b => .tup [.str (nm .pair), .int v, a.d, b.d]
def Cmd.rows : Cmd → List Row
  | .hear v => [(.hear, none), (.keep, some v)]
  | .shw e => e.rows ++ [(.show, none)]
  | .set v e => e.rows ++ [(.keep, some v)]
  | .pair v a b => a.rows ++ b.rows ++ [(.pair, none), (.keep, some v)]
def Cmd.pl : Cmd → Nat
  | .hear _ => 1
  | .shw e => e.pl
  | .set _ e => e.pl
  | .pair _ a b => max a.pl (1 + b.pl)
/-- right, and of at most so many levels -/
def EOk (half many k : Nat) (e : CE) : Prop := e.Ok half many ∧ e.dep ≤ k
def Cmd.Ok (half many k : Nat) : Cmd → Prop
  | .hear v => v < many
  | .shw e => EOk half many k e
  | .set v e => v < many ∧ EOk half many k e
  | .pair v a b => v < many ∧ EOk half many k a ∧ EOk half many k b
inductive Jmp | goto (b : Nat) | halt | test (e : CE) (b c : Nat)
def Jmp.d : Jmp → D
  | .goto b => .tup [.str (nm .goto), .int b]
  | .halt => .tup [.str (nm .halt)]
  | .test e b c => .tup [.str (nm .test), e.d, .int b, .int c]
def Jmp.rows (ad : Nat → Nat) : Jmp → List Row
  | .goto b => [(.jump, some (ad b))]
  | .halt => [(.halt, none)]
  | .test e b c => e.rows ++ [(.unless, some (ad c)), (.jump, some (ad b))]
def Jmp.len : Jmp → Nat
  | .goto _ => 1
  | .halt => 1
  | .test e _ _ => e.rows.length + 2
def Jmp.pl : Jmp → Nat
  | .test e _ _ => e.pl
  | _ => 1
def Jmp.Ok (half many k size : Nat) : Jmp → Prop
  | .goto b => b < size
  | .halt => True
  | .test e b c => EOk half many k e ∧ b < size ∧ c < size
theorem jrows_len (ad : Nat → Nat) : ∀ j : Jmp, (j.rows ad).length = j.len
  | .goto _ => rfl
  | .halt => rfl
  | .test e _ _ => by simp [Jmp.rows, Jmp.len]
abbrev Blk := List Cmd × Jmp
def bD (b : Blk) : D := .tup [.tup (b.1.map Cmd.d), b.2.d]
def lens (b : Blk) : List Nat := (b.1.map fun c => c.rows.length) ++ [b.2.len]
def bLen (b : Blk) : Nat := (lens b).sum
def bPl (b : Blk) : Nat := mxN ((b.1.map Cmd.pl) ++ [b.2.pl])
structure BOk (half many k size : Nat) (b : Blk) : Prop where
  c : ∀ c ∈ b.1, c.Ok half many k
  j : b.2.Ok half many k size
  n : b.1.length ≤ 100
structure Pgm where
  many : Nat
  bs : List Blk
def Pgm.d (p : Pgm) : D := .tup [.int p.many, .tup (p.bs.map bD)]
structure POk (half k : Nat) (p : Pgm) : Prop where
  b : ∀ b ∈ p.bs, BOk half p.many k p.bs.length b
  s : 0 < p.bs.length
  n : p.bs.length ≤ 100
  k : k ≤ 8
@[simp] theorem pgm0 {p : Pgm} {h : AH} : ixD (.v p.d) (.v (.int 0)) h = some (.int p.many) := by simp [Pgm.d]
@[simp] theorem pgm1 {p : Pgm} {h : AH} : ixD (.v p.d) (.v (.int 1)) h = some (.tup (p.bs.map bD)) := by simp [Pgm.d]
@[simp] theorem blk0 {b : Blk} {h : AH} : ixD (.v (bD b)) (.v (.int 0)) h = some (.tup (b.1.map Cmd.d)) := by simp [bD]
@[simp] theorem blk1 {b : Blk} {h : AH} : ixD (.v (bD b)) (.v (.int 1)) h = some b.2.d := by simp [bD]
@[simp] theorem blkS {b : Blk} {h : AH} : sqV (.v (bD b)) h = some [.tup (b.1.map Cmd.d), b.2.d] := rfl
def addr (bs : List Blk) (i : Nat) : Nat := ((bs.take i).map bLen).sum
def adrs (bs : List Blk) (i : Nat) : List Nat := (List.range (i + 1)).map (addr bs)
theorem adrs_len {bs : List Blk} {i : Nat} : (adrs bs i).length = i + 1 := by simp [adrs]
theorem addr_s {bs : List Blk} {i : Nat} {b : Blk} (h : bs[i]? = some b) : addr bs (i + 1) = addr bs i + bLen b := by
  unfold addr
  rw [take_snoc h, List.map_append, List.sum_append]
  simp
theorem adrs_s {bs : List Blk} {i : Nat} : adrs bs (i + 1) = adrs bs i ++ [addr bs (i + 1)] := by simp [adrs, List.range_succ]
theorem adrs_last {bs : List Blk} {i : Nat} : atI (nL (adrs bs i)) (-1) = some (.int (addr bs i)) := by
  have e : nL (adrs bs i) = nL ((List.range i).map (addr bs)) ++ [.int (addr bs i)] := by simp [adrs, List.range_succ, nL]
  rw [e, at_last]
theorem adrs_get {bs : List Blk} {n i : Nat} (h : i < n + 1) : gn (adrs bs n) i = addr bs i := by simp [gn, adrs, h]
theorem elen {half many k : Nat} {e : CE} (h : EOk half many k e) (hk : k ≤ 8) : e.rows.length ≤ 256 := by
  have h1 := rows_len e
  have h2 : 2 ^ e.dep ≤ 2 ^ 8 := Nat.pow_le_pow_right (by decide) (Nat.le_trans h.2 hk)
  omega
theorem clen {half many k : Nat} {c : Cmd} (h : c.Ok half many k) (hk : k ≤ 8) : c.rows.length ≤ 600 := by
  cases c with
  | hear v => simp [Cmd.rows]
  | shw e => have := elen h hk; simp [Cmd.rows]; omega
  | set v e => have := elen h.2 hk; simp [Cmd.rows]; omega
  | pair v a b => have := elen h.2.1 hk; have := elen h.2.2 hk; simp [Cmd.rows]; omega
def c_lengths_in_block : Fn := ⟨1, 3, (.cons (.ret (.bin .add (.comp (.nm 2) (.seq (.ix (.var 0) (.lit (.int 0)))) [1, 2] (.b1 .len (.call "core_command_rows" (.cons (.var 2) .nil)))) (.lst (.cons (.call "length_of_jump" (.cons (.ix (.var 0) (.lit (.int 1))) .nil)) .nil)))) .nil)⟩
def c_core_block_addresses : Fn := ⟨1, 3, (.cons (.asg (.nm 1) (.lst (.cons (.lit (.int 0)) .nil))) (.cons (.for_ (.nm 2) (.seq (.ix (.var 0) (.lit (.int 1)))) (.cons (.expr (.mt .append (.var 1) (.cons (.bin .add (.ix (.var 1) (.neg (.lit (.int 1)))) (.b1 .sum (.call "lengths_in_block" (.cons (.var 2) .nil)))) .nil))) .nil)) (.cons (.ret (.var 1)) .nil)))⟩
def c_core_address : Fn := ⟨3, 3, (.cons (.ret (.bin .add (.ix (.call "core_block_addresses" (.cons (.var 0) .nil)) (.var 1)) (.b1 .sum (.sl (.call "lengths_in_block" (.cons (.ix (.ix (.var 0) (.lit (.int 1))) (.var 1)) .nil)) .no (.so (.var 2)))))) .nil)⟩
def c_core_jump_rows : Fn := ⟨2, 2, (.cons (.ifs (.cmp .eq (.ix (.var 0) (.lit (.int 0))) (.lit (.str "goto"))) (.cons (.ret (.tup (.cons (.tup (.cons (.lit (.str "jump")) (.cons (.ix (.var 1) (.ix (.var 0) (.lit (.int 1)))) .nil))) .nil))) .nil) .nil) (.cons (.ifs (.cmp .eq (.ix (.var 0) (.lit (.int 0))) (.lit (.str "halt"))) (.cons (.ret (.tup (.cons (.tup (.cons (.lit (.str "halt")) .nil)) .nil))) .nil) .nil) (.cons (.ret (.bin .add (.call "core_expression_rows" (.cons (.ix (.var 0) (.lit (.int 1))) .nil)) (.tup (.cons (.tup (.cons (.lit (.str "unless")) (.cons (.ix (.var 1) (.ix (.var 0) (.lit (.int 3)))) .nil))) (.cons (.tup (.cons (.lit (.str "jump")) (.cons (.ix (.var 1) (.ix (.var 0) (.lit (.int 2)))) .nil))) .nil))))) .nil)))⟩
def c_places_for_block : Fn := ⟨1, 6, (.cons (.asg (.tp (.cons (.nm 1) (.cons (.nm 2) .nil))) (.var 0)) (.cons (.asg (.nm 3) (.comp (.nm 5) (.seq (.var 1)) [4, 5] (.call "places_for_command" (.cons (.var 5) .nil)))) (.cons (.ret (.b1 .max (.bin .add (.var 3) (.lst (.cons (.ite (.cmp .eq (.ix (.var 2) (.lit (.int 0))) (.lit (.str "test"))) (.call "places_for_expression" (.cons (.ix (.var 2) (.lit (.int 1))) .nil)) (.lit (.int 1))) .nil))))) .nil)))⟩
def c_core_rows : Fn := ⟨1, 6, (.cons (.asg (.nm 1) (.call "core_block_addresses" (.cons (.var 0) .nil))) (.cons (.asg (.nm 2) (.tup .nil)) (.cons (.for_ (.tp (.cons (.nm 3) (.cons (.nm 4) .nil))) (.seq (.ix (.var 0) (.lit (.int 1)))) (.cons (.for_ (.nm 5) (.seq (.var 3)) (.cons (.asg (.nm 2) (.bin .add (.var 2) (.call "core_command_rows" (.cons (.var 5) .nil)))) .nil)) (.cons (.asg (.nm 2) (.bin .add (.var 2) (.call "core_jump_rows" (.cons (.var 4) (.cons (.var 1) .nil))))) .nil))) (.cons (.ret (.var 2)) .nil))))⟩
def c_compiled_core : Fn := ⟨2, 8, (.cons (.asg (.tp (.cons (.nm 2) (.cons (.nm 3) (.cons (.nm 4) .nil)))) (.var 1)) (.cons (.asg (.nm 5) (.b1 .max (.comp (.nm 7) (.seq (.ix (.var 0) (.lit (.int 1)))) [6, 7] (.call "places_for_block" (.cons (.var 7) .nil))))) (.cons (.ret (.tup (.cons (.var 2) (.cons (.var 4) (.cons (.var 5) (.cons (.ix (.var 0) (.lit (.int 0))) (.cons (.var 3) (.cons (.call "core_rows" (.cons (.var 0) .nil)) .nil)))))))) .nil)))⟩
def c__law_jump_rows : Fn := ⟨2, 2, (.cons (.ifs (.cmp .eq (.ix (.var 0) (.lit (.int 0))) (.lit (.str "goto"))) (.cons (.ret (.lst (.cons (.tup (.cons (.lit (.str "jump")) (.cons (.ix (.var 1) (.ix (.var 0) (.lit (.int 1)))) .nil))) .nil))) .nil) .nil) (.cons (.ifs (.cmp .eq (.ix (.var 0) (.lit (.int 0))) (.lit (.str "halt"))) (.cons (.ret (.lst (.cons (.tup (.cons (.lit (.str "halt")) .nil)) .nil))) .nil) .nil) (.cons (.ret (.bin .add (.call "_law_rows" (.cons (.ix (.var 0) (.lit (.int 1))) .nil)) (.lst (.cons (.tup (.cons (.lit (.str "unless")) (.cons (.ix (.var 1) (.ix (.var 0) (.lit (.int 3)))) .nil))) (.cons (.tup (.cons (.lit (.str "jump")) (.cons (.ix (.var 1) (.ix (.var 0) (.lit (.int 2)))) .nil))) .nil))))) .nil)))⟩
def c__law_begins : Fn := ⟨1, 9, (.cons (.asg (.nm 1) (.b1 .len (.ix (.var 0) (.lit (.int 1))))) (.cons (.asg (.nm 2) (.lst .nil)) (.cons (.asg (.nm 3) (.lst .nil)) (.cons (.asg (.nm 4) (.lit (.int 0))) (.cons (.for_ (.tp (.cons (.nm 5) (.cons (.nm 6) .nil))) (.seq (.ix (.var 0) (.lit (.int 1)))) (.cons (.expr (.mt .append (.var 2) (.cons (.var 4) .nil))) (.cons (.asg (.nm 7) (.lst .nil)) (.cons (.for_ (.nm 8) (.seq (.var 5)) (.cons (.expr (.mt .append (.var 7) (.cons (.var 4) .nil))) (.cons (.asg (.nm 4) (.bin .add (.var 4) (.b1 .len (.call "_law_command_rows" (.cons (.var 8) .nil))))) .nil))) (.cons (.expr (.mt .append (.var 7) (.cons (.var 4) .nil))) (.cons (.expr (.mt .append (.var 3) (.cons (.b1 .tup (.var 7)) .nil))) (.cons (.asg (.nm 4) (.bin .add (.var 4) (.b1 .len (.call "_law_jump_rows" (.cons (.var 6) (.cons (.bin .mul (.lst (.cons (.lit (.int 0)) .nil)) (.var 1)) .nil)))))) .nil))))))) (.cons (.ret (.tup (.cons (.var 2) (.cons (.b1 .tup (.var 3)) .nil)))) .nil))))))⟩
def c__law_deepest : Fn := ⟨1, 4, (.cons (.asg (.nm 1) (.lit (.int 0))) (.cons (.asg (.nm 2) (.lit (.int 1))) (.cons (.for_ (.nm 3) (.seq (.var 0)) (.cons (.ifs (.cmp .inn (.ix (.var 3) (.lit (.int 0))) (.tup (.cons (.lit (.str "push")) (.cons (.lit (.str "load")) (.cons (.lit (.str "hear")) .nil))))) (.cons (.asg (.nm 1) (.bin .add (.var 1) (.lit (.int 1)))) .nil) .nil) (.cons (.ifs (.cmp .inn (.ix (.var 3) (.lit (.int 0))) (.tup (.cons (.lit (.str "plus")) (.cons (.lit (.str "minus")) (.cons (.lit (.str "less")) (.cons (.lit (.str "same")) (.cons (.lit (.str "pair")) (.cons (.lit (.str "keep")) (.cons (.lit (.str "show")) (.cons (.lit (.str "unless")) .nil)))))))))) (.cons (.asg (.nm 1) (.bin .sub (.var 1) (.lit (.int 1)))) .nil) .nil) (.cons (.asg (.nm 2) (.b2 .max (.var 2) (.var 1))) .nil)))) (.cons (.ret (.var 2)) .nil))))⟩
section
variable {P : Prog} {n : Nat} {h : AH} {Q : D → AH → Prop} {X : Xc} {half many k size : Nat}
theorem command_rows_i (hf : P.fn "core_command_rows" = some c_core_command_rows) (hf1 : P.fn "core_expression_rows" = some c_core_expression_rows) {c : Cmd} (ok : c.Ok half many k) (hk : k ≤ 8) (q : Q (.tup (rwL c.rows)) h) : wC P (n + k + 1) "core_command_rows" [c.d] h Q X := by
  refine wC_i hf rfl ?_
  cases c with
  | hear v =>
    simp [c_core_command_rows, List.replicate, Cmd.d, n10, n19]
    exact someQ_i (by simpa [Cmd.rows, rwL, rw1] using q)
  | shw e =>
    have l := elen ok hk
    simp [c_core_command_rows, List.replicate, Cmd.d, n10, n11, n19]
    refine expr_rows_i hf1 e ok.1 ok.2 (by omega) ?_
    have l2 : e.rows.length + 1 ≤ 16777216 := by omega
    simp [l2]
    exact someQ_i (by simpa [Cmd.rows, rwL, rw1] using q)
  | set v e =>
    have l := elen ok.2 hk
    simp [c_core_command_rows, List.replicate, Cmd.d, n10, n11, n13, n19]
    refine expr_rows_i hf1 e ok.2.1 ok.2.2 (by omega) ?_
    have l2 : e.rows.length + 1 ≤ 16777216 := by omega
    simp [l2]
    exact someQ_i (by simpa [Cmd.rows, rwL, rw1] using q)
  | pair v a b =>
    have l := elen ok.2.1 hk
    have l' := elen ok.2.2 hk
    simp [c_core_command_rows, List.replicate, Cmd.d, n10, n11, n12, n13, n19]
    refine expr_rows_i hf1 a ok.2.1.1 ok.2.1.2 (by omega) ?_
    try simp
    refine expr_rows_i hf1 b ok.2.2.1 ok.2.2.2 (by omega) ?_
    have l2 : a.rows.length + b.rows.length ≤ 16777216 := by omega
    have l3 : a.rows.length + b.rows.length + 1 + 1 ≤ 16777216 := by omega
    have l4 : a.rows.length + b.rows.length + 2 ≤ 16777216 := by omega
    simp [l2, l3, l4]
    exact someQ_i (by simpa [Cmd.rows, rwL, rw1] using q)
theorem law_command_rows_i (hf : P.fn "_law_command_rows" = some c__law_command_rows) (hf1 : P.fn "_law_rows" = some c__law_rows) {c : Cmd} (ok : c.Ok half many k) (hk : k ≤ 8) (q : ∀ a h', Sub h h' → h a = none → h' a = some (.lst (rwL c.rows)) → Q (.loc a) h') : wC P (n + k + 1) "_law_command_rows" [c.d] h Q X := by
  refine wC_i hf rfl ?_
  cases c with
  | hear v =>
    simp [c__law_command_rows, List.replicate, Cmd.d, n10, n19]
    exact fun a na => someQ_i (q a _ (sub_put na) na (by rw [put_self]; simp [Cmd.rows, rwL, rw1]))
  | shw e =>
    have l := elen ok hk
    simp [c__law_command_rows, List.replicate, Cmd.d, n10, n11, n19]
    refine law_rows_i hf1 e ok.1 ok.2 (by omega) fun a h1 s1 na ha => ?_
    have l2 : (rwL e.rows).length + [D.tup [D.str (nm .show)]].length ≤ 16777216 := by simp; omega
    rw [o_addlo ha l2]
    simp
    exact fun b nb => someQ_i (q b _ (s1.new nb) (s1.free nb) (by rw [put_self]; simp [Cmd.rows, rwL, rw1]))
  | set v e =>
    have l := elen ok.2 hk
    simp [c__law_command_rows, List.replicate, Cmd.d, n10, n11, n12, n13, n19]
    refine law_rows_i hf1 e ok.2.1 ok.2.2 (by omega) fun a h1 s1 na ha => ?_
    have l2 : (rwL e.rows).length + [D.tup [D.str (nm .keep), D.int v]].length ≤ 16777216 := by simp; omega
    try simp
    rw [o_addlo ha l2]
    simp
    exact fun b nb => someQ_i (q b _ (s1.new nb) (s1.free nb) (by rw [put_self]; simp [Cmd.rows, rwL, rw1]))
  | pair v a b =>
    have l := elen ok.2.1 hk
    have l' := elen ok.2.2 hk
    simp [c__law_command_rows, List.replicate, Cmd.d, n10, n11, n12, n13, n19]
    refine law_rows_i hf1 a ok.2.1.1 ok.2.1.2 (by omega) fun u h1 s1 nu hu => ?_
    try simp
    refine law_rows_i hf1 b ok.2.2.1 ok.2.2.2 (by omega) fun v' h2 s2 nv hv => ?_
    have l2 : (rwL a.rows).length + (rwL b.rows).length ≤ 16777216 := by simp; omega
    rw [o_addll (s2 u _ hu) hv l2]
    have l3 : a.rows.length + b.rows.length + 1 ≤ 16777216 := by omega
    simp [l3]
    intro w nw
    have l4 : (rwL a.rows ++ (rwL b.rows ++ [D.tup [D.str (nm .pair)]])).length + [D.tup [D.str (nm .keep), D.int v]].length ≤ 16777216 := by simp; omega
    rw [o_addlo put_self l4]
    simp
    have sb : Sub h (put h2 w (.lst (rwL a.rows ++ (rwL b.rows ++ [D.tup [D.str (nm .pair)]])))) := (s1.trans s2).new nw
    exact fun y ny => someQ_i (q y _ (sb.new ny) (sb.free ny) (by rw [put_self]; simp [Cmd.rows, rwL, rw1]))
theorem places_cmd_i (hf : P.fn "places_for_command" = some c_places_for_command) (hf1 : P.fn "places_for_expression" = some c_places_for_expression) {c : Cmd} (ok : c.Ok half many k) (q : Q (.int c.pl) h) : wC P (n + k + 1) "places_for_command" [c.d] h Q X := by
  refine wC_i hf rfl ?_
  cases c with
  | hear v =>
    simp [c_places_for_command, List.replicate, Cmd.d, n10]
    exact someQ_i q
  | shw e =>
    have e1 : atI [D.str (nm .show), e.d] (-1) = some e.d := at_last [D.str (nm .show)] e.d
    simp [c_places_for_command, List.replicate, Cmd.d, n10, n12, e1]
    exact places_i hf1 e ok.1 ok.2 (someQ_i q)
  | set v e =>
    have e1 : atI [D.str (nm .set), D.int v, e.d] (-1) = some e.d := at_last [D.str (nm .set), D.int v] e.d
    simp [c_places_for_command, List.replicate, Cmd.d, n10, n12, e1]
    exact places_i hf1 e ok.2.1 ok.2.2 (someQ_i q)
  | pair v a b =>
    simp [c_places_for_command, List.replicate, Cmd.d, n10, n12]
    refine places_i hf1 a ok.2.1.1 ok.2.1.2 ?_
    try simp
    refine places_i hf1 b ok.2.2.1 ok.2.2.2 ?_
    simp
    refine someQ_i ?_
    have e : (if (a.pl : Int) < 1 + (b.pl : Int) then 1 + (b.pl : Int) else (a.pl : Int)) = ((Cmd.pair v a b).pl : Int) := by
      show _ = ((max a.pl (1 + b.pl) : Nat) : Int)
      split <;> omega
    rw [e]
    exact q
theorem len_jump_i (hf : P.fn "length_of_jump" = some c_length_of_jump) (hf1 : P.fn "core_expression_rows" = some c_core_expression_rows) {j : Jmp} (ok : j.Ok half many k size) (hk : k ≤ 8) (q : Q (.int j.len) h) : wC P (n + k + 1) "length_of_jump" [j.d] h Q X := by
  refine wC_i hf rfl ?_
  cases j with
  | goto b =>
    simp [c_length_of_jump, List.replicate, Jmp.d, n16]
    exact someQ_i q
  | halt =>
    simp [c_length_of_jump, List.replicate, Jmp.d, n16]
    exact someQ_i q
  | test e b c =>
    have l := elen ok.1 hk
    simp [c_length_of_jump, List.replicate, Jmp.d, n16]
    refine expr_rows_i hf1 e ok.1.1 ok.1.2 (by omega) ?_
    simp
    exact someQ_i (by simpa [Jmp.len] using q)
theorem jump_rows_i (hf : P.fn "core_jump_rows" = some c_core_jump_rows) (hf1 : P.fn "core_expression_rows" = some c_core_expression_rows) {j : Jmp} (ok : j.Ok half many k size) (hk : k ≤ 8) {a : Nat} {ads : List Nat} (ha : h a = some (.lst (nL ads))) (hs : size ≤ ads.length) (q : Q (.tup (rwL (j.rows (gn ads)))) h) : wC P (n + k + 1) "core_jump_rows" [j.d, .loc a] h Q X := by
  refine wC_i hf rfl ?_
  cases j with
  | goto b =>
    simp only [Jmp.Ok] at ok
    simp [c_core_jump_rows, List.replicate, Jmp.d, n14, n20, ha, nL_at (xs := ads) (i := b) (by omega)]
    exact someQ_i (by simpa [Jmp.rows, rwL, rw1] using q)
  | halt =>
    simp [c_core_jump_rows, List.replicate, Jmp.d, n14, n15]
    exact someQ_i (by simpa [Jmp.rows, rwL, rw1] using q)
  | test e b c =>
    have l := elen ok.1 hk
    have ob := ok.2.1
    have oc := ok.2.2
    simp [c_core_jump_rows, List.replicate, Jmp.d, n14, n15, n20, n21]
    refine expr_rows_i hf1 e ok.1.1 ok.1.2 (by omega) ?_
    have l2 : e.rows.length + 2 ≤ 16777216 := by omega
    have l3 : e.rows.length + 1 + 1 ≤ 16777216 := by omega
    simp [ha, nL_at (xs := ads) (i := b) (by omega), nL_at (xs := ads) (i := c) (by omega), l2, l3]
    exact someQ_i (by simpa [Jmp.rows, rwL, rw1] using q)
theorem law_jump_rows_i (hf : P.fn "_law_jump_rows" = some c__law_jump_rows) (hf1 : P.fn "_law_rows" = some c__law_rows) {j : Jmp} (ok : j.Ok half many k size) (hk : k ≤ 8) {a : Nat} {ads : List Nat} (ha : h a = some (.lst (nL ads))) (hs : size ≤ ads.length)
    (q : ∀ b h', Sub h h' → h b = none → h' b = some (.lst (rwL (j.rows (gn ads)))) → Q (.loc b) h') : wC P (n + k + 1) "_law_jump_rows" [j.d, .loc a] h Q X := by
  refine wC_i hf rfl ?_
  cases j with
  | goto b =>
    simp only [Jmp.Ok] at ok
    simp [c__law_jump_rows, List.replicate, Jmp.d, n14, n20, ha, nL_at (xs := ads) (i := b) (by omega)]
    exact fun u nu => someQ_i (q u _ (sub_put nu) nu (by rw [put_self]; simp [Jmp.rows, rwL, rw1]))
  | halt =>
    simp [c__law_jump_rows, List.replicate, Jmp.d, n14, n15]
    exact fun u nu => someQ_i (q u _ (sub_put nu) nu (by rw [put_self]; simp [Jmp.rows, rwL, rw1]))
  | test e b c =>
    have l := elen ok.1 hk
    have ob := ok.2.1
    have oc := ok.2.2
    simp [c__law_jump_rows, List.replicate, Jmp.d, n14, n15, n20, n21]
    refine law_rows_i hf1 e ok.1.1 ok.1.2 (by omega) fun u h1 s1 nu hu => ?_
    have l2 : e.rows.length + 2 ≤ 16777216 := by omega
    have l3 : e.rows.length + 1 + 1 ≤ 16777216 := by omega
    simp [s1 a _ ha, nL_at (xs := ads) (i := b) (by omega), nL_at (xs := ads) (i := c) (by omega), hu, l2, l3]
    exact fun y ny => someQ_i (q y _ (s1.new ny) (s1.free ny) (by rw [put_self]; simp [Jmp.rows, rwL, rw1]))
end
end Cor
end Py
namespace Py
open PySem (Str)
/-- a comprehension over rows of our own -/
theorem comp_g {α : Type} {P : Prog} {n : Nat} {t : Tg} {own : List Nat} {e : Ex} {env : Env} {s : Src} {h : AH} {Q : List D → AH → Prop} (g r : α → D) (xs : List α) (hs0 : s.items = xs.map g) (hc : s.chk h) (hl : xs.length ≤ 16777216)
    (hs : ∀ a ∈ xs, ∀ k : D → AH → Prop, k (r a) h → wTg t (g a) (wipe env own) h fun e2 h3 => wX (wC P n) P.gl e e2 h3 (fun x h4 => rv x h4 k) noX) (hq : Q (xs.map r) h) : CompG (wC P n) P.gl t own e env s h Q := by
  refine comp_by (fun i acc h' => h = h' ∧ acc = (xs.take i).map r) ⟨rfl, by simp⟩ (fun i acc h' _ z => z.1 ▸ hc) ?_ ?_
  · rintro i x acc h' N hx ⟨rfl, rfl⟩ hN
    rw [hs0, List.getElem?_map, Option.map_eq_some_iff] at hx
    obtain ⟨a, ha, rfl⟩ := hx
    refine hs a (List.mem_of_getElem? ha) _ ⟨?_, hN _ _ ⟨rfl, ?_⟩⟩
    · have := (List.getElem?_eq_some_iff.mp ha).1
      rw [List.length_map, List.length_take]; omega
    · rw [take_snoc ha]; simp
  · rintro acc h' ⟨rfl, rfl⟩
    rw [hs0, List.length_map, List.take_length]
    exact hq
namespace Cor

/-! ### at any level that is enough -/
section
variable {P : Prog} {L : Nat} {h : AH} {Q : D → AH → Prop} {X : Xc} {half many k size : Nat}
theorem expr_rows_L (hL : k ≤ L) (hf : P.fn "core_expression_rows" = some c_core_expression_rows) {e : CE} (ok : EOk half many k e) (hk : k ≤ 8) (q : Q (.tup (rwL e.rows)) h) : wC P L "core_expression_rows" [e.d] h Q X := by
  have := expr_rows_i (P := P) (n := 0) (half := half) (many := many) hf e (k := L) (h := h) (Q := Q) (X := X) ok.1 (Nat.le_trans ok.2 hL) (by have := elen ok hk; omega) q
  rwa [Nat.zero_add] at this
theorem law_rows_L (hL : k ≤ L) (hf : P.fn "_law_rows" = some c__law_rows) {e : CE} (ok : EOk half many k e) (hk : k ≤ 8) (q : ∀ a h', Sub h h' → h a = none → h' a = some (.lst (rwL e.rows)) → Q (.loc a) h') : wC P L "_law_rows" [e.d] h Q X := by
  have := law_rows_i (P := P) (n := 0) (half := half) (many := many) hf e (k := L) (h := h) (Q := Q) (X := X) ok.1 (Nat.le_trans ok.2 hL) (by have := elen ok hk; omega) q
  rwa [Nat.zero_add] at this
theorem places_L (hL : k ≤ L) (hf : P.fn "places_for_expression" = some c_places_for_expression) {e : CE} (ok : EOk half many k e) (q : Q (.int e.pl) h) : wC P L "places_for_expression" [e.d] h Q X := by
  have := places_i (P := P) (n := 0) (half := half) (many := many) hf e (k := L) (h := h) (Q := Q) (X := X) ok.1 (Nat.le_trans ok.2 hL) q
  rwa [Nat.zero_add] at this
theorem command_rows_L (hL : k + 1 ≤ L) (hf : P.fn "core_command_rows" = some c_core_command_rows) (hf1 : P.fn "core_expression_rows" = some c_core_expression_rows) {c : Cmd} (ok : c.Ok half many k) (hk : k ≤ 8) (q : Q (.tup (rwL c.rows)) h) : wC P L "core_command_rows" [c.d] h Q X := by
  obtain ⟨n, rfl⟩ : ∃ n, L = n + k + 1 := ⟨L - k - 1, by omega⟩
  exact command_rows_i hf hf1 ok hk q
theorem law_command_rows_L (hL : k + 1 ≤ L) (hf : P.fn "_law_command_rows" = some c__law_command_rows) (hf1 : P.fn "_law_rows" = some c__law_rows) {c : Cmd} (ok : c.Ok half many k) (hk : k ≤ 8) (q : ∀ a h', Sub h h' → h a = none → h' a = some (.lst (rwL c.rows)) → Q (.loc a) h') : wC P L "_law_command_rows" [c.d] h Q X := by
  obtain ⟨n, rfl⟩ : ∃ n, L = n + k + 1 := ⟨L - k - 1, by omega⟩
  exact law_command_rows_i hf hf1 ok hk q
theorem places_cmd_L (hL : k + 1 ≤ L) (hf : P.fn "places_for_command" = some c_places_for_command) (hf1 : P.fn "places_for_expression" = some c_places_for_expression) {c : Cmd} (ok : c.Ok half many k) (q : Q (.int c.pl) h) : wC P L "places_for_command" [c.d] h Q X := by
  obtain ⟨n, rfl⟩ : ∃ n, L = n + k + 1 := ⟨L - k - 1, by omega⟩
  exact places_cmd_i hf hf1 ok q
theorem len_jump_L (hL : k + 1 ≤ L) (hf : P.fn "length_of_jump" = some c_length_of_jump) (hf1 : P.fn "core_expression_rows" = some c_core_expression_rows) {j : Jmp} (ok : j.Ok half many k size) (hk : k ≤ 8) (q : Q (.int j.len) h) : wC P L "length_of_jump" [j.d] h Q X := by
  obtain ⟨n, rfl⟩ : ∃ n, L = n + k + 1 := ⟨L - k - 1, by omega⟩
  exact len_jump_i hf hf1 ok hk q
theorem jump_rows_L (hL : k + 1 ≤ L) (hf : P.fn "core_jump_rows" = some c_core_jump_rows) (hf1 : P.fn "core_expression_rows" = some c_core_expression_rows) {j : Jmp} (ok : j.Ok half many k size) (hk : k ≤ 8) {a : Nat} {ads : List Nat} (ha : h a = some (.lst (nL ads))) (hs : size ≤ ads.length) (q : Q (.tup (rwL (j.rows (gn ads)))) h) : wC P L "core_jump_rows" [j.d, .loc a] h Q X := by
  obtain ⟨n, rfl⟩ : ∃ n, L = n + k + 1 := ⟨L - k - 1, by omega⟩
  exact jump_rows_i hf hf1 ok hk ha hs q
theorem law_jump_rows_L (hL : k + 1 ≤ L) (hf : P.fn "_law_jump_rows" = some c__law_jump_rows) (hf1 : P.fn "_law_rows" = some c__law_rows) {j : Jmp} (ok : j.Ok half many k size) (hk : k ≤ 8) {a : Nat} {ads : List Nat} (ha : h a = some (.lst (nL ads))) (hs : size ≤ ads.length)
    (q : ∀ b h', Sub h h' → h b = none → h' b = some (.lst (rwL (j.rows (gn ads)))) → Q (.loc b) h') : wC P L "_law_jump_rows" [j.d, .loc a] h Q X := by
  obtain ⟨n, rfl⟩ : ∃ n, L = n + k + 1 := ⟨L - k - 1, by omega⟩
  exact law_jump_rows_i hf hf1 ok hk ha hs q
end
/-- all rows -/
def bRows (ad : Nat → Nat) (b : Blk) : List Row := b.1.flatMap Cmd.rows ++ b.2.rows ad
def pRows (bs : List Blk) (ad : Nat → Nat) : List Row := bs.flatMap (bRows ad)
def Pgm.pl (p : Pgm) : Nat := mxN (p.bs.map bPl)
theorem blen_bound {half many k size : Nat} {b : Blk} (ok : BOk half many k size b) (hk : k ≤ 8) : bLen b ≤ 61000 ∧ (lens b).length = b.1.length + 1 := by
  constructor
  · unfold bLen lens
    rw [List.sum_append]
    have key : ∀ cs : List Cmd, (∀ c ∈ cs, c.Ok half many k) → (cs.map fun c => c.rows.length).sum ≤ cs.length * 600 := by
      intro cs
      induction cs with
      | nil => intro _; simp
      | cons c r ih =>
        intro h
        have h1 := clen (h c (by simp)) hk
        have h2 := ih fun x hx => h x (List.mem_cons_of_mem _ hx)
        simp only [List.map_cons,
            List.sum_cons, List.length_cons]
        omega
    have h1 := key b.1 ok.c
    have h2 := ok.n
    have h3 : b.2.len ≤ 300 := by
      have := ok.j
      cases e : b.2 with
      | goto _ => simp [Jmp.len]
      | halt => simp [Jmp.len]
      | test e' _ _ =>
        rw [e] at this
        have := elen this.1 hk
        simp [Jmp.len]
        omega
    simp
    omega
  · simp [lens]
theorem brows_len {ad : Nat → Nat} {b : Blk} : (bRows ad b).length = bLen b := by
  unfold bRows bLen lens
  rw [List.length_append, List.sum_append, jrows_len]
  simp [List.length_flatMap]
theorem prows_len {ad : Nat → Nat} : ∀ bs : List Blk, (pRows bs ad).length = (bs.map bLen).sum
  | [] => rfl
  | b :: r => by
    unfold pRows
    rw [List.flatMap_cons, List.length_append, brows_len, List.map_cons, List.sum_cons]
    congr 1
    exact prows_len r
theorem addr_all {bs : List Blk} : addr bs bs.length = (bs.map bLen).sum := by unfold addr; rw [List.take_length]
theorem addr_le {half k : Nat} {p : Pgm} (ok : POk half k p) (i : Nat) : addr p.bs i ≤ 6100000 := by
  have hk := ok.k
  have key : ∀ bs : List Blk, (∀ b ∈ bs, b ∈ p.bs) → (bs.map bLen).sum ≤ bs.length * 61000 := by
    intro bs
    induction bs with
    | nil => intro _; simp
    | cons b r ih =>
      intro h
      have h1 := (blen_bound (ok.b b (h b (by simp))) hk).1
      have h2 := ih fun x hx => h x (List.mem_cons_of_mem _ hx)
      simp only [List.map_cons,
          List.sum_cons, List.length_cons]
      omega
  have h1 := key (p.bs.take i) fun b hb => List.mem_of_mem_take hb
  have h2 := ok.n
  rw [List.length_take] at h1
  unfold addr
  omega
section
variable {P : Prog} {L : Nat} {h : AH} {Q : D → AH → Prop} {X : Xc} {half many k size : Nat}
structure CC (P : Prog) : Prop where
  er : P.fn "core_expression_rows" = some c_core_expression_rows
  pe : P.fn "places_for_expression" = some c_places_for_expression
  cr : P.fn "core_command_rows" = some c_core_command_rows
  pc : P.fn "places_for_command" = some c_places_for_command
  lj : P.fn "length_of_jump" = some c_length_of_jump
  lb : P.fn "lengths_in_block" = some c_lengths_in_block
  ba : P.fn "core_block_addresses" = some c_core_block_addresses
  jr : P.fn "core_jump_rows" = some c_core_jump_rows
  pb : P.fn "places_for_block" = some c_places_for_block
  rw : P.fn "core_rows" = some c_core_rows
  co : P.fn "compiled_core" = some c_compiled_core
structure CA (P : Prog) : Prop extends CC P where
  ca : P.fn "core_address" = some c_core_address
theorem lens_i (hL : k + 2 ≤ L) (C : CC P) {b : Blk} (ok : BOk half many k size b) (hk : k ≤ 8) (q : ∀ a, h a = none → Q (.loc a) (put h a (.lst (nL (lens b))))) : wC P L "lengths_in_block" [bD b] h Q X := by
  obtain ⟨m, rfl⟩ : ∃ m, L = m + 1 := ⟨L - 1, by omega⟩
  refine wC_i C.lb rfl ?_
  have hn := ok.n
  simp [c_lengths_in_block, List.replicate]
  refine comp_g Cmd.d (fun c => .int c.rows.length) b.1 (by simp) trivial (by omega) (fun c hc z hz => ?_) ?_
  · simp [wipe]
    refine command_rows_L (by omega) C.cr C.er (ok.c c hc) hk ?_
    simp
    exact hz
  · try simp
    refine len_jump_L (by omega) C.lj C.er ok.j hk ?_
    have l1 : b.1.length + 1 ≤ 16777216 := by omega
    simp [l1]
    intro a na
    refine someQ_i ?_
    have e : (b.1.map fun c => D.int c.rows.length) ++ [.int b.2.len] = nL (lens b) := by simp [lens, nL, Function.comp_def]
    rw [e]
    exact q a na
theorem addrs_i (hL : k + 3 ≤ L) (C : CC P) {p : Pgm} (ok : POk half k p) (q : ∀ a h', Sub h h' → h a = none → h' a = some (.lst (nL (adrs p.bs p.bs.length))) → Q (.loc a) h') : wC P L "core_block_addresses" [p.d] h Q X := by
  obtain ⟨m, rfl⟩ : ∃ m, L = m + 1 := ⟨L - 1, by omega⟩
  refine wC_i C.ba rfl ?_
  have hn := ok.n
  simp [c_core_block_addresses, List.replicate]
  intro a na
  refine for_f (fun i env h' => Sub h h' ∧ h' a = some (.lst (nL (adrs p.bs i))) ∧ ∃ o, env = [some p.d, some (.loc a), o]) ⟨sub_put na, by rw [put_self]; rfl, none, rfl⟩ ?_ ?_
  · rintro i x env h' N hx ⟨sb, ha, o, rfl⟩ hN
    rw [List.getElem?_map, Option.map_eq_some_iff] at hx
    obtain ⟨b, hb, rfl⟩ := hx
    have hi := (List.getElem?_eq_some_iff.mp hb).1
    have l1 : (nL (adrs p.bs i)).length < 16777216 := by rw [nL_len, adrs_len]; omega
    simp [ha, adrs_last]
    refine lens_i (by omega) C (ok.b b (List.mem_of_getElem? hb)) ok.k fun u nu => ?_
    have ua : u ≠ a := fun e => by rw [e, ha] at nu; cases nu
    simp [n_suml (put_self (h := h') (a := u))]
    rw [m_app (xs := nL (adrs p.bs i)) (by rw [put_ne ua.symm]; exact ha) l1]
    simp
    refine hN _ _ ⟨(sb.new nu).put na, ?_, _, rfl⟩
    rw [put_self, adrs_s, addr_s hb]
    have e : (lens b).sum = bLen b := rfl
    rw [e]
    simp [nL]
  · rintro env h' ⟨sb, ha, o, rfl⟩
    rw [List.length_map] at ha
    simp
    exact someQ_i (q a h' sb na ha)
theorem nL_cut {xs : List Nat} {j : Nat} (h : j ≤ xs.length) : cut (nL xs) none (some (j : Int)) = nL (xs.take j) := by
  rw [cut_take (by rw [nL_len]; exact h)]
  simp [nL]
theorem address_i (hL : k + 4 ≤ L) (C : CA P) {p : Pgm} (ok : POk half k p) {i j : Nat} {b : Blk} (hb : p.bs[i]? = some b) (hj : j ≤ b.1.length) (q : Q (.int ((addr p.bs i + ((lens b).take j).sum : Nat) : Int)) h) : wC P L "core_address" [p.d, .int i, .int j] h Q X := by
  obtain ⟨m, rfl⟩ : ∃ m, L = m + 1 := ⟨L - 1, by omega⟩
  refine wC_i C.ca rfl ?_
  have hi := (List.getElem?_eq_some_iff.mp hb).1
  have bo := ok.b b (List.mem_of_getElem? hb)
  simp [c_core_address, List.replicate]
  refine addrs_i (by omega) C.toCC ok fun a h1 s1 na ha => ?_
  have e1 : atI (p.bs.map bD) (i : Int) = some (bD b) := atN (by simp [hb])
  simp [ha, nL_at (xs := adrs p.bs p.bs.length) (i := i) (by rw [adrs_len]; omega), adrs_get (bs := p.bs) (n := p.bs.length) (i := i) (by omega), e1]
  refine lens_i (by omega) C.toCC bo ok.k fun u nu => ?_
  have ll := (blen_bound bo ok.k).2
  simp [nL_cut (xs := lens b) (j := j) (by omega), n_sumo]
  refine someQ_s (s1.new nu) ?_
  have e : (addr p.bs i : Int) + (((lens b).take j).sum : Int) = ((addr p.bs i + ((lens b).take j).sum : Nat) : Int) := by omega
  rw [e]
  exact q
theorem places_blk_i (hL : k + 2 ≤ L) (C : CC P) {b : Blk} (ok : BOk half many k size b) (q : Q (.int (bPl b)) h) : wC P L "places_for_block" [bD b] h Q X := by
  obtain ⟨m, rfl⟩ : ∃ m, L = m + 1 := ⟨L - 1, by omega⟩
  refine wC_i C.pb rfl ?_
  have hn := ok.n
  simp [-v_rB, c_places_for_block, List.replicate]
  rw [v_rB]
  simp [-v_rB]
  refine comp_g Cmd.d (fun c => .int c.pl) b.1 (by simp) trivial (by omega) (fun c hc z hz => ?_) ?_
  · simp [wipe]
    refine places_cmd_L (by omega) C.pc C.pe (ok.c c hc) ?_
    try simp
    exact hz
  try simp [-v_rB]
  intro a na
  rw [v_rB]
  have l1 : b.1.length + 1 ≤ 16777216 := by omega
  have key : ∀ pj : Nat, pj = b.2.pl → gd (b1D .max (.o (.lst ((b.1.map fun c => D.int c.pl) ++ [.int pj]))) (put h a (.lst (b.1.map fun c => D.int c.pl)))) (fun r => rv r (put h a (.lst (b.1.map fun c => D.int c.pl))) (someQ Q)) := fun pj e => by
    subst e
    have e2 : (b.1.map fun c => D.int c.pl) ++ [.int b.2.pl] = nL ((b.1.map Cmd.pl) ++ [b.2.pl]) := by simp [nL, Function.comp_def]
    rw [e2]
    cases e3 : (b.1.map Cmd.pl) ++ [b.2.pl] with
    | nil => simp at e3
    | cons x r =>
      rw [n_maxo, ← e3]
      simp
      exact someQ_s (sub_put na) q
  have hj := ok.j
  cases e : b.2 with
  | goto x =>
    simp [Jmp.d, n16, l1]
    exact key 1 (by rw [e]; rfl)
  | halt =>
    simp [Jmp.d, n16, l1]
    exact key 1 (by rw [e]; rfl)
  | test x y z =>
    rw [e] at hj
    simp [Jmp.d, n16]
    refine places_L (by omega) C.pe hj.1 ?_
    simp [l1]
    exact key x.pl (by rw [e]; rfl)
theorem rows_i (hL : k + 4 ≤ L) (C : CC P) {p : Pgm} (ok : POk half k p) (q : Q (.tup (rwL (pRows p.bs (addr p.bs)))) h) : wC P L "core_rows" [p.d] h Q X := by
  obtain ⟨m, rfl⟩ : ∃ m, L = m + 1 := ⟨L - 1, by omega⟩
  refine wC_i C.rw rfl ?_
  have hn := ok.n
  simp [-v_rB, c_core_rows, List.replicate]
  refine addrs_i (by omega) C ok fun a h1 s1 na ha => ?_
  rw [v_rB]
  simp [-v_rB]
  rw [v_rB]
  simp [-v_rB]
  have cap : ∀ i : Nat, (pRows (p.bs.take i) (gn (adrs p.bs p.bs.length))).length ≤ 6100000 := fun i => by
    rw [prows_len]
    exact addr_le ok i
  refine for_f (fun i env h' => h1 = h' ∧ ∃ o3 o4 o5, env = [some p.d, some (.loc a), some (.tup (rwL (pRows (p.bs.take i) (gn (adrs p.bs p.bs.length))))), o3, o4, o5]) ⟨rfl, none, none, none, rfl⟩ ?_ ?_
  · rintro i x env h' N hx ⟨rfl, o3, o4, o5, rfl⟩ hN
    rw [List.getElem?_map, Option.map_eq_some_iff] at hx
    obtain ⟨b, hb, rfl⟩ := hx
    have bo := ok.b b (List.mem_of_getElem? hb)
    have bl := (blen_bound bo ok.k).1
    have cp := cap i
    have eS : pRows (p.bs.take (i + 1)) (gn (adrs p.bs p.bs.length)) = pRows (p.bs.take i) (gn (adrs p.bs p.bs.length)) ++ (b.1.flatMap Cmd.rows ++ b.2.rows (gn (adrs p.bs p.bs.length))) := by
      rw [take_snoc hb]
      simp [pRows, bRows]
    generalize pRows (p.bs.take i) (gn (adrs p.bs p.bs.length)) = R at *
    have fl : (b.1.flatMap Cmd.rows).length + b.2.len = bLen b := by
      rw [← brows_len (ad := fun _ => 0)]
      simp [bRows, jrows_len]
    have fj : ∀ j, ((b.1.take j).flatMap Cmd.rows).length ≤ (b.1.flatMap Cmd.rows).length := fun j => by
      have : b.1.flatMap Cmd.rows = (b.1.take j).flatMap Cmd.rows ++ (b.1.drop j).flatMap Cmd.rows := by rw [← List.flatMap_append, List.take_append_drop]
      rw [this, List.length_append]
      omega
    simp [-v_rB]
    refine for_f (fun j env h' => h1 = h' ∧ ∃ o5, env = [some p.d, some (.loc a), some (.tup (rwL (R ++ (b.1.take j).flatMap Cmd.rows))), some (.tup (b.1.map Cmd.d)), some b.2.d, o5]) ⟨rfl, o5, by simp⟩ ?_ ?_
    · rintro j x env h' N2 hx ⟨rfl, o5, rfl⟩ hN2
      rw [List.getElem?_map, Option.map_eq_some_iff] at hx
      obtain ⟨c, hc, rfl⟩ := hx
      simp
      refine command_rows_L (by omega) C.cr C.er (bo.c c (List.mem_of_getElem? hc)) ok.k ?_
      have l0 := fj (j + 1)
      rw [take_snoc hc, List.flatMap_append, List.length_append] at l0
      have l1 : (rwL (R ++ (b.1.take j).flatMap Cmd.rows)).length + (rwL c.rows).length ≤ 16777216 := by
        have e1 : ([c].flatMap Cmd.rows).length = c.rows.length := by simp
        rw [e1] at l0
        rw [rwL_len, rwL_len, List.length_append]
        omega
      rw [o_addt l1]
      simp
      refine hN2 _ _ ⟨rfl, some c.d, ?_⟩
      rw [take_snoc hc, rwL_app]
      simp
    · rintro env h' ⟨rfl, o5, rfl⟩
      rw [List.length_map,
          List.take_length]
      simp
      refine jump_rows_L (ads := adrs p.bs p.bs.length) (by omega) C.jr C.er bo.j ok.k ha (by rw [adrs_len]; omega) ?_
      have l1 : (rwL (R ++ b.1.flatMap Cmd.rows)).length + (rwL (b.2.rows (gn (adrs p.bs p.bs.length)))).length ≤ 16777216 := by
        rw [rwL_len, rwL_len, List.length_append, jrows_len]
        omega
      rw [o_addt l1]
      simp
      refine hN _ _ ⟨rfl, some (.tup (b.1.map Cmd.d)), some b.2.d, o5, ?_⟩
      rw [eS, rwL_app]
      simp
  · rintro env h' ⟨rfl, o3, o4, o5, rfl⟩
    rw [List.length_map,
        List.take_length]
    simp
    refine someQ_s s1 ?_
    have e : pRows p.bs (gn (adrs p.bs p.bs.length)) = pRows p.bs (addr p.bs) := by
      have key : ∀ bs : List Blk, (∀ b ∈ bs, b ∈ p.bs) → pRows bs (gn (adrs p.bs p.bs.length)) = pRows bs (addr p.bs) := by
        intro bs
        induction bs with
        | nil => intro _; rfl
        | cons b r ih =>
          intro hm
          have bo := (ok.b b (hm b (by simp))).j
          unfold pRows at ih ⊢
          rw [List.flatMap_cons, List.flatMap_cons, ih fun x hx => hm x (List.mem_cons_of_mem _ hx)]
          congr 1
          unfold bRows
          congr 1
          cases ej : b.2 with
          | goto x =>
            rw [ej] at bo
            simp only [Jmp.Ok] at bo
            simp [Jmp.rows, adrs_get (bs := p.bs) (n := p.bs.length) (i := x) (by omega)]
          | halt => rfl
          | test x y z =>
            rw [ej] at bo
            have b1 := bo.2.1
            have b2 := bo.2.2
            simp [Jmp.rows, adrs_get (bs := p.bs) (n := p.bs.length) (i := y) (by omega), adrs_get (bs := p.bs) (n := p.bs.length) (i := z) (by omega)]
      exact key p.bs fun _ h => h
    rw [e]
    exact q
theorem compiled_i (hL : k + 5 ≤ L) (C : CC P) {p : Pgm} (ok : POk half k p) {w c l : Int} (q : Q (.tup [.int w, .int l, .int p.pl, .int p.many, .int c, .tup (rwL (pRows p.bs (addr p.bs)))]) h) : wC P L "compiled_core" [p.d, .tup [.int w, .int c, .int l]] h Q X := by
  obtain ⟨m, rfl⟩ : ∃ m, L = m + 1 := ⟨L - 1, by omega⟩
  refine wC_i C.co rfl ?_
  have hn := ok.n
  simp [-v_rB, c_compiled_core, List.replicate]
  rw [v_rB]
  simp [-v_rB]
  refine comp_g bD (fun b => .int (bPl b)) p.bs (by simp) trivial (by omega) (fun b hb z hz => ?_) ?_
  · simp [wipe]
    refine places_blk_i (by omega) C (ok.b b hb) ?_
    try simp
    exact hz
  have e2 : (p.bs.map fun b => D.int (bPl b)) = nL (p.bs.map bPl) := by simp [nL, Function.comp_def]
  rw [e2]
  cases e3 : p.bs.map bPl with
  | nil =>
    have h1 := ok.s
    have h2 := congrArg List.length e3
    rw [List.length_map, List.length_nil] at h2
    omega
  | cons x r =>
    rw [n_maxo, ← e3]
    try simp [-v_rB]
    rw [v_rB]
    try simp [-v_rB]
    refine rows_i (by omega) C ok ?_
    try simp
    exact someQ_i q
end
end Cor
end Py
namespace Py
open PySem (Str)
def c_power_of_two : Fn := ⟨1, 3, (.cons (.asg (.nm 1) (.lit (.int 1))) (.cons (.for_ (.nm 2) (.rng1 (.var 0)) (.cons (.asg (.nm 1) (.bin .mul (.lit (.int 2)) (.var 1))) .nil)) (.cons (.ret (.var 1)) .nil)))⟩
def c_half_of_wide : Fn := ⟨1, 1, (.cons (.ret (.call "power_of_two" (.cons (.bin .sub (.var 0) (.lit (.int 1))) .nil))) .nil)⟩
def c_is_reference : Fn := ⟨2, 2, (.cons (.ret (.cmp .ge (.var 0) (.call "half_of_wide" (.cons (.var 1) .nil)))) .nil)⟩
def c_cell_of : Fn := ⟨2, 2, (.cons (.ret (.bin .sub (.var 0) (.call "half_of_wide" (.cons (.var 1) .nil)))) .nil)⟩
def c_cells_among : Fn := ⟨2, 4, (.cons (.asg (.nm 2) (.lst .nil)) (.cons (.for_ (.nm 3) (.seq (.var 0)) (.cons (.ifs (.and (.call "is_reference" (.cons (.var 3) (.cons (.var 1) .nil))) (.cmp .nin (.call "cell_of" (.cons (.var 3) (.cons (.var 1) .nil))) (.var 2))) (.cons (.expr (.mt .append (.var 2) (.cons (.call "cell_of" (.cons (.var 3) (.cons (.var 1) .nil))) .nil))) .nil) .nil) .nil)) (.cons (.ret (.var 2)) .nil)))⟩
def c_items_of_cell : Fn := ⟨2, 2, (.cons (.ret (.ite (.isc false (.ix (.var 0) (.var 1)) .non) (.tup .nil) (.ix (.var 0) (.var 1)))) .nil)⟩
def c_cells_found : Fn := ⟨3, 6, (.cons (.asg (.nm 3) (.call "cells_among" (.cons (.var 1) (.cons (.var 2) .nil)))) (.cons (.asg (.nm 4) (.lit (.int 0))) (.cons (.whl (.cmp .lt (.var 4) (.b1 .len (.var 3))) (.cons (.for_ (.nm 5) (.seq (.call "cells_among" (.cons (.call "items_of_cell" (.cons (.var 0) (.cons (.ix (.var 3) (.var 4)) .nil))) (.cons (.var 2) .nil)))) (.cons (.ifs (.cmp .nin (.var 5) (.var 3)) (.cons (.expr (.mt .append (.var 3) (.cons (.var 5) .nil))) .nil) .nil) .nil)) (.cons (.aug 4 .add (.lit (.int 1))) .nil))) (.cons (.ret (.var 3)) .nil))))⟩
def c_cells_come_to : Fn := ⟨3, 3, (.cons (.ret (.b1 .tup (.b1 .sorted (.call "cells_found" (.cons (.var 0) (.cons (.var 1) (.cons (.var 2) .nil))))))) .nil)⟩
def c_judge_come_to : Fn := ⟨4, 7, (.cons (.ifs (.not (.b1 .all (.comp (.nm 5) (.seq (.var 2)) [4, 5] (.chain .le .lt (.lit (.int 0)) (.var 5) (.b1 .len (.var 0)))))) (.cons (.ret (.lit (.bl false))) .nil) .nil) (.cons (.ifs (.not (.b1 .all (.comp (.nm 5) (.seq (.call "cells_among" (.cons (.var 1) (.cons (.var 3) .nil)))) [4, 5] (.cmp .inn (.var 5) (.var 2))))) (.cons (.ret (.lit (.bl false))) .nil) .nil) (.cons (.ret (.b1 .all (.comp2 (.nm 5) (.seq (.var 2)) [4, 5, 6] (.nm 6) (.seq (.call "cells_among" (.cons (.call "items_of_cell" (.cons (.var 0) (.cons (.var 5) .nil))) (.cons (.var 3) .nil)))) [4, 5, 6] (.cmp .inn (.var 6) (.var 2))))) .nil)))⟩
/-! ### words -/
section
variable {P : Prog} {n : Nat} {h : AH} {Q : D → AH → Prop} {X : Xc}
theorem power_of_two_i (hf : P.fn "power_of_two" = some c_power_of_two) {w : Nat} (hw : w ≤ 1000000) (q : Q (.int ((2 ^ w : Nat) : Int)) h) : wC P (n + 1) "power_of_two" [.int w] h Q X := by
  have s1 : small62 (w : Int) = true := by simp [small62]; omega
  have m2 : ml 2 := ml_of (by decide) (by decide)
  refine wC_i hf rfl ?_
  simp [c_power_of_two, List.replicate, s1]
  refine for_f (fun i env h' => h = h' ∧ ∃ o, env = [some (.int w), some (.int (2 ^ i)), o]) ⟨rfl, none, by simp⟩ ?_ ?_
  · rintro i x env h' N hx ⟨rfl, o, rfl⟩ hN
    simp [m2, two_pow]
    exact hN _ _ ⟨rfl, _, rfl⟩
  · rintro env h' ⟨rfl, o, rfl⟩
    simp
    exact someQ_i (by simpa using q)
def hf2 (wide : Nat) : Nat := 2 ^ (wide - 1)
theorem half_of_wide_i (hf : P.fn "half_of_wide" = some c_half_of_wide) (hf1 : P.fn "power_of_two" = some c_power_of_two) {w : Nat} (h1 : 1 ≤ w) (hw : w ≤ 1000000) (q : Q (.int (hf2 w)) h) : wC P (n + 2) "half_of_wide" [.int w] h Q X := by
  refine wC_i hf rfl ?_
  have e : (w : Int) - 1 = ((w - 1 : Nat) : Int) := by omega
  simp [c_half_of_wide, e]
  exact power_of_two_i hf1 (by omega) (someQ_i q)
theorem is_reference_i (hf : P.fn "is_reference" = some c_is_reference) (hf0 : P.fn "half_of_wide" = some c_half_of_wide) (hf1 : P.fn "power_of_two" = some c_power_of_two) {v w : Nat} (h1 : 1 ≤ w) (hw : w ≤ 1000000) (q : Q (.bl (decide (hf2 w ≤ v))) h) : wC P (n + 3) "is_reference" [.int v, .int w] h Q X := by
  refine wC_i hf rfl ?_
  simp [c_is_reference]
  refine half_of_wide_i hf0 hf1 h1 hw ?_
  simp
  exact someQ_i q
theorem cell_of_i (hf : P.fn "cell_of" = some c_cell_of) (hf0 : P.fn "half_of_wide" = some c_half_of_wide) (hf1 : P.fn "power_of_two" = some c_power_of_two) {v w : Nat} (h1 : 1 ≤ w) (hw : w ≤ 1000000) (hv : hf2 w ≤ v) (q : Q (.int ((v - hf2 w : Nat) : Int)) h) : wC P (n + 3) "cell_of" [.int v, .int w] h Q X := by
  refine wC_i hf rfl ?_
  simp [c_cell_of]
  refine half_of_wide_i hf0 hf1 h1 hw ?_
  have e : (v : Int) - (hf2 w : Int) = ((v - hf2 w : Nat) : Int) := by omega
  simp [e]
  exact someQ_i q
end
/-! ### cells -/
/-- one more, if it is not there -/
def ins1 (xs : List Nat) (x : Nat) : List Nat := if x ∈ xs then xs else xs ++ [x]
def insL (xs ys : List Nat) : List Nat := ys.foldl ins1 xs
theorem ins1_mem {xs : List Nat} {x y : Nat} : y ∈ ins1 xs x ↔ y ∈ xs ∨ y = x := by
  unfold ins1
  split
  · rename_i h
    exact ⟨.inl, fun z => z.elim id fun e => e ▸ h⟩
  · simp
theorem insL_mem {y : Nat} : ∀ {ys xs : List Nat}, y ∈ insL xs ys ↔ y ∈ xs ∨ y ∈ ys
  | [], xs => by simp [insL]
  | x :: ys, xs => by
    show y ∈ insL (ins1 xs x) ys ↔ _
    rw [insL_mem (ys := ys), ins1_mem, List.mem_cons, or_assoc]
theorem ins1_nd {xs : List Nat} {x : Nat} (h : xs.Nodup) : (ins1 xs x).Nodup := by
  unfold ins1
  split
  · exact h
  · rename_i z
    rw [List.nodup_append]
    exact ⟨h, by simp, fun a ha b hb e => by rw [List.mem_singleton.mp hb] at e; exact z (e ▸ ha)⟩
theorem insL_nd : ∀ {ys xs : List Nat}, xs.Nodup → (insL xs ys).Nodup
  | [], xs, h => h
  | y :: ys, xs, h => insL_nd (ys := ys) (ins1_nd h)
theorem ins1_pre {xs : List Nat} {x : Nat} : ∃ e, ins1 xs x = xs ++ e := by
  unfold ins1
  split
  · exact ⟨[], by simp⟩
  · exact ⟨_, rfl⟩
theorem insL_pre : ∀ {ys xs : List Nat}, ∃ e, insL xs ys = xs ++ e
  | [], xs => ⟨[], by simp [insL]⟩
  | y :: ys, xs => by
    obtain ⟨e1, h1⟩ := ins1_pre (xs := xs) (x := y)
    obtain ⟨e2, h2⟩ := insL_pre (ys := ys) (xs := ins1 xs y)
    refine ⟨e1 ++ e2, ?_⟩
    show insL (ins1 xs y) ys = _
    rw [h2, h1, List.append_assoc]
theorem insL_snoc {xs ys : List Nat} {y : Nat} : insL xs (ys ++ [y]) = ins1 (insL xs ys) y := by simp [insL]
theorem ins1_in {xs : List Nat} {x : Nat} (h : x ∈ xs) : ins1 xs x = xs := by unfold ins1; rw [if_pos h]
theorem insL_in : ∀ {ys xs : List Nat}, (∀ y ∈ ys, y ∈ xs) → insL xs ys = xs
  | [], xs, _ => rfl
  | y :: ys, xs, h => by
    show insL (ins1 xs y) ys = xs
    rw [ins1_in (h y (by simp))]
    exact insL_in fun z hz => h z (List.mem_cons_of_mem _ hz)
/-- each once or not: alike behind others -/
theorem insL_dd : ∀ {ys zs xs : List Nat}, insL xs (insL zs ys) = insL (insL xs zs) ys
  | [], zs, xs => rfl
  | y :: ys, zs, xs => by
    show insL xs (insL (ins1 zs y) ys) = insL (ins1 (insL xs zs) y) ys
    rw [insL_dd (ys := ys)]
    congr 1
    unfold ins1
    split
    · rename_i h
      rw [if_pos (insL_mem.mpr (.inr h))]
    · rw [insL_snoc]
      rfl
theorem insL_len {B : Nat} : ∀ {ys xs : List Nat}, (insL xs ys).length ≤ xs.length + ys.length
  | [], xs => Nat.le_refl _
  | y :: ys, xs => by
    have := insL_len (B := B) (ys := ys) (xs := ins1 xs y)
    have h2 : (ins1 xs y).length ≤ xs.length + 1 := by unfold ins1; split <;> simp
    show (insL (ins1 xs y) ys).length ≤ _
    simp only [List.length_cons]
    omega
theorem nd_len : ∀ {B : Nat} {xs : List Nat}, xs.Nodup → (∀ x ∈ xs, x < B) → xs.length ≤ B := by
  intro B xs nd hb
  have := List.Nodup.length_le_of_subset nd (l₂ := List.range B) fun x hx => List.mem_range.mpr (hb x hx)
  simpa using this
/-- the references among some values -/
def refs (half : Nat) (vs : List Nat) : List Nat := vs.filterMap fun v => if half ≤ v then some (v - half) else none
def itm : Option (Nat × Nat) → List Nat
  | none => []
  | some (a, b) => [a, b]
def cD : Option (Nat × Nat) → D
  | none => .non
  | some (a, b) => .tup [.int a, .int b]
abbrev Cs := List (Option (Nat × Nat))
def csD (cs : Cs) : List D := cs.map cD
@[simp] theorem csD_len {cs : Cs} : (csD cs).length = cs.length := by simp [csD]
def itms (cs : Cs) (c : Nat) : List Nat := itm (cs[c]?.getD none)
theorem csD_at {cs : Cs} {c : Nat} (h : c < cs.length) : atI (csD cs) (c : Int) = some (cD (cs[c]?.getD none)) := atN (by simp [csD, h])
theorem refs_snoc {half v : Nat} {vs : List Nat} : refs half (vs ++ [v]) = refs half vs ++ if half ≤ v then [v - half] else [] := by
  unfold refs
  rw [List.filterMap_append]
  congr 1
  by_cases h : half ≤ v <;> simp [h]
theorem refs_len {half : Nat} {vs : List Nat} : (refs half vs).length ≤ vs.length := List.length_filterMap_le _ _
theorem itm_len {o : Option (Nat × Nat)} : (itm o).length ≤ 2 := by
  cases o with
  | none => simp [itm]
  | some p => simp [itm]
structure Cel (P : Prog) : Prop where
  p2 : P.fn "power_of_two" = some c_power_of_two
  half : P.fn "half_of_wide" = some c_half_of_wide
  isr : P.fn "is_reference" = some c_is_reference
  co : P.fn "cell_of" = some c_cell_of
  ca : P.fn "cells_among" = some c_cells_among
  ioc : P.fn "items_of_cell" = some c_items_of_cell
  cf : P.fn "cells_found" = some c_cells_found
  cct : P.fn "cells_come_to" = some c_cells_come_to
section
variable {P : Prog} {n : Nat} {h : AH} {Q : D → AH → Prop} {X : Xc} {w : Nat} {cs : Cs}
theorem cells_among_i (C : Cel P) (h1 : 1 ≤ w) (hw : w ≤ 1000000) {vs : List Nat} (hv : vs.length ≤ 100000) (q : ∀ a, h a = none → Q (.loc a) (put h a (.lst (nL (insL [] (refs (hf2 w) vs)))))) : wC P (n + 4) "cells_among" [.tup (nL vs), .int w] h Q X := by
  refine wC_i C.ca rfl ?_
  simp [c_cells_among, List.replicate]
  intro a na
  refine for_f (fun i env h' => h' = put h a (.lst (nL (insL [] (refs (hf2 w) (vs.take i))))) ∧ ∃ o, env = [some (.tup (nL vs)), some (.int w), some (.loc a), o]) ⟨rfl, none, rfl⟩ ?_ ?_
  · rintro i x env h' N hx ⟨rfl, o, rfl⟩ hN
    obtain ⟨v, hvi, rfl⟩ : ∃ v, vs[i]? = some v ∧ x = .int (v : Nat) := by
      simp only [nL, List.getElem?_map, Option.map_eq_some_iff] at hx
      obtain ⟨v, a, b⟩ := hx
      exact ⟨v, a, b.symm⟩
    have et := refs_snoc (half := hf2 w) (v := v) (vs := vs.take i)
    rw [← take_snoc hvi] at et
    have len : (insL [] (refs (hf2 w) (vs.take i))).length < 16777216 := by
      have l1 := insL_len (B := 0) (xs := []) (ys := refs (hf2 w) (vs.take i))
      have l2 := refs_len (half := hf2 w) (vs := vs.take i)
      rw [List.length_take] at l2
      simp only [List.length_nil] at l1
      omega
    simp only [v_cons, v_ifs, v_and, v_call, v_esc, v_esn, v_var, v_lkS, v_lk0, gd_some, rv_v, v_tnm, List.set_cons_succ, List.set_cons_zero]
    refine is_reference_i C.isr C.half C.p2 h1 hw ?_
    by_cases z : hf2 w ≤ v
    · rw [if_pos z] at et
      simp [z]
      refine cell_of_i C.co C.half C.p2 h1 hw z ?_
      simp only [gd_some, k_ninNl (put_self (h := h) (a := a))]
      have es := insL_snoc (xs := []) (ys := refs (hf2 w) (vs.take i)) (y := v - hf2 w)
      rw [← et] at es
      by_cases m : v - hf2 w ∈ insL [] (refs (hf2 w) (vs.take i))
      · simp [m]
        exact hN _ _ ⟨by rw [es, ins1_in m], _, rfl⟩
      · simp [m]
        refine cell_of_i C.co C.half C.p2 h1 hw z ?_
        simp [len]
        exact hN _ _ ⟨by rw [es, ins1, if_neg m, nL_snoc], _, rfl⟩
    · rw [if_neg z, List.append_nil] at et
      simp [z]
      exact hN _ _ ⟨by rw [et], _, rfl⟩
  · rintro env h' ⟨rfl, o, rfl⟩
    simp
    exact someQ_i (by simpa using q a na)
theorem items_of_cell_i (C : Cel P) {c : Nat} (hc : c < cs.length) (q : Q (.tup (nL (itms cs c))) h) : wC P (n + 1) "items_of_cell" [.tup (csD cs), .int c] h Q X := by
  refine wC_i C.ioc rfl ?_
  simp [c_items_of_cell, csD_at hc]
  unfold itms at q
  cases e : cs[c]?.getD none with
  | none =>
    rw [e] at q
    simp [cD]
    exact someQ_i (by simpa [itm, nL] using q)
  | some p =>
    rw [e] at q
    simp [cD]
    exact someQ_i (by simpa [itm, nL] using q)
/-! ### what is found -/
def step1 (half : Nat) (cs : Cs) (found : List Nat) (k : Nat) : List Nat := if k < found.length then insL found (refs half (itms cs (gn found k))) else found
def bfs (half : Nat) (cs : Cs) (vs : List Nat) : Nat → List Nat
  | 0 => insL [] (refs half vs)
  | k + 1 => step1 half cs (bfs half cs vs k) k
/-- references among values and in cells lead to cells that are not free -/
structure Wc (half : Nat) (cs : Cs) (vs : List Nat) : Prop where
  v : ∀ c ∈ refs half vs, c < cs.length ∧ cs[c]?.getD none ≠ none
  c : ∀ k, k < cs.length → ∀ c ∈ refs half (itms cs k), c < cs.length ∧ cs[c]?.getD none ≠ none
  lv : vs.length ≤ 1000
  lc : cs.length ≤ 1000
section
variable {half : Nat} {vs : List Nat}
theorem bfs_ok (W : Wc half cs vs) : ∀ k, (bfs half cs vs k).Nodup ∧ ∀ c ∈ bfs half cs vs k, c < cs.length ∧ cs[c]?.getD none ≠ none
  | 0 => ⟨insL_nd List.nodup_nil, fun c hc => by
    rcases insL_mem.mp hc with h | h
    · cases h
    · exact W.v c h⟩
  | k + 1 => by
    obtain ⟨nd, ok⟩ := bfs_ok W k
    unfold bfs step1
    split
    · rename_i hk
      refine ⟨insL_nd nd, fun c hc => ?_⟩
      rcases insL_mem.mp hc with h | h
      · exact ok c h
      · rw [gn_get hk] at h
        exact W.c _ (ok _ (List.getElem_mem hk)).1 c h
    · exact ⟨nd, ok⟩
theorem bfs_len (W : Wc half cs vs) (k : Nat) : (bfs half cs vs k).length ≤ cs.length := nd_len (bfs_ok W k).1 fun x hx => ((bfs_ok W k).2 x hx).1
theorem bfs_stay {m : Nat} (h : (bfs half cs vs m).length ≤ m) : ∀ j, bfs half cs vs (m + j) = bfs half cs vs m
  | 0 => rfl
  | j + 1 => by
    show step1 half cs (bfs half cs vs (m + j)) (m + j) = _
    rw [bfs_stay h j]
    unfold step1
    rw [if_neg (by omega)]
def fin (half : Nat) (cs : Cs) (vs : List Nat) : List Nat := bfs half cs vs cs.length
theorem bfs_fin (W : Wc half cs vs) {m : Nat} (h : (bfs half cs vs m).length ≤ m) : bfs half cs vs m = fin half cs vs := by
  unfold fin
  have hn := bfs_len W cs.length
  by_cases hm : m ≤ cs.length
  · obtain ⟨j, e⟩ := Nat.exists_eq_add_of_le hm
    rw [e, bfs_stay h]
  · obtain ⟨j, e⟩ := Nat.exists_eq_add_of_le (show cs.length ≤ m by omega)
    rw [e, bfs_stay hn]
end
theorem cells_found_i (C : Cel P) (h1 : 1 ≤ w) (hw : w ≤ 1000000) {vs : List Nat} (W : Wc (hf2 w) cs vs) (q : ∀ a h', Sub h h' → h a = none → h' a = some (.lst (nL (fin (hf2 w) cs vs))) → Q (.loc a) h') : wC P (n + 5) "cells_found" [.tup (csD cs), .tup (nL vs), .int w] h Q X := by
  have lv := W.lv
  have lc := W.lc
  refine wC_i C.cf rfl ?_
  simp only [c_cells_found, v_start, List.replicate, List.length_cons, List.length_nil, List.map_cons, List.map_nil, List.cons_append, List.nil_append]
  simp only [v_cons, v_asg, v_call, v_esc, v_esn, v_var, v_lkS, v_lk0, gd_some, rv_v, v_tnm, List.set_cons_succ, List.set_cons_zero, v_nx, v_rB, v_lit]
  refine cells_among_i C h1 hw (by omega) fun a na => ?_
  refine whl_i (fun m env h' => ∃ k o5, m = cs.length + 1 - k ∧ k ≤ (bfs (hf2 w) cs vs k).length ∧ Sub h h' ∧ h' a = some (.lst (nL (bfs (hf2 w) cs vs k))) ∧ env = [some (.tup (csD cs)), some (.tup (nL vs)), some (.int w), some (.loc a), some (.int (k : Nat)), o5]) (cs.length + 1) ?_ ?_
  · exact ⟨0, none, rfl, Nat.zero_le _, sub_put na, put_self, rfl⟩
  · rintro m env h' N ⟨k, o5, rfl, kl, sb, ha, rfl⟩ hN
    have bl := bfs_len W k
    by_cases hk : k < (bfs (hf2 w) cs vs k).length
    · obtain ⟨nd, ok⟩ := bfs_ok W k
      have hc := (ok _ (List.getElem_mem hk)).1
      have hc' : gn (bfs (hf2 w) cs vs k) k < cs.length := by rw [gn_get hk]; exact hc
      have st : bfs (hf2 w) cs vs (k + 1) = insL (bfs (hf2 w) cs vs k) (insL [] (refs (hf2 w) (itms cs (gn (bfs (hf2 w) cs vs k) k)))) := by
        show step1 _ _ _ _ = _
        unfold step1
        rw [if_pos hk, insL_dd]
        rfl
      simp [ha, hk, nL_at hk]
      refine items_of_cell_i C hc' ?_
      try simp
      have il : (itms cs (gn (bfs (hf2 w) cs vs k) k)).length ≤ 2 := itm_len
      refine cells_among_i C h1 hw (by omega) fun b nb => ?_
      have ba : b ≠ a := fun e => by rw [e, ha] at nb; cases nb
      have lin : (insL [] (refs (hf2 w) (itms cs (gn (bfs (hf2 w) cs vs k) k)))).length ≤ 2 := by
        have l1 := insL_len (B := 0) (xs := []) (ys := refs (hf2 w) (itms cs (gn (bfs (hf2 w) cs vs k) k)))
        have l2 := refs_len (half := hf2 w) (vs := itms cs (gn (bfs (hf2 w) cs vs k) k))
        simp only [List.length_nil] at l1
        omega
      generalize insL [] (refs (hf2 w) (itms cs (gn (bfs (hf2 w) cs vs k) k))) = ys at *
      have len : ∀ i, (insL (bfs (hf2 w) cs vs k) (ys.take i)).length < 16777216 := fun i => by
        have l1 := insL_len (B := 0) (xs := bfs (hf2 w) cs vs k) (ys := ys.take i)
        rw [List.length_take] at l1
        omega
      simp
      refine for_l (fun i env h'' => Sub h h'' ∧ h'' b = some (.lst (nL ys)) ∧ h'' a = some (.lst (nL (insL (bfs (hf2 w) cs vs k) (ys.take i)))) ∧ ∃ o5, env = [some (.tup (csD cs)), some (.tup (nL vs)), some (.int w), some (.loc a), some (.int (k : Nat)), o5]) ⟨sb.new nb, put_self, by rw [put_ne ba.symm]; exact ha, _, rfl⟩ (fun i e h _ z => z.2.1) ?_ ?_
      · rintro i x env h'' N2 hx ⟨sb2, hb, ha2, o5, rfl⟩ hN2
        obtain ⟨y, hy, rfl⟩ : ∃ y, ys[i]? = some y ∧ x = .int (y : Nat) := by
          simp only [nL, List.getElem?_map, Option.map_eq_some_iff] at hx
          obtain ⟨v, a, b⟩ := hx
          exact ⟨v, a, b.symm⟩
        have es : insL (bfs (hf2 w) cs vs k) (ys.take (i + 1)) = ins1 (insL (bfs (hf2 w) cs vs k) (ys.take i)) y := by rw [take_snoc hy, insL_snoc]
        simp [k_ninNl ha2]
        by_cases m : y ∈ insL (bfs (hf2 w) cs vs k) (ys.take i)
        · simp [m]
          exact hN2 _ _ ⟨sb2, hb, by rw [es, ins1_in m]; exact ha2, _, rfl⟩
        · simp [m, ha2, len i]
          refine hN2 _ _ ⟨?_, by rw [put_ne ba]; exact hb, by rw [put_self, es, ins1, if_neg m, nL_snoc], _, rfl⟩
          exact sb2.put na
      · rintro env h'' ⟨sb2, hb, ha2, o5, rfl⟩
        rw [nL_len, List.take_length, ← st] at ha2
        simp
        refine hN (cs.length + 1 - (k + 1)) _ _ (by omega) ⟨k + 1, _, rfl, ?_, sb2, ha2, rfl⟩
        obtain ⟨e, he⟩ := insL_pre (xs := bfs (hf2 w) cs vs k) (ys := ys)
        rw [st, he, List.length_append]
        omega
    · simp [ha, hk]
      rw [bfs_fin W (by omega)] at ha
      exact someQ_i (q a h' sb na ha)
theorem cells_come_to_i (C : Cel P) (h1 : 1 ≤ w) (hw : w ≤ 1000000) {vs : List Nat} (W : Wc (hf2 w) cs vs) (q : Q (.tup (iL (sortI ((fin (hf2 w) cs vs).map fun (x : Nat) => (x : Int))))) h) : wC P (n + 6) "cells_come_to" [.tup (csD cs), .tup (nL vs), .int w] h Q X := by
  refine wC_i C.cct rfl ?_
  simp [c_cells_come_to]
  refine cells_found_i C h1 hw W fun a h' sb na ha => ?_
  rw [← nL_iL] at ha
  simp [n_sortl ha]
  exact someQ_s sb q
end
end Py
namespace Py
open PySem (Str)
namespace Cor
def c_numbers_behind : Fn := ⟨2, 8, (.cons (.asg (.tp (.cons (.nm 2) (.cons (.nm 3) (.cons (.nm 4) (.cons (.nm 5) (.cons (.nm 6) (.cons (.nm 7) .nil))))))) (.var 0)) (.cons (.ifs (.cmp .eq (.var 1) (.lit (.str "push"))) (.cons (.ret (.call "half_of_wide" (.cons (.var 2) .nil))) .nil) .nil) (.cons (.ret (.ite (.cmp .inn (.var 1) (.tup (.cons (.lit (.str "load")) (.cons (.lit (.str "keep")) .nil)))) (.var 5) (.b1 .len (.var 7)))) .nil)))⟩
def c_is_row_right : Fn := ⟨2, 2, (.cons (.ifs (.cmp .inn (.ix (.var 1) (.lit (.int 0))) (.glo "WITH_NUMBER")) (.cons (.ret (.and (.cmp .eq (.b1 .len (.var 1)) (.lit (.int 2))) (.chain .le .lt (.lit (.int 0)) (.ix (.var 1) (.lit (.int 1))) (.call "numbers_behind" (.cons (.var 0) (.cons (.ix (.var 1) (.lit (.int 0))) .nil)))))) .nil) .nil) (.cons (.ret (.and (.cmp .inn (.ix (.var 1) (.lit (.int 0))) (.glo "ALONE_ROWS")) (.cmp .eq (.b1 .len (.var 1)) (.lit (.int 1))))) .nil))⟩
def c_are_stack_sizes_right : Fn := ⟨1, 7, (.cons (.asg (.tp (.cons (.nm 1) (.cons (.nm 2) (.cons (.nm 3) (.cons (.nm 4) (.cons (.nm 5) (.cons (.nm 6) .nil))))))) (.var 0)) (.cons (.ifs (.or (.not (.chain .le .le (.lit (.int 2)) (.var 1) (.lit (.int 8)))) (.or (.not (.chain .le .lt (.lit (.int 0)) (.var 2) (.var 1))) (.or (.cmp .lt (.var 3) (.lit (.int 1))) (.cmp .lt (.var 4) (.lit (.int 0)))))) (.cons (.ret (.lit (.bl false))) .nil) .nil) (.cons (.ret (.and (.chain .le .le (.lit (.int 0)) (.var 5) (.call "half_of_wide" (.cons (.var 1) .nil))) (.cmp .gt (.b1 .len (.var 6)) (.lit (.int 0))))) .nil)))⟩
def c_rows_of_calls : Fn := ⟨1, 3, (.cons (.ret (.compi (.nm 2) (.rng1 (.b1 .len (.ix (.var 0) (.lit (.int 5))))) [1, 2] (.cmp .eq (.ix (.ix (.ix (.var 0) (.lit (.int 5))) (.var 2)) (.lit (.int 0))) (.lit (.str "call"))) (.var 2))) .nil)⟩
def c_check_stack : Fn := ⟨1, 3, (.cons (.ifs (.or (.not (.call "are_stack_sizes_right" (.cons (.var 0) .nil))) (.not (.b1 .all (.comp (.nm 2) (.seq (.ix (.var 0) (.lit (.int 5)))) [1, 2] (.call "is_row_right" (.cons (.var 0) (.cons (.var 2) .nil))))))) (.cons (.rais "InvalidStack") .nil) .nil) (.cons (.ifs (.cmp .gt (.b1 .len (.call "rows_of_calls" (.cons (.var 0) .nil))) (.call "half_of_wide" (.cons (.ix (.var 0) (.lit (.int 0))) .nil))) (.cons (.rais "InvalidStack") .nil) .nil) .nil))⟩
def withN : D := .tup [.str (nm .push), .str (nm .load), .str (nm .keep), .str (nm .jump), .str (nm .unless), .str (nm .call)]
def aloneN : D := .tup [.str (nm .drop), .str (nm .plus), .str (nm .minus), .str (nm .less), .str (nm .same), .str (nm .pair), .str (nm .first), .str (nm .second), .str (nm .paired), .str (nm .hear), .str (nm .show), .str (nm .back), .str (nm .halt)]
structure SC (P : Prog) : Prop where
  nb : P.fn "numbers_behind" = some c_numbers_behind
  ir : P.fn "is_row_right" = some c_is_row_right
  ss : P.fn "are_stack_sizes_right" = some c_are_stack_sizes_right
  rc : P.fn "rows_of_calls" = some c_rows_of_calls
  cs : P.fn "check_stack" = some c_check_stack
  hw : P.fn "half_of_wide" = some c_half_of_wide
  p2 : P.fn "power_of_two" = some c_power_of_two
  wn : P.gl "WITH_NUMBER" = some withN
  an : P.gl "ALONE_ROWS" = some aloneN
inductive ROk (half many len : Nat) : Row → Prop
  | push {n : Nat} (h : n < half) : ROk half many len (.push, some n)
  | load {n : Nat} (h : n < many) : ROk half many len (.load, some n)
  | keep {n : Nat} (h : n < many) : ROk half many len (.keep, some n)
  | jump {n : Nat} (h : n < len) : ROk half many len (.jump, some n)
  | unl {n : Nat} (h : n < len) : ROk half many len (.unless, some n)
  | plus : ROk half many len (.plus, none)
  | minus : ROk half many len (.minus, none)
  | less : ROk half many len (.less, none)
  | same : ROk half many len (.same, none)
  | pair : ROk half many len (.pair, none)
  | first : ROk half many len (.first, none)
  | second : ROk half many len (.second, none)
  | paired : ROk half many len (.paired, none)
  | hear : ROk half many len (.hear, none)
  | show : ROk half many len (.show, none)
  | halt : ROk half many len (.halt, none)
/-- the program told -/
def tD (wide lights pl many cells : Nat) (rows : List Row) : D := .tup [.int wide, .int lights, .int pl, .int many, .int cells, .tup (rwL rows)]
section
variable {P : Prog} {n : Nat} {h : AH} {Q : D → AH → Prop} {X : Xc} {wide lights pl many cells : Nat} {rows : List Row}
theorem row_right_i (S : SC P) (hw : 1 ≤ wide) (hw2 : wide ≤ 8) {r : Row} (ok : ROk (hf2 wide) many rows.length r) (q : Q (.bl true) h) : wC P (n + 4) "is_row_right" [tD wide lights pl many cells rows, rw1 r] h Q X := by
  refine wC_i S.ir rfl ?_
  have nb : ∀ (s : Nm) (m : Nat) (Q : D → AH → Prop), Q (.int (if s = .push then hf2 wide else if s = .load ∨ s = .keep then many else rows.length : Nat)) h → wC P (n + 3) "numbers_behind" [tD wide lights pl many cells rows, .str (nm s)] h Q (someX X) := fun s m Q q => by
    refine wC_i S.nb rfl ?_
    by_cases e : s = .push
    · subst e
      simp [c_numbers_behind, List.replicate, tD, n17]
      refine half_of_wide_i S.hw S.p2 hw (by omega) ?_
      try simp
      exact someQ_i (by simpa using q)
    · by_cases e2 : s = .load
      · subst e2
        simp [c_numbers_behind, List.replicate, tD, n17, n18, n19]
        exact someQ_i (by simpa using q)
      · by_cases e3 : s = .keep
        · subst e3
          simp [c_numbers_behind, List.replicate, tD, n17, n18, n19]
          exact someQ_i (by simpa using q)
        · have e2' : ¬ Nm.load = s := fun z => e2 z.symm
          have e3' : ¬ Nm.keep = s := fun z => e3 z.symm
          simp [c_numbers_behind, List.replicate, tD, n17, n18, n19, e, e2', e3']
          exact someQ_i (by simpa [e, e2, e3] using q)
  have num : ∀ (s : Nm) (m : Nat), (s = .push ∨ s = .load ∨ s = .keep ∨ s = .jump ∨ s = .unless) → m < (if s = .push then hf2 wide else if s = .load ∨ s = .keep then many else rows.length) →
      wB (wC P (n + 3)) P.gl P.sub c_is_row_right.body (start 2 [tD wide lights pl many cells rows, rw1 (s, some m)]) h (ksOf (someQ Q) (someX X)) := fun s m hs hm => by
    rcases hs with rfl | rfl | rfl | rfl | rfl <;>
    · simp [c_is_row_right, List.replicate, rw1, S.wn, withN]
      refine nb _ m _ ?_
      simp at hm
      simp [hm]
      exact someQ_i q
  cases ok with
  | push hh => exact num .push _ (by simp) (by simpa using hh)
  | load hh => exact num .load _ (by simp) (by simpa using hh)
  | keep hh => exact num .keep _ (by simp) (by simpa using hh)
  | jump hh => exact num .jump _ (by simp) (by simpa using hh)
  | unl hh => exact num .unless _ (by simp) (by simpa using hh)
  | _ =>
    simp [c_is_row_right, List.replicate, rw1, S.wn, S.an, withN, aloneN]
    exact someQ_i q
theorem row_at {i : Nat} {r : Row} (h : rows[i]? = some r) : atI (rwL rows) (i : Int) = some (rw1 r) := atN (by simp [rwL, h])
theorem row_name {r : Row} : ∃ xs, rw1 r = .tup (.str (nm r.1) :: xs) := by
  obtain ⟨s, o⟩ := r
  cases o with
  | none => exact ⟨_, rfl⟩
  | some n => exact ⟨_, rfl⟩
theorem rok_call {half len : Nat} {r : Row} (ok : ROk half many len r) : ¬ r.1 = .call := by cases ok <;> simp
theorem check_stack_i (S : SC P) (hw : 2 ≤ wide) (hw2 : wide ≤ 8) (hl : lights < wide) (hp : 1 ≤ pl) (hc : cells ≤ hf2 wide) (h0 : 0 < rows.length) (h1 : rows.length ≤ 10000000) (ok : ∀ r ∈ rows, ROk (hf2 wide) many rows.length r) (q : Q .non h) :
    wC P (n + 5) "check_stack" [tD wide lights pl many cells rows] h Q X := by
  have x0 : ixD (.v (tD wide lights pl many cells rows)) (.v (.int 0)) h = some (.int wide) := by simp [tD]
  have x5 : ∀ h : AH, ixD (.v (tD wide lights pl many cells rows)) (.v (.int 5)) h = some (.tup (rwL rows)) := fun h => by simp [tD]
  have s1 : small62 (rows.length : Int) = true := by simp [small62]; omega
  refine wC_i S.cs rfl ?_
  simp [c_check_stack, List.replicate]
  refine wC_i S.ss rfl ?_
  have b1 : (2 : Int) ≤ (wide : Int) := by omega
  have b2 : (wide : Int) ≤ 8 := by omega
  have b3 : ¬ (pl : Int) < 1 := by omega
  have b4 : ¬ (many : Int) < 0 := by omega
  have b5 : (0 : Int) < (rows.length : Int) := by omega
  have b6 : ¬ pl = 0 := by omega
  simp [c_are_stack_sizes_right, List.replicate, tD, b1, b2, b3, b4, hl, b6]
  refine half_of_wide_i S.hw S.p2 (by omega) (by omega) ?_
  simp [hc, h0]
  refine someQ_i ?_
  show gd _ _
  simp
  refine comp_g rw1 (fun _ => .bl true) rows (by simp [rwL]) trivial (by omega) (fun r hr z hz => ?_) ?_
  · simp [wipe]
    refine row_right_i (wide := wide) (lights := lights) (pl := pl) (many := many) (cells := cells) (rows := rows) S (by omega) hw2 (ok r hr) ?_
    try simp
    exact hz
  have e1 : allP (fun _ : Row => true) rows = true := by rw [allP_iff]; exact fun _ _ => rfl
  rw [all_p (fun _ : Row => true) rows, e1]
  simp
  refine wC_i S.rc rfl ?_
  simp [c_rows_of_calls, List.replicate, s1]
  refine compi_m (fun _ => false) (fun x => x) trivial (by simp; omega) (fun x hx z hz => ?_) ?_
  · obtain ⟨i, hi, rfl⟩ := rngL_mem hx
    obtain ⟨xs, e⟩ := row_name (r := rows[i])
    have ea := row_at (rows := rows) (i := i) (r := rows[i]) (by simp [hi])
    have nc := rok_call (ok rows[i] (List.getElem_mem hi))
    rw [e] at ea
    simp [wipe, ea, n22, nc]
    simpa using hz
  · simp
    intro a na
    refine someQ_i ?_
    simp
    refine half_of_wide_i S.hw S.p2 (by omega) (by omega) ?_
    have ef : (rngL 0 rows.length).filter (fun _ => false) = [] := by rw [List.filter_eq_nil_iff]; simp
    simp [ef]
    exact someQ_s (sub_put na) q
end
end Cor
end Py
namespace Py
open PySem (Str)
namespace Cor
def c__law_core_expression : Fn := ⟨4, 7, (.cons (.asg (.nm 4) (.call "_law_take" (.cons (.var 0) (.cons (.lit (.int 10)) .nil)))) (.cons (.ifs (.or (.cmp .eq (.var 3) (.lit (.int 0))) (.cmp .lt (.var 4) (.lit (.int 4)))) (.cons (.ifs (.and (.cmp .gt (.var 1) (.lit (.int 0))) (.cmp .gt (.call "_law_take" (.cons (.var 0) (.cons (.lit (.int 3)) .nil))) (.lit (.int 0)))) (.cons (.ret (.tup (.cons (.lit (.str "of")) (.cons (.call "_law_take" (.cons (.var 0) (.cons (.var 1) .nil))) .nil)))) .nil) .nil) (.cons (.ret (.tup (.cons (.lit (.str "number")) (.cons (.call "_law_take" (.cons (.var 0) (.cons (.var 2) .nil))) .nil)))) .nil)) .nil) (.cons (.ifs (.cmp .gt (.var 4) (.lit (.int 7))) (.cons (.ret (.tup (.cons (.ix (.tup (.cons (.lit (.str "paired")) (.cons (.lit (.str "first")) (.cons (.lit (.str "second")) .nil)))) (.call "_law_take" (.cons (.var 0) (.cons (.lit (.int 3)) .nil)))) (.cons (.call "_law_core_expression" (.cons (.var 0) (.cons (.var 1) (.cons (.var 2) (.cons (.bin .sub (.var 3) (.lit (.int 1))) .nil))))) .nil)))) .nil) .nil) (.cons (.asg (.nm 5) (.call "_law_core_expression" (.cons (.var 0) (.cons (.var 1) (.cons (.var 2) (.cons (.bin .sub (.var 3) (.lit (.int 1))) .nil)))))) (.cons (.asg (.nm 6) (.call "_law_core_expression" (.cons (.var 0) (.cons (.var 1) (.cons (.var 2) (.cons (.bin .sub (.var 3) (.lit (.int 1))) .nil)))))) (.cons (.ret (.tup (.cons (.ix (.tup (.cons (.lit (.str "plus")) (.cons (.lit (.str "minus")) (.cons (.lit (.str "less")) (.cons (.lit (.str "same")) .nil))))) (.bin .sub (.var 4) (.lit (.int 4)))) (.cons (.var 5) (.cons (.var 6) .nil))))) .nil))))))⟩
def c__law_core_command : Fn := ⟨4, 7, (.cons (.asg (.nm 4) (.call "_law_take" (.cons (.var 0) (.cons (.lit (.int 7)) .nil)))) (.cons (.ifs (.or (.cmp .eq (.var 1) (.lit (.int 0))) (.cmp .eq (.var 4) (.lit (.int 0)))) (.cons (.ret (.tup (.cons (.lit (.str "show")) (.cons (.call "_law_core_expression" (.cons (.var 0) (.cons (.var 1) (.cons (.var 2) (.cons (.var 3) .nil))))) .nil)))) .nil) .nil) (.cons (.asg (.nm 5) (.call "_law_take" (.cons (.var 0) (.cons (.var 1) .nil)))) (.cons (.ifs (.cmp .eq (.var 4) (.lit (.int 1))) (.cons (.ret (.tup (.cons (.lit (.str "hear")) (.cons (.var 5) .nil)))) .nil) .nil) (.cons (.asg (.nm 6) (.call "_law_core_expression" (.cons (.var 0) (.cons (.var 1) (.cons (.var 2) (.cons (.var 3) .nil)))))) (.cons (.ifs (.cmp .lt (.var 4) (.lit (.int 4))) (.cons (.ret (.tup (.cons (.lit (.str "pair")) (.cons (.var 5) (.cons (.var 6) (.cons (.call "_law_core_expression" (.cons (.var 0) (.cons (.var 1) (.cons (.var 2) (.cons (.var 3) .nil))))) .nil)))))) .nil) .nil) (.cons (.ret (.tup (.cons (.lit (.str "set")) (.cons (.var 5) (.cons (.var 6) .nil))))) .nil)))))))⟩
def c__law_core_program : Fn := ⟨6, 13, (.cons (.asg (.nm 6) (.lst .nil)) (.cons (.for_ (.nm 7) (.rng1 (.var 2)) (.cons (.asg (.nm 8) (.b1 .tup (.comp (.nm 12) (.rng1 (.call "_law_take" (.cons (.var 0) (.cons (.bin .add (.var 4) (.lit (.int 1))) .nil)))) [11, 12] (.call "_law_core_command" (.cons (.var 0) (.cons (.var 1) (.cons (.var 3) (.cons (.var 5) .nil)))))))) (.cons (.asg (.nm 9) (.call "_law_take" (.cons (.var 0) (.cons (.lit (.int 6)) .nil)))) (.cons (.asg (.nm 10) (.tup (.cons (.lit (.str "goto")) (.cons (.call "_law_take" (.cons (.var 0) (.cons (.var 2) .nil))) .nil)))) (.cons (.ifs (.cmp .eq (.var 9) (.lit (.int 0))) (.cons (.asg (.nm 10) (.tup (.cons (.lit (.str "halt")) .nil))) .nil) .nil) (.cons (.ifs (.cmp .gt (.var 9) (.lit (.int 2))) (.cons (.asg (.nm 10) (.tup (.cons (.lit (.str "test")) (.cons (.call "_law_core_expression" (.cons (.var 0) (.cons (.var 1) (.cons (.var 3) (.cons (.var 5) .nil))))) (.cons (.call "_law_take" (.cons (.var 0) (.cons (.var 2) .nil))) (.cons (.call "_law_take" (.cons (.var 0) (.cons (.var 2) .nil))) .nil)))))) .nil) .nil) (.cons (.expr (.mt .append (.var 6) (.cons (.tup (.cons (.var 8) (.cons (.var 10) .nil))) .nil))) .nil))))))) (.cons (.ret (.tup (.cons (.var 1) (.cons (.b1 .tup (.var 6)) .nil)))) .nil)))⟩
/-! ### what is drawn -/
section
variable {P : Prog} {L : Nat} {h : AH} {Q : D → AH → Prop} {X : Xc} {half many : Nat}
structure DC (P : Prog) : Prop where
  take : P.fn "_law_take" = some D3.c__law_take
  ex : P.fn "_law_core_expression" = some c__law_core_expression
  cm : P.fn "_law_core_command" = some c__law_core_command
  pg : P.fn "_law_core_program" = some c__law_core_program
theorem take_L (hL : 1 ≤ L) (C : DC P) {a : Nat} {ds : List Int} {m : Int} (hm : 0 < m) (e : h a = some (.lst (iL ds))) (q : ∀ (v : Nat) (ds' : List Int), (v : Int) < m → Q (.int v) (put h a (.lst (iL ds')))) : wC P L "_law_take" [.loc a, .int m] h Q X := by
  obtain ⟨n, rfl⟩ : ∃ n, L = n + 1 := ⟨L - 1, by omega⟩
  exact D3.take_i C.take hm e q
def unN (i : Nat) : Nm := if i = 0 then .paired else if i = 1 then .first else .second
def bnN (i : Nat) : Nm := if i = 0 then .plus else if i = 1 then .minus else if i = 2 then .less else .same
theorem unN_ok (i : Nat) : Un (unN i) := by
  unfold unN
  split
  · exact ⟨.inl rfl⟩
  · split
    · exact ⟨.inr (.inl rfl)⟩
    · exact ⟨.inr (.inr rfl)⟩
theorem bnN_ok (i : Nat) : Bn (bnN i) := by
  unfold bnN
  split
  · exact ⟨.inl rfl⟩
  · split
    · exact ⟨.inr (.inl rfl)⟩
    · split
      · exact ⟨.inr (.inr (.inl rfl))⟩
      · exact ⟨.inr (.inr (.inr rfl))⟩
theorem core_expr_i (C : DC P) (hh : 0 < half) : ∀ (deep : Nat) {L : Nat} {h : AH} {Q : D → AH → Prop} {X : Xc} {g : Nat} {ds : List Int}, deep + 2 ≤ L → h g = some (.lst (iL ds)) → (∀ (e : CE) (ds' : List Int), EOk half many (deep + 1) e → Q e.d (put h g (.lst (iL ds')))) →
    wC P L "_law_core_expression" [.loc g, .int many, .int half, .int deep] h Q X := by
  intro deep
  induction deep with
  | zero =>
    intro L h Q X g ds hL hg q
    obtain ⟨n, rfl⟩ : ∃ n, L = n + 1 := ⟨L - 1, by omega⟩
    refine wC_i C.ex rfl ?_
    simp [c__law_core_expression, List.replicate, n1, n2]
    refine take_L (by omega) C (by decide) hg fun pick d1 p1 => ?_
    try simp
    have num : ∀ (h : AH) (ds : List Int), h g = some (.lst (iL ds)) → (∀ (e : CE) (ds' : List Int), EOk half many 1 e → Q e.d (put h g (.lst (iL ds')))) → wC P n "_law_take" [.loc g, .int half] h (fun d h2 => someQ Q (.tup [.str (nm .number), d]) h2) (someX X) := fun h ds hg q => by
      refine take_L (by omega) C (by omega) hg fun v d2 v1 => ?_
      exact someQ_i (q (.num v) d2 ⟨by simp only [CE.Ok]; omega, by simp [CE.dep]⟩)
    by_cases z : 0 < many
    · simp [z]
      refine take_L (by omega) C (by decide) put_self fun c d2 c1 => ?_
      by_cases z2 : 0 < c
      · simp [z2]
        refine take_L (by omega) C (by omega) put_self fun v d3 v1 => ?_
        simp
        exact someQ_i (q (.of v) d3 ⟨by simp only [CE.Ok]; omega, by simp [CE.dep]⟩)
      · simp [z2]
        refine num _ _ put_self fun e ds' he => ?_
        have := q e ds' he
        simpa using this
    · simp [z]
      refine num _ _ put_self fun e ds' he => ?_
      have := q e ds' he
      simpa using this
  | succ deep ih =>
    intro L h Q X g ds hL hg q
    obtain ⟨n, rfl⟩ : ∃ n, L = n + 1 := ⟨L - 1, by omega⟩
    have ed : ((deep + 1 : Nat) : Int) - 1 = (deep : Int) := by omega
    have nd : ¬ ((deep : Int) + 1 = 0) := by omega
    refine wC_i C.ex rfl ?_
    simp [-v_rB, c__law_core_expression, List.replicate, n1, n2, n3, n4, n5, n6, n7, n8, n9]
    refine take_L (by omega) C (by decide) hg fun pick d1 p1 => ?_
    rw [v_rB]
    have num : ∀ (h : AH) (ds : List Int), h g = some (.lst (iL ds)) → (∀ (e : CE) (ds' : List Int), EOk half many (deep + 1 + 1) e → Q e.d (put h g (.lst (iL ds')))) → wC P n "_law_take" [.loc g, .int half] h (fun d h2 => someQ Q (.tup [.str (nm .number), d]) h2) (someX X) := fun h ds hg q => by
      refine take_L (by omega) C (by omega) hg fun v d2 v1 => ?_
      exact someQ_i (q (.num v) d2 ⟨by simp only [CE.Ok]; omega, by simp [CE.dep]⟩)
    by_cases pk : (pick : Int) < 4
    · simp [-v_rB, nd, pk, n1, n2]
      by_cases z : 0 < many
      · simp [-v_rB, z]
        refine take_L (by omega) C (by decide) put_self fun c d2 c1 => ?_
        by_cases z2 : 0 < c
        · simp [-v_rB, z2]
          refine take_L (by omega) C (by omega) put_self fun v d3 v1 => ?_
          simp
          exact someQ_i (q (.of v) d3 ⟨by simp only [CE.Ok]; omega, by simp [CE.dep]⟩)
        · simp [-v_rB, z2]
          rw [v_rB]
          simp [-v_rB, n1]
          refine num _ _ put_self fun e ds' he => ?_
          have := q e ds' he
          simpa using this
      · simp [-v_rB, z]
        rw [v_rB]
        simp [-v_rB, n1]
        refine num _ _ put_self fun e ds' he => ?_
        have := q e ds' he
        simpa using this
    · simp [-v_rB, nd, pk]
      rw [v_rB]
      by_cases pk2 : (7 : Int) < pick
      · simp [-v_rB, pk2, n3, n4, n5]
        refine take_L (by omega) C (by decide) put_self fun c d2 c1 => ?_
        have c2 : c < 3 := by omega
        have ea : atI [D.str (nm .paired), D.str (nm .first), D.str (nm .second)] (c : Int) = some (.str (nm (unN c))) := by
          rcases (show c = 0 ∨ c = 1 ∨ c = 2 by omega) with rfl | rfl | rfl <;> rfl
        have e2 : (deep : Int) + 1 - 1 = (deep : Int) := by omega
        simp [-v_rB, ea, e2]
        refine ih (by omega) put_self fun e d3 he => ?_
        simp
        have := q (.un (unN c) e) d3 ⟨⟨unN_ok c, he.1⟩, by have := he.2; simp only [CE.dep]; omega⟩
        exact someQ_i (by simpa [CE.d, Cmd.d] using this)
      · simp [-v_rB, pk2]
        rw [v_rB]
        have e2 : (deep : Int) + 1 - 1 = (deep : Int) := by omega
        simp [-v_rB, e2]
        refine ih (by omega) put_self fun e1 d3 h1 => ?_
        rw [v_rB]
        simp [-v_rB, e2]
        refine ih (by omega) put_self fun e3 d4 h3 => ?_
        rw [v_rB]
        obtain ⟨c, hc⟩ : ∃ c : Nat, (pick : Int) - 4 = (c : Int) := ⟨pick - 4, by omega⟩
        have ea : atI [D.str (nm .plus), D.str (nm .minus), D.str (nm .less), D.str (nm .same)] (c : Int) = some (.str (nm (bnN c))) := by
          rcases (show c = 0 ∨ c = 1 ∨ c = 2 ∨ c = 3 by omega) with rfl | rfl | rfl | rfl <;> rfl
        simp [-v_rB, n6, n7, n8, n9, hc, ea]
        have := q (.bi (bnN c) e1 e3) d4 ⟨⟨bnN_ok c, h1.1, h3.1⟩, by have := h1.2; have := h3.2; simp only [CE.dep]; omega⟩
        exact someQ_i (by simpa [CE.d, Cmd.d] using this)
theorem core_cmd_i (hL : deep + 3 ≤ L) (C : DC P) (hh : 0 < half) {g : Nat} {ds : List Int} (hg : h g = some (.lst (iL ds))) (q : ∀ (c : Cmd) (ds' : List Int), c.Ok half many (deep + 1) → Q c.d (put h g (.lst (iL ds')))) : wC P L "_law_core_command" [.loc g, .int many, .int half, .int (deep : Nat)] h Q X := by
  obtain ⟨n, rfl⟩ : ∃ n, L = n + 1 := ⟨L - 1, by omega⟩
  refine wC_i C.cm rfl ?_
  simp [-v_rB, c__law_core_command, List.replicate]
  refine take_L (by omega) C (by decide) hg fun pick d1 p1 => ?_
  rw [v_rB]
  have shw : ∀ (h : AH) (ds : List Int), h g = some (.lst (iL ds)) → (∀ (c : Cmd) (ds' : List Int), c.Ok half many (deep + 1) → Q c.d (put h g (.lst (iL ds')))) → wC P n "_law_core_expression" [.loc g, .int many, .int half, .int (deep : Nat)] h (fun d h2 => someQ Q (.tup [.str (nm .show), d]) h2) (someX X) := fun h ds hg q =>
    core_expr_i C hh deep (by omega) hg fun e ds' he => someQ_i (q (.shw e) ds' he)
  by_cases z : many = 0
  · subst z
    simp [-v_rB, n11]
    refine shw _ _ put_self fun c ds' hc => ?_
    have := q c ds' hc
    simpa using this
  · by_cases z2 : pick = 0
    · simp [-v_rB, z, z2, n11]
      refine shw _ _ put_self fun c ds' hc => ?_
      have := q c ds' hc
      simpa using this
    · simp [-v_rB, z, z2]
      rw [v_rB]
      simp [-v_rB]
      refine take_L (by omega) C (by omega) put_self fun v d2 v1 => ?_
      have v2 : v < many := by omega
      rw [v_rB]
      by_cases z3 : (pick : Int) = 1
      · simp [-v_rB, z3, n10]
        have := q (.hear v) d2 v2
        exact someQ_i (by simpa [CE.d, Cmd.d] using this)
      · simp [-v_rB, z3]
        rw [v_rB]
        simp [-v_rB]
        refine core_expr_i C hh deep (by omega) put_self fun e d3 he => ?_
        rw [v_rB]
        by_cases z4 : (pick : Int) < 4
        · simp [-v_rB, z4, n12]
          refine core_expr_i C hh deep (by omega) put_self fun e2 d4 he2 => ?_
          simp
          have := q (.pair v e e2) d4 ⟨v2, he, he2⟩
          exact someQ_i (by simpa [CE.d, Cmd.d] using this)
        · simp [-v_rB, z4]
          rw [v_rB]
          simp [-v_rB, n13]
          have := q (.set v e) d3 ⟨v2, he⟩
          exact someQ_i (by simpa [CE.d, Cmd.d] using this)
theorem core_pgm_i {deep most : Nat} (hL : deep + 4 ≤ L) (C : DC P) (hh : 0 < half) {g size : Nat} {ds : List Int} (hg : h g = some (.lst (iL ds))) (hs : 0 < size) (hs2 : size ≤ 100) (hm : most ≤ 50) (hd : deep ≤ 7)
    (q : ∀ (p : Pgm) (ds' : List Int), POk half (deep + 1) p → p.many = many → p.bs.length = size → Q p.d (put h g (.lst (iL ds')))) : wC P L "_law_core_program" [.loc g, .int many, .int size, .int half, .int most, .int (deep : Nat)] h Q X := by
  obtain ⟨n, rfl⟩ : ∃ n, L = n + 1 := ⟨L - 1, by omega⟩
  have hgn : h g ≠ none := by rw [hg]; simp
  have s1 : small62 (size : Int) = true := by simp [small62]; omega
  refine wC_i C.pg rfl ?_
  simp [-v_rB, c__law_core_program, List.replicate]
  intro a na
  have ag : a ≠ g := fun e => by subst e; exact hgn na
  rw [v_rB]
  simp [-v_rB, s1]
  refine for_f (fun i env h' => ∃ (bs : List Blk) (o7 o8 o9 o10 : Option D), bs.length = i ∧ (∀ b ∈ bs, BOk half many (deep + 1) size b) ∧ Kd h g h' ∧ h' a = some (.lst (bs.map bD)) ∧
    env = [some (.loc g), some (.int many), some (.int size), some (.int half), some (.int most), some (.int (deep : Nat)), some (.loc a), o7, o8, o9, o10, none, none]) ?_ ?_ ?_
  · exact ⟨[], none, none, none, none, rfl, (fun b hb => by cases hb), (Kd.refl hg).own na ag _, by rw [put_self]; rfl, rfl⟩
  · rintro i x env h' N hx ⟨bs, o7, o8, o9, o10, bl, bo, kd, ha, rfl⟩ hN
    obtain ⟨hi, rfl⟩ := rngL_at hx
    obtain ⟨da, ea⟩ := kd.dr
    simp [-v_rB]
    refine take_L (by omega) C (by omega) ea fun m d1 m1 => ?_
    have s2 : small62 (m : Int) = true := by simp [small62]; omega
    simp [-v_rB, s2]
    refine comp_by (fun j acc h1 => ∃ cs : List Cmd, acc = cs.map Cmd.d ∧ cs.length = j ∧ (∀ c ∈ cs, c.Ok half many (deep + 1)) ∧ Kd h g h1 ∧ h1 a = some (.lst (bs.map bD))) ⟨[], rfl, rfl, (fun c hc => by cases hc), kd.take _, by rw [put_ne ag]; exact ha⟩ (fun _ _ _ _ _ => trivial) ?_ ?_
    · rintro j x _ h1 N2 hx ⟨cs, rfl, cl, co, kd, ha⟩ hN2
      simp only [v_fixi] at hx
      obtain ⟨hj, rfl⟩ := rngL_at hx
      obtain ⟨db, eb⟩ := kd.dr
      simp [wipe]
      refine core_cmd_i (by omega) C hh eb fun c d2 hc => ?_
      try simp
      refine ⟨by omega, hN2 _ _ ⟨cs ++ [c], by simp, by simp [cl], fun x hx => ?_, kd.take _, by rw [put_ne ag]; exact ha⟩⟩
      rcases List.mem_append.mp hx
          with hx | hx
      · exact co x hx
      · rw [List.mem_singleton.mp hx]; exact hc
    rintro _ h2 ⟨cs, rfl, cl, co, kd2, ha2⟩
    simp only [v_fixi, rngL_length] at cl
    have cl2 : cs.length ≤ 100 := by omega
    try simp [-v_rB]
    rw [v_rB]
    simp [-v_rB]
    obtain ⟨db, eb⟩ := kd2.dr
    refine take_L (by omega) C (by decide) eb fun pick d2 p1 => ?_
    rw [v_rB]
    simp [-v_rB, n14]
    refine take_L (by omega) C (by omega) put_self fun go d3 g1 => ?_
    rw [v_rB]
    have ha3 : ∀ d : List Int, put h2 g (.lst (iL d)) a = some (.lst (bs.map bD)) := fun d => by rw [put_ne ag]; exact ha2
    have cap : (bs.map bD).length < 16777216 := by rw [List.length_map]; omega
    have fin : ∀ (j : Jmp) (d : List Int), j.Ok half many (deep + 1) size → N [some (.loc g), some (.int many), some (.int size), some (.int half), some (.int most), some (.int (deep : Nat)), some (.loc a), some (.int i), some (.tup (cs.map Cmd.d)), some (.int pick), some j.d, none, none] (put (put h2 g (.lst (iL d))) a (.lst (bs.map bD ++ [.tup [.tup (cs.map Cmd.d), j.d]]))) := fun j d hj => by
      refine hN _ _ ⟨bs ++ [(cs, j)], _, _, _, _, by simp [bl], fun b hb => ?_, (kd2.take _).own na ag _, ?_, rfl⟩
      · rcases List.mem_append.mp hb
            with hb | hb
        · exact bo b hb
        · rw [List.mem_singleton.mp hb]; exact ⟨co, hj, cl2⟩
      · rw [put_self]; simp [bD]
    have cap2 : bs.length < 16777216 := by omega
    by_cases z : (pick : Int) = 0
    · have z' : pick = 0 := by omega
      subst z'
      simp [-v_rB, n15]
      rw [v_rB]
      simp [-v_rB]
      rw [v_rB]
      simp [ha3, cap2]
      exact fin .halt d3 trivial
    · have z' : ¬ pick = 0 := by omega
      by_cases z2 : (2 : Int) < pick
      · simp [-v_rB, z']
        rw [v_rB]
        simp [-v_rB, z2, n16]
        refine core_expr_i C hh deep (by omega) put_self fun e d4 he => ?_
        try simp [-v_rB]
        refine take_L (by omega) C (by omega) put_self fun x d5 x1 => ?_
        try simp [-v_rB]
        refine take_L (by omega) C (by omega) put_self fun y d6 y1 => ?_
        simp [-v_rB]
        rw [v_rB]
        simp [ha3, cap2]
        exact fin (.test e x y) d6 ⟨he, by omega, by omega⟩
      · simp [-v_rB, z']
        rw [v_rB]
        simp [-v_rB, z2]
        rw [v_rB]
        simp [ha3, cap2]
        exact fin (.goto go) d3 (by simp only [Jmp.Ok]; omega)
  · rintro env h' ⟨bs, o7, o8, o9, o10, bl, bo, kd, ha, rfl⟩
    simp only [rngL_length] at bl
    have bl2 : bs.length = size := by simpa using bl
    simp [ha]
    obtain ⟨dz, hz⟩ := kd.exit
    exact someQ_s hz (q ⟨many, bs⟩ dz ⟨fun b hb => by rw [bl2]; exact bo b hb, by rw [bl2]; exact hs, by rw [bl2]; exact hs2, by omega⟩ rfl bl2)
end
end Cor
end Py
namespace Py
open PySem (Str)
def c_collected_cells : Fn := ⟨3, 6, (.cons (.asg (.nm 3) (.call "cells_come_to" (.cons (.var 0) (.cons (.var 1) (.cons (.var 2) .nil))))) (.cons (.ret (.b1 .tup (.comp (.nm 5) (.rng1 (.b1 .len (.var 0))) [4, 5] (.ite (.cmp .inn (.var 5) (.var 3)) (.ix (.var 0) (.var 5)) (.lit .non))))) .nil))⟩
def c_free_cell : Fn := ⟨1, 1, (.cons (.ret (.ite (.cmp .inn (.lit .non) (.var 0)) (.mt .index (.var 0) (.cons (.lit .non) .nil)) (.lit .non))) .nil)⟩
def c_marks_of : Fn := ⟨2, 4, (.cons (.ret (.b1 .tup (.comp (.nm 3) (.rng1 (.var 1)) [2, 3] (.b1 .int (.cmp .inn (.var 3) (.var 0)))))) .nil)⟩
def c_marked_more : Fn := ⟨3, 7, (.cons (.asg (.nm 3) (.b1 .lst (.var 1))) (.cons (.for_ (.nm 4) (.seq (.var 1)) (.cons (.aug 3 .add (.compi (.nm 6) (.seq (.call "cells_among" (.cons (.call "items_of_cell" (.cons (.var 0) (.cons (.var 4) .nil))) (.cons (.var 2) .nil)))) [5, 6] (.cmp .nin (.var 6) (.var 3)) (.var 6))) .nil)) (.cons (.ret (.var 3)) .nil)))⟩
def c_marks_by_rounds : Fn := ⟨3, 6, (.cons (.asg (.nm 3) (.call "cells_among" (.cons (.var 1) (.cons (.var 2) .nil)))) (.cons (.asg (.nm 4) (.lst (.cons (.call "marks_of" (.cons (.var 3) (.cons (.b1 .len (.var 0)) .nil))) .nil))) (.cons (.asg (.nm 5) (.call "marked_more" (.cons (.var 0) (.cons (.var 3) (.cons (.var 2) .nil))))) (.cons (.whl (.cmp .gt (.b1 .len (.var 5)) (.b1 .len (.var 3))) (.cons (.asg (.nm 3) (.var 5)) (.cons (.expr (.mt .append (.var 4) (.cons (.call "marks_of" (.cons (.var 3) (.cons (.b1 .len (.var 0)) .nil))) .nil))) (.cons (.asg (.nm 5) (.call "marked_more" (.cons (.var 0) (.cons (.var 3) (.cons (.var 2) .nil))))) .nil)))) (.cons (.ret (.b1 .tup (.var 4))) .nil)))))⟩
/-- a set that has all that are come to -/
def Clo (half : Nat) (cs : Cs) (vs : List Nat) (fs : List Int) : Prop := (∀ x ∈ fs, InR cs.length x) ∧ (∀ r ∈ refs half vs, (r : Int) ∈ fs) ∧ ∀ x ∈ fs, ∀ r ∈ refs half (itms cs x.toNat), (r : Int) ∈ fs
theorem insL_mem0 {ys : List Nat} {y : Nat} : y ∈ insL [] ys ↔ y ∈ ys := by rw [insL_mem]; simp
section
variable {half : Nat} {cs : Cs} {vs : List Nat}
theorem bfs_up {k : Nat} : ∀ {j c : Nat}, c ∈ bfs half cs vs k → c ∈ bfs half cs vs (k + j)
  | 0, c, h => h
  | j + 1, c, h => by
    have := bfs_up (j := j) h
    show c ∈ step1 _ _ _ _
    unfold step1
    split
    · exact insL_mem.mpr (.inl this)
    · exact this
theorem bfs_sub (W : Wc half cs vs) {k c : Nat} (h : c ∈ bfs half cs vs k) : c ∈ fin half cs vs := by
  by_cases hk : k ≤ cs.length
  · obtain ⟨j, e⟩ := Nat.exists_eq_add_of_le hk
    unfold fin
    rw [e]
    exact bfs_up h
  · obtain ⟨j, e⟩ := Nat.exists_eq_add_of_le (show cs.length ≤ k by omega)
    rw [e, bfs_stay (bfs_len W cs.length)] at h
    exact h
theorem bfs_pre {k : Nat} : ∀ {j : Nat}, ∃ e, bfs half cs vs (k + j) = bfs half cs vs k ++ e
  | 0 => ⟨[], by simp⟩
  | j + 1 => by
    obtain ⟨e, h⟩ := bfs_pre (k := k) (j := j)
    show ∃ e, step1 half cs (bfs half cs vs (k + j)) (k + j) = _
    unfold step1
    split
    · obtain ⟨e2, h2⟩ := insL_pre (xs := bfs half cs vs (k + j)) (ys := refs half (itms cs (gn (bfs half cs vs (k + j)) (k + j))))
      exact ⟨e ++ e2, by rw [h2, h, List.append_assoc]⟩
    · exact ⟨e, h⟩
theorem fin_closed (W : Wc half cs vs) {c : Nat} (h : c ∈ fin half cs vs) : ∀ r ∈ refs half (itms cs c), r ∈ fin half cs vs := by
  intro r hr
  obtain ⟨j, hj, e⟩ := List.mem_iff_getElem.mp h
  have hn : j < cs.length := Nat.lt_of_lt_of_le hj (bfs_len W _)
  obtain ⟨i, ei⟩ := Nat.exists_eq_add_of_le (Nat.le_of_lt hn)
  have hjl : j < (bfs half cs vs j).length := by
    by_cases z : j < (bfs half cs vs j).length
    · exact z
    · have := bfs_fin W (show (bfs half cs vs j).length ≤ j by omega)
      rw [← this] at hj
      omega
  have eg : gn (bfs half cs vs j) j = c := by
    obtain ⟨e2, h2⟩ := bfs_pre (half := half) (cs := cs) (vs := vs) (k := j) (j := i)
    rw [← ei] at h2
    have : gn (fin half cs vs) j = c := by rw [gn_get hj, e]
    unfold fin at this
    rw [h2, gn_left hjl] at this
    exact this
  refine bfs_sub W (k := j + 1) ?_
  show r ∈ step1 _ _ _ _
  unfold step1
  rw [if_pos hjl, eg]
  exact insL_mem.mpr (.inr hr)
theorem fin_refs (W : Wc half cs vs) : ∀ r ∈ refs half vs, r ∈ fin half cs vs := fun r hr => bfs_sub W (k := 0) (insL_mem0.mpr hr)
theorem fin_ok (W : Wc half cs vs) : ∀ c ∈ fin half cs vs, c < cs.length ∧ cs[c]?.getD none ≠ none := (bfs_ok W _).2
/-- the cells come to, ascending -/
def due (half : Nat) (cs : Cs) (vs : List Nat) : List Int := sortI ((fin half cs vs).map fun (x : Nat) => (x : Int))
theorem due_mem {c : Nat} : (c : Int) ∈ due half cs vs ↔ c ∈ fin half cs vs := by unfold due; rw [sortI_mem, nL_in]
theorem due_nat {x : Int} (h : x ∈ due half cs vs) : ∃ c : Nat, x = c ∧ c ∈ fin half cs vs := by
  unfold due at h
  rw [sortI_mem, List.mem_map] at h
  obtain ⟨c, hc, e⟩ := h
  exact ⟨c, e.symm, hc⟩
theorem due_clo (W : Wc half cs vs) : Clo half cs vs (due half cs vs) := by
  refine ⟨fun x hx => ?_, fun r hr => due_mem.mpr (fin_refs W r hr), fun x hx r hr => ?_⟩
  · obtain ⟨c, rfl, hc⟩ := due_nat hx
    have := (fin_ok W c hc).1
    constructor <;> omega
  · obtain ⟨c, rfl, hc⟩ := due_nat hx
    exact due_mem.mpr (fin_closed W hc r hr)
theorem due_len (W : Wc half cs vs) : (due half cs vs).length ≤ cs.length := by
  unfold due
  rw [sortI_len, List.length_map]
  exact bfs_len W _
/-- the others freed -/
def left (half : Nat) (cs : Cs) (vs : List Nat) : Cs := (List.range cs.length).map fun c => if c ∈ fin half cs vs then cs[c]?.getD none else none
theorem left_len : (left half cs vs).length = cs.length := by simp [left]
theorem left_at {c : Nat} (h : c < cs.length) : (left half cs vs)[c]?.getD none = if c ∈ fin half cs vs then cs[c]?.getD none else none := by
  unfold left
  rw [List.getElem?_map, List.getElem?_eq_getElem (by simpa using h), List.getElem_range]
  rfl
theorem left_itms (W : Wc half cs vs) {c : Nat} (h : c ∈ fin half cs vs) : itms (left half cs vs) c = itms cs c := by
  unfold itms
  rw [left_at (fin_ok W c h).1, if_pos h]
theorem left_bfs (W : Wc half cs vs) : ∀ k, bfs half (left half cs vs) vs k = bfs half cs vs k
  | 0 => rfl
  | k + 1 => by
    show step1 _ _ _ _ = step1 _ _ _ _
    rw [left_bfs W k]
    unfold step1
    split
    · rename_i hk
      rw [left_itms W (bfs_sub W (k := k) (by rw [gn_get hk]; exact List.getElem_mem hk))]
    · rfl
theorem left_fin (W : Wc half cs vs) : fin half (left half cs vs) vs = fin half cs vs := by
  unfold fin
  rw [left_len, left_bfs W]
theorem left_W (W : Wc half cs vs) : Wc half (left half cs vs) vs := by
  have key : ∀ c, c ∈ fin half cs vs → c < (left half cs vs).length ∧ (left half cs vs)[c]?.getD none ≠ none := fun c hc => by
    obtain ⟨h1, h2⟩ := fin_ok W c hc
    rw [left_len]
    exact ⟨h1, by rw [left_at h1, if_pos hc]; exact h2⟩
  refine ⟨fun c hc => key c (fin_refs W c hc), fun k hk c hc => ?_, W.lv, by rw [left_len]; exact W.lc⟩
  rw [left_len] at hk
  by_cases hf : k ∈ fin half cs vs
  · rw [left_itms W hf] at hc
    exact key c (fin_closed W hf c hc)
  · unfold itms at hc
    rw [left_at hk, if_neg hf] at hc
    simp [itm, refs] at hc
theorem left_left (W : Wc half cs vs) : left half (left half cs vs) vs = left half cs vs := by
  show (List.range (left half cs vs).length).map (fun c => if c ∈ fin half (left half cs vs) vs then (left half cs vs)[c]?.getD none else none) = (List.range cs.length).map _
  rw [left_fin W, left_len]
  apply List.map_congr_left
  intro c hc
  rw [List.mem_range] at hc
  simp only [left_at hc]
  by_cases hf : c ∈ fin half cs vs
  · simp only [if_pos hf]
  · simp only [if_neg hf]
end
/-! ### the least free one -/
def fcv (cs : Cs) : D := match idx (csD cs) .non with
  | some j => .int j
  | none => .non
theorem csD_pu (cs : Cs) : (csD cs).all (pu 40) = true := by
  rw [List.all_eq_true]
  intro d hd
  simp only [csD, List.mem_map] at hd
  obtain ⟨o, _, rfl⟩ := hd
  cases o <;> rfl
theorem fc_in (cs : Cs) (h : AH) : cmpD .inn (.v .non) (.v (.tup (csD cs))) h = some ((csD cs).any fun z => eqv z .non) := by
  show inD (.v .non) (.v (.tup (csD cs))) h = _
  unfold inD
  simp only [s_tupV]
  rw [csD_pu]
  rfl
theorem fc_idx (cs : Cs) (h : AH) (he : (csD cs).any (fun z => eqv z .non) = true) : ∃ j : Nat, mtD .index (.v (.tup (csD cs))) [.non] h = some (.v (.int j), h) ∧ fcv cs = .int j := by
  unfold mtD fcv
  simp only [s_tupV]
  rw [csD_pu]
  cases e : idx (csD cs) .non with
  | some j => exact ⟨j, by simp [pu], rfl⟩
  | none =>
    unfold idx at e
    rw [List.findIdx?_eq_none_iff] at e
    obtain ⟨x, hx, h2⟩ := List.any_eq_true.mp he
    rw [e x hx] at h2
    cases h2
theorem fc_non (cs : Cs) (he : (csD cs).any (fun z => eqv z .non) = false) : fcv cs = .non := by
  unfold fcv
  cases e : idx (csD cs) .non with
  | some j =>
    unfold idx at e
    obtain ⟨h1, h2, _⟩ := List.findIdx?_eq_some_iff_getElem.mp e
    have : (csD cs).any (fun z => eqv z .non) = true := List.any_eq_true.mpr ⟨_, List.getElem_mem h1, h2⟩
    rw [he] at this
    cases this
  | none => rfl
theorem sm_fcv (cs : Cs) : sm 1 (fcv cs) = true := by
  unfold fcv
  split <;> rfl
theorem sm_csD {cs : Cs} (h : cs.length ≤ 1000) : sm 2 (.tup (csD cs)) = true := by
  simp only [sm, Bool.and_eq_true, decide_eq_true_eq, List.all_eq_true]
  refine ⟨by rw [csD_len]; omega, fun x hx => ?_⟩
  simp only [csD, List.mem_map] at hx
  obtain ⟨o, _, rfl⟩ := hx
  cases o <;> rfl
/-! ### marks -/
def mk (S : List Nat) (n : Nat) : List Int := (List.range n).map fun c => if c ∈ S then 1 else 0
theorem mk_congr {S T : List Nat} {n : Nat} (h : ∀ c, c ∈ S ↔ c ∈ T) : mk S n = mk T n := by
  unfold mk
  apply List.map_congr_left
  intro c _
  simp only [h c]
theorem mk_ne {S T : List Nat} {n c : Nat} (hc : c < n) (h1 : c ∉ S) (h2 : c ∈ T) : mk S n ≠ mk T n := by
  intro e
  have := congrArg (fun l => l[c]?) e
  simp [mk, hc, h1, h2] at this
theorem insL_filter {xs : List Nat} : ∀ {ys : List Nat}, ys.Nodup → insL xs ys = xs ++ ys.filter fun y => decide (y ∉ xs) := by
  intro ys
  induction ys generalizing xs with
  | nil => intro _; simp [insL]
  | cons y ys ih =>
    intro nd
    obtain ⟨n1, n2⟩ :=
        List.nodup_cons.mp nd
    show insL (ins1 xs y) ys = _
    rw [ih n2]
    unfold ins1
    by_cases h : y ∈ xs
    · rw [if_pos h, List.filter_cons]
      simp [h]
    · rw [if_neg h, List.filter_cons]
      simp only [h, not_false_eq_true, decide_true, if_true, List.append_assoc, List.singleton_append]
      congr 2
      apply List.filter_congr
      intro z hz
      have : z ≠ y := fun e => n1 (e ▸ hz)
      simp [this]
def mmr (half : Nat) (cs : Cs) (acc found : List Nat) : List Nat := found.foldl (fun acc c => insL acc (refs half (itms cs c))) acc
theorem mmr_snoc {half : Nat} {cs : Cs} {acc found : List Nat} {c : Nat} : mmr half cs acc (found ++ [c]) = insL (mmr half cs acc found) (refs half (itms cs c)) := by simp [mmr]
theorem mmr_mem {half : Nat} {cs : Cs} {y : Nat} : ∀ {found acc : List Nat}, y ∈ mmr half cs acc found ↔ y ∈ acc ∨ ∃ c ∈ found, y ∈ refs half (itms cs c)
  | [], acc => by simp [mmr]
  | c :: found, acc => by
    show y ∈ mmr half cs (insL acc _) found ↔ _
    rw [mmr_mem (found := found), insL_mem]
    simp [or_assoc]
theorem mmr_nd {half : Nat} {cs : Cs} : ∀ {found acc : List Nat}, acc.Nodup → (mmr half cs acc found).Nodup
  | [], acc, h => h
  | c :: found, acc, h => mmr_nd (found := found) (insL_nd h)
theorem mmr_pre {half : Nat} {cs : Cs} : ∀ {found acc : List Nat}, ∃ e, mmr half cs acc found = acc ++ e
  | [], acc => ⟨[], by simp [mmr]⟩
  | c :: found, acc => by
    obtain ⟨e1, h1⟩ := insL_pre (xs := acc) (ys := refs half (itms cs c))
    obtain ⟨e2, h2⟩ := mmr_pre (half := half) (cs := cs) (found := found) (acc := insL acc (refs half (itms cs c)))
    exact ⟨e1 ++ e2, by show mmr half cs (insL acc _) found = _; rw [h2, h1, List.append_assoc]⟩
def rnd (half : Nat) (cs : Cs) (vs : List Nat) : Nat → List Nat
  | 0 => insL [] (refs half vs)
  | k + 1 => mmr half cs (rnd half cs vs k) (rnd half cs vs k)
section
variable {half : Nat} {cs : Cs} {vs : List Nat}
theorem rnd_ok (W : Wc half cs vs) : ∀ k, (rnd half cs vs k).Nodup ∧ ∀ c ∈ rnd half cs vs k, c < cs.length ∧ cs[c]?.getD none ≠ none
  | 0 => bfs_ok W 0
  | k + 1 => by
    obtain ⟨nd, ok⟩ := rnd_ok W k
    refine ⟨mmr_nd nd, fun c hc => ?_⟩
    rcases mmr_mem.mp hc with h | ⟨d, hd, h⟩
    · exact ok c h
    · exact W.c d (ok d hd).1 c h
theorem rnd_len (W : Wc half cs vs) (k : Nat) : (rnd half cs vs k).length ≤ cs.length := nd_len (rnd_ok W k).1 fun x hx => ((rnd_ok W k).2 x hx).1
theorem rnd_up (k : Nat) : (rnd half cs vs k).length ≤ (rnd half cs vs (k + 1)).length := by
  obtain ⟨e, h⟩ := mmr_pre (half := half) (cs := cs) (found := rnd half cs vs k) (acc := rnd half cs vs k)
  show _ ≤ (mmr _ _ _ _).length
  rw [h, List.length_append]
  omega
theorem rnd_eq {k : Nat} (hl : (rnd half cs vs (k + 1)).length ≤ (rnd half cs vs k).length) : rnd half cs vs (k + 1) = rnd half cs vs k := by
  obtain ⟨e, h⟩ := mmr_pre (half := half) (cs := cs) (found := rnd half cs vs k) (acc := rnd half cs vs k)
  have h' : rnd half cs vs (k + 1) = rnd half cs vs k ++ e := h
  rw [h', List.length_append] at hl
  have : e = [] := List.eq_nil_of_length_eq_zero (by omega)
  rw [h', this, List.append_nil]
theorem rnd_stay {k : Nat} (h : rnd half cs vs (k + 1) = rnd half cs vs k) : ∀ j, rnd half cs vs (k + j) = rnd half cs vs k
  | 0 => rfl
  | j + 1 => by
    show mmr half cs (rnd half cs vs (k + j)) (rnd half cs vs (k + j)) = _
    rw [rnd_stay h j]
    exact h
/-- the last round that alters -/
structure Last (half : Nat) (cs : Cs) (vs : List Nat) (m : Nat) : Prop where
  up : ∀ j, j < m → (rnd half cs vs j).length < (rnd half cs vs (j + 1)).length
  st : (rnd half cs vs (m + 1)).length ≤ (rnd half cs vs m).length
theorem Last.le (W : Wc half cs vs) {m : Nat} (up : ∀ j, j < m → (rnd half cs vs j).length < (rnd half cs vs (j + 1)).length) : m ≤ cs.length := by
  have : ∀ j, j ≤ m → j ≤ (rnd half cs vs j).length := by
    intro j
    induction j with
    | zero => intro _; omega
    | succ j ih =>
      intro hj
      have h1 := ih (by omega)
      have h2 := up j (by omega)
      omega
  have h1 := this m (Nat.le_refl _)
  have h2 := rnd_len W m
  omega
def rws (half : Nat) (cs : Cs) (vs : List Nat) (m : Nat) : List D := (List.range m).map fun i => .tup (iL (mk (rnd half cs vs i) cs.length))
theorem rws_s {m : Nat} : rws half cs vs (m + 1) = rws half cs vs m ++ [.tup (iL (mk (rnd half cs vs m) cs.length))] := by simp [rws, List.range_succ]
theorem rws_len {m : Nat} : (rws half cs vs m).length = m := by simp [rws]
theorem mk_len {S : List Nat} {n : Nat} : (mk S n).length = n := by simp [mk]
theorem sm_rws {m : Nat} (hm : m ≤ 2000) (hc : cs.length ≤ 1000) : sm 2 (.tup (rws half cs vs m)) = true := by
  simp only [sm, Bool.and_eq_true, decide_eq_true_eq, List.all_eq_true]
  refine ⟨by rw [rws_len]; omega, fun x hx => ?_⟩
  simp only [rws, List.mem_map] at hx
  obtain ⟨i, _, rfl⟩ := hx
  exact sm_iL (k := 0) (by rw [mk_len]; omega)
end
end Py
namespace Py
open PySem (Str)
structure Col (P : Prog) : Prop extends Cel P where
  jct : P.fn "judge_come_to" = some c_judge_come_to
  cc : P.fn "collected_cells" = some c_collected_cells
  fc : P.fn "free_cell" = some c_free_cell
  mo : P.fn "marks_of" = some c_marks_of
  mm : P.fn "marked_more" = some c_marked_more
  mr : P.fn "marks_by_rounds" = some c_marks_by_rounds
/-- is it between -/
theorem chain_in {cal : Cal} {G : Str → Option D} {env : Env} {h : AH} {X : Xc} {f w : Int} {k : D → AH → Prop} (hk : k (.bl (decide (InR f w))) h) : gd (cmpD .le (.v (.int 0)) (.v (.int w)) h) (fun b => if b = true then gd (cmpD .lt (.v (.int w)) (.v (.int f)) h) (fun b2 => k (.bl b2) h) else k (.bl false) h) := by
  unfold InR at hk
  simp
  by_cases z : 0 ≤ w
  · simp [z] at hk ⊢
    exact hk
  · simp [z] at hk ⊢
    exact hk
theorem map_flat {α β γ : Type} (f : α → List β) (g : β → γ) (xs : List α) : (xs.map fun x => (f x).map g).flatten = ((xs.map f).flatten).map g := by
  induction xs with
  | nil => rfl
  | cons x r ih => simp [ih]
section
variable {P : Prog} {n : Nat} {h : AH} {Q : D → AH → Prop} {X : Xc} {w : Nat} {cs : Cs}
theorem judge_come_to_i (C : Col P) (h1 : 1 ≤ w) (hw : w ≤ 1000000) {vs : List Nat} (hv : vs.length ≤ 100000) (hc : cs.length ≤ 100000) {fs : List Int} (hl : fs.length ≤ 100000) (q : ∀ b : Bool, (b = true ↔ Clo (hf2 w) cs vs fs) → Q (.bl b) h) : wC P (n + 5) "judge_come_to" [.tup (csD cs), .tup (nL vs), .tup (iL fs), .int w] h Q X := by
  refine wC_i C.jct rfl ?_
  simp only [c_judge_come_to, v_start, List.replicate, List.length_cons, List.length_nil, List.map_cons, List.map_nil, List.cons_append, List.nil_append]
  simp [-v_rB]
  refine comp_m (fun x => .bl (decide (InR cs.length (dI x)))) trivial (by simp [iL_len]; omega) (fun x hx k hk => ?_) ?_
  · obtain ⟨y, _, rfl⟩ := iL_mem (by simpa using hx)
    have hk' : k (.bl (decide (InR cs.length y))) h := hk
    unfold InR at hk'
    simp [wipe]
    by_cases z : 0 ≤ y
    · simp [z] at hk' ⊢
      exact hk'
    · simp [z] at hk' ⊢
      exact hk'
  rw [v_fixi, all_p]
  simp [-v_rB]
  cases ha : allP (fun x => decide (InR cs.length (dI x))) (iL fs) with
  | false =>
    simp
    refine someQ_i (q false ⟨fun z => (by cases z), fun z => ?_⟩)
    rw [← ha, allP_iff]
    intro x hx
    obtain ⟨y, hy, rfl⟩ := iL_mem hx
    exact decide_eq_true (z.1 y hy)
  | true =>
    rw [allP_iff] at ha
    have ca : ∀ x ∈ fs, InR cs.length x := fun x hx => of_decide_eq_true (ha (.int x) (by simp [iL, hx]))
    simp [-v_rB]
    rw [v_rB]
    simp [-v_rB]
    refine cells_among_i C.toCel h1 hw hv fun a na => ?_
    simp [-v_rB]
    have al : ∀ vs : List Nat, vs.length ≤ 100000 → (insL [] (refs (hf2 w) vs)).length ≤ 100000 := fun vs hv => by
      have l1 := insL_len (B := 0) (xs := []) (ys := refs (hf2 w) vs)
      have l2 := refs_len (half := hf2 w) (vs := vs)
      simp only [List.length_nil] at l1
      omega
    refine comp_m (fun x => .bl (decide (dI x ∈ fs))) put_self (by simp; have := al vs hv; omega) (fun x hx k hk => ?_) ?_
    · obtain ⟨y, _, rfl⟩ := nL_mem (by simpa using hx)
      simp [wipe, k_in]
      exact hk
    rw [v_lsti, all_p]
    simp [-v_rB]
    cases hb : allP (fun x => decide (dI x ∈ fs)) (nL (insL [] (refs (hf2 w) vs))) with
    | false =>
      simp
      refine someQ_s (sub_put na) (q false ⟨fun z => (by cases z), fun z => ?_⟩)
      rw [← hb, allP_iff]
      intro x hx
      obtain ⟨y, hy, rfl⟩ := nL_mem hx
      exact decide_eq_true (z.2.1 y (insL_mem0.mp hy))
    | true =>
      rw [allP_iff] at hb
      have cb : ∀ r ∈ refs (hf2 w) vs, (r : Int) ∈ fs := fun r hr => of_decide_eq_true (hb (.int r) (by simp only [nL, List.mem_map]; exact ⟨r, insL_mem0.mpr hr, rfl⟩))
      simp [-v_rB]
      rw [v_rB]
      simp [-v_rB]
      have sumb : ∀ xs : List Int, ((xs.map fun x => (insL [] (refs (hf2 w) (itms cs x.toNat)))).flatten).length ≤ xs.length * 2 := by
        intro xs
        induction xs with
        | nil => simp
        | cons x r ih =>
          have l1 := insL_len (B := 0) (xs := []) (ys := refs (hf2 w) (itms cs x.toNat))
          have l2 := refs_len (half := hf2 w) (vs := itms cs x.toNat)
          have l3 := itm_len (o := cs[x.toNat]?.getD none)
          simp only [List.length_nil] at l1
          unfold itms at l1 l2 ih ⊢
          simp only [List.map_cons, List.flatten_cons, List.length_append, List.length_cons]
          omega
      have ef : (iL fs).map (fun x => (insL [] (refs (hf2 w) (itms cs (dI x).toNat))).map fun (r : Nat) => D.bl (decide ((r : Int) ∈ fs))) = fs.map fun x => (insL [] (refs (hf2 w) (itms cs x.toNat))).map fun (r : Nat) => D.bl (decide ((r : Int) ∈ fs)) := by
        simp [iL, Function.comp_def]
      refine comp2_s (h0 := h) (fun x => (insL [] (refs (hf2 w) (itms cs (dI x).toNat))).map fun (r : Nat) => .bl (decide ((r : Int) ∈ fs))) (sub_put na) (fun _ _ => trivial) ?_ (fun x hx h' sb => ?_) ?_
      · rw [v_fixi, ef, map_flat, List.length_map]
        have := sumb fs
        omega
      · obtain ⟨y, hy, rfl⟩ := iL_mem (by simpa using hx)
        obtain ⟨y0, y1⟩ := ca y hy
        obtain ⟨c, rfl⟩ := Int.eq_ofNat_of_zero_le y0
        simp [wipe]
        refine items_of_cell_i C.toCel (by omega) ?_
        try simp
        have l3 := itm_len (o := cs[c]?.getD none)
        refine cells_among_i C.toCel h1 hw (by unfold itms; omega) fun b nb => ?_
        simp
        refine ⟨sb.new nb, put_self, fun y => .bl (decide (dI y ∈ fs)), by simp [nL, Function.comp_def]; intros; congr, fun y hy k hk => ?_⟩
        obtain ⟨r, _, rfl⟩ := nL_mem hy
        simp [wipe, k_in]
        exact hk
      · intro h' sb
        rw [v_fixi, ef, map_flat, all_p]
        simp
        refine someQ_s sb (q _ ?_)
        rw [allP_iff]
        constructor
        · intro z
          refine ⟨ca, cb, fun x hx r hr => of_decide_eq_true (z r ?_)⟩
          rw [List.mem_flatten]
          exact ⟨_, List.mem_map.mpr ⟨x, hx, rfl⟩, insL_mem0.mpr hr⟩
        · intro z r hr
          rw [List.mem_flatten] at hr
          obtain ⟨ys, hy, hr⟩ := hr
          obtain ⟨x, hx, rfl⟩ := List.mem_map.mp hy
          exact decide_eq_true (z.2.2 x hx r (insL_mem0.mp hr))
theorem collected_g (C : Cel P) (hcc : P.fn "collected_cells" = some c_collected_cells) (h1 : 1 ≤ w) (hw : w ≤ 1000000) {vs : List Nat} (W : Wc (hf2 w) cs vs) (q : Q (.tup (csD (left (hf2 w) cs vs))) h) : wC P (n + 7) "collected_cells" [.tup (csD cs), .tup (nL vs), .int w] h Q X := by
  have lc := W.lc
  refine wC_i hcc rfl ?_
  have s1 : small62 (cs.length : Int) = true := by simp [small62]; omega
  simp [c_collected_cells, List.replicate]
  refine cells_come_to_i C h1 hw W ?_
  simp [s1]
  refine comp_m (fun x => cD (if (dI x).toNat ∈ fin (hf2 w) cs vs then cs[(dI x).toNat]?.getD none else none)) trivial (by simp; omega) (fun x hx k hk => ?_) ?_
  · obtain ⟨c, hc, rfl⟩ := rngL_mem hx
    have e : ((c : Int) ∈ sortI ((fin (hf2 w) cs vs).map fun (x : Nat) => (x : Int))) ↔ c ∈ fin (hf2 w) cs vs := due_mem
    simp [wipe, k_in, e]
    simp only [Int.zero_add, dI_int, Int.toNat_natCast] at hk
    by_cases z : c ∈ fin (hf2 w) cs vs
    · rw [if_pos z] at hk
      simp [z, csD_at hc]
      exact hk
    · rw [if_neg z] at hk
      simp [z]
      exact hk
  · have e : (rngL 0 cs.length).map (fun x => cD (if (dI x).toNat ∈ fin (hf2 w) cs vs then cs[(dI x).toNat]?.getD none else none)) = csD (left (hf2 w) cs vs) := by
      simp [rngL, csD, left, Function.comp_def]
      intros; congr
    simp only [v_fixi, e, n_tup_o, gd_some, rv_v]
    exact someQ_i q
theorem collected_cells_i (C : Col P) (h1 : 1 ≤ w) (hw : w ≤ 1000000) {vs : List Nat} (W : Wc (hf2 w) cs vs) (q : Q (.tup (csD (left (hf2 w) cs vs))) h) : wC P (n + 7) "collected_cells" [.tup (csD cs), .tup (nL vs), .int w] h Q X := collected_g C.toCel C.cc h1 hw W q
theorem free_g (hf : P.fn "free_cell" = some c_free_cell) (q : Q (fcv cs) h) : wC P (n + 1) "free_cell" [.tup (csD cs)] h Q X := by
  refine wC_i hf rfl ?_
  cases he : (csD cs).any (fun z => eqv z .non) with
  | false =>
    have hin := fc_in cs h
    rw [he] at hin
    rw [fc_non cs he] at q
    simp [c_free_cell, hin]
    exact someQ_i q
  | true =>
    have hin := fc_in cs h
    rw [he] at hin
    obtain ⟨j, e1, e2⟩ := fc_idx cs h he
    rw [e2] at q
    simp [c_free_cell, hin, mtChk, e1]
    exact someQ_i q
theorem free_cell_i (C : Col P) (q : Q (fcv cs) h) : wC P (n + 1) "free_cell" [.tup (csD cs)] h Q X := free_g C.fc q
theorem marks_of_i (C : Col P) {a : Nat} {S : List Nat} {m : Nat} (ha : h a = some (.lst (nL S))) (hm : m ≤ 100000) (q : Q (.tup (iL (mk S m))) h) : wC P (n + 1) "marks_of" [.loc a, .int m] h Q X := by
  have s1 : small62 (m : Int) = true := by simp [small62]; omega
  refine wC_i C.mo rfl ?_
  simp [c_marks_of, List.replicate, s1]
  refine comp_m (fun x => .int (if (dI x).toNat ∈ S then 1 else 0)) trivial (by simp; omega) (fun x hx k hk => ?_) ?_
  · obtain ⟨c, hc, rfl⟩ := rngL_mem hx
    simp [wipe, k_inNl ha]
    simpa using hk
  · have e : (rngL 0 m).map (fun x => D.int (if (dI x).toNat ∈ S then 1 else 0)) = iL (mk S m) := by simp [rngL, iL, mk, Function.comp_def]; intros; congr
    simp [e]
    exact someQ_i q
theorem marked_more_i (C : Col P) (h1 : 1 ≤ w) (hw : w ≤ 1000000) {a : Nat} {S : List Nat} (ha : h a = some (.lst (nL S))) (hS : ∀ c ∈ S, c < cs.length) (hl : S.length ≤ 1000) (q : ∀ b h', Sub h h' → h b = none → h' b = some (.lst (nL (mmr (hf2 w) cs S S))) → Q (.loc b) h') : wC P (n + 5) "marked_more" [.tup (csD cs), .loc a, .int w] h Q X := by
  refine wC_i C.mm rfl ?_
  simp [c_marked_more, List.replicate, ha]
  intro b nb
  have ba : b ≠ a := fun e => by rw [e, ha] at nb; cases nb
  simp [put_ne ba.symm, ha]
  refine for_l (fun i env h' => Sub h h' ∧ h' b = some (.lst (nL (mmr (hf2 w) cs S (S.take i)))) ∧ (mmr (hf2 w) cs S (S.take i)).length ≤ S.length + i * 2 ∧ ∃ o, env = [some (.tup (csD cs)), some (.loc a), some (.int w), some (.loc b), o, none, none]) ⟨sub_put nb, by simp [mmr], by simp [mmr], none, rfl⟩ (fun i e h' _ z => z.1 a _ ha) ?_ ?_
  · rintro i x env h' N hx ⟨sb, hb, hlen, o, rfl⟩ hN
    obtain ⟨c, hc, rfl⟩ : ∃ y, S[i]? = some y ∧ x = .int (y : Nat) := by
      simp only [nL, List.getElem?_map, Option.map_eq_some_iff] at hx
      obtain ⟨v, a, b⟩ := hx
      exact ⟨v, a, b.symm⟩
    have hi : i < S.length := (List.getElem?_eq_some_iff.mp hc).1
    have hcl : c < cs.length := hS c (List.mem_of_getElem? hc)
    simp
    refine items_of_cell_i C.toCel hcl ?_
    try simp
    have l3 := itm_len (o := cs[c]?.getD none)
    refine cells_among_i C.toCel h1 hw (by unfold itms; omega) fun d nd => ?_
    have db : d ≠ b := fun e => by rw [e, hb] at nd; cases nd
    simp
    have l1 := insL_len (B := 0) (xs := []) (ys := refs (hf2 w) (itms cs c))
    have l2 := refs_len (half := hf2 w) (vs := itms cs c)
    have nd2 : (insL [] (refs (hf2 w) (itms cs c))).Nodup := insL_nd List.nodup_nil
    have eM : mmr (hf2 w) cs S (S.take (i + 1)) = mmr (hf2 w) cs S (S.take i) ++ (insL [] (refs (hf2 w) (itms cs c))).filter fun y => decide (y ∉ mmr (hf2 w) cs S (S.take i)) := by
      rw [take_snoc hc, mmr_snoc, ← insL_filter nd2, insL_dd]
      rfl
    unfold itms at l1 l2
    simp only [List.length_nil] at l1
    generalize hM : mmr (hf2 w) cs S (S.take i) = M at *
    have hyl : (insL [] (refs (hf2 w) (itms cs c))).length ≤ 2 := by unfold itms; omega
    generalize insL [] (refs (hf2 w) (itms cs c)) = ys at *
    refine compi_m (fun x => decide ((dI x).toNat ∉ M)) (fun x => x) put_self (by simp; omega) (fun x hx k hk => ?_) ?_
    · obtain ⟨y, hy, rfl⟩ := nL_mem (by simpa using hx)
      have hb' : put h' d (.lst (nL ys)) b = some (.lst (nL M)) := by rw [put_ne db.symm]; exact hb
      simp [wipe, k_ninNl hb']
      by_cases z : y ∈ M
      · simp [z] at hk ⊢
        exact hk
      · simp [z] at hk ⊢
        exact hk
    · have ef : (((nL ys).filter fun x => decide ((dI x).toNat ∉ M)).map fun x => x) = nL (ys.filter fun y => decide (y ∉ M)) := by
        rw [List.map_id']
        unfold nL
        rw [List.filter_map]
        congr 1
      simp only [v_lsti, ef]
      have fl : (ys.filter fun y => decide (y ∉ M)).length ≤ 2 := Nat.le_trans (List.length_filter_le _ _) hyl
      have hb' : put h' d (.lst (nL ys)) b = some (.lst (nL M)) := by rw [put_ne db.symm]; exact hb
      have ll : (nL M).length + (nL (ys.filter fun y => decide (y ∉ M))).length ≤ 16777216 := by rw [nL_len, nL_len]; omega
      rw [u_ext hb' ll]
      simp
      refine hN _ _ ⟨(sb.new nd).put nb, ?_, ?_, _, rfl⟩
      · rw [put_self, eM]
        simp [nL]
      · rw [eM, List.length_append]
        omega
  · rintro env h' ⟨sb, hb, _, o, rfl⟩
    rw [nL_len, List.take_length] at hb
    simp
    exact someQ_i (q b h' sb nb hb)
end
end Py
namespace Py
open PySem (Str)
namespace Cor
/-! ### values -/
def nz (half x : Nat) : Nat := if x < half then x else 0
def bval (half : Nat) (s : Nm) (x y : Nat) : Nat :=
  if s = .same then (if x = y then 1 else 0) else if s = .less then (if nz half x < nz half y then 1 else 0) else if s = .plus then (nz half x + nz half y) % half else (nz half x + half - nz half y) % half
def uval (half : Nat) (cs : Cs) (s : Nm) (x : Nat) : Nat :=
  if s = .paired then (if x < half then 0 else 1) else if s = .first then (if x < half then 0 else gn (itms cs (x - half)) 0) else if x < half then 0 else gn (itms cs (x - half)) 1
def val (half : Nat) (vs : List Nat) (cs : Cs) : CE → Nat
  | .num n => n
  | .of v => gn vs v
  | .un s a => uval half cs s (val half vs cs a)
  | .bi s a b => bval half s (val half vs cs a) (val half vs cs b)
/-- a number, or a reference to a cell that is not free -/
def Gv (half : Nat) (cs : Cs) (x : Nat) : Prop := half ≤ x → x - half < cs.length ∧ cs[x - half]?.getD none ≠ none
structure Gs (half : Nat) (vs : List Nat) (cs : Cs) : Prop where
  v : ∀ i, i < vs.length → Gv half cs (gn vs i)
  c : ∀ k, k < cs.length → ∀ x ∈ itms cs k, Gv half cs x
theorem itms_two {cs : Cs} {c : Nat} (h : cs[c]?.getD none ≠ none) : ∃ a b, cs[c]?.getD none = some (a, b) ∧ itms cs c = [a, b] := by
  unfold itms
  cases e : cs[c]?.getD none with
  | none => exact absurd e h
  | some p => exact ⟨p.1, p.2, rfl, rfl⟩
theorem gv_lt {half x : Nat} {cs : Cs} (h : x < half) : Gv half cs x := fun z => absurd z (by omega)
theorem uval_g {half : Nat} {vs : List Nat} {cs : Cs} {s : Nm} {x : Nat} (h2 : 2 ≤ half) (g : Gs half vs cs) (hx : Gv half cs x) : Gv half cs (uval half cs s x) := by
  unfold uval
  by_cases z : x < half
  · simp only [z, if_true]
    split
    · exact gv_lt (by omega)
    · split <;> exact gv_lt (by omega)
  · simp only [z, if_false]
    obtain ⟨h3, h4⟩ := hx (by omega)
    obtain ⟨a, b, e1, e2⟩ := itms_two h4
    rw [e2]
    have gi := g.c _ h3
    rw [e2] at gi
    split
    · exact gv_lt (by omega)
    · split
      · exact gi a (by simp)
      · exact gi b (by simp)
theorem bval_lt {half : Nat} {s : Nm} {x y : Nat} (h2 : 2 ≤ half) : bval half s x y < half := by
  unfold bval
  split
  · split <;> omega
  · split
    · split <;> omega
    · split <;> exact Nat.mod_lt _ (by omega)
theorem val_g {half many : Nat} {vs : List Nat} {cs : Cs} (h2 : 2 ≤ half) (g : Gs half vs cs) (hv : many = vs.length) : ∀ e : CE, e.Ok half many → Gv half cs (val half vs cs e)
  | .num n, ok => gv_lt ok
  | .of v, ok => g.v v (by simp only [CE.Ok] at ok; omega)
  | .un s a, ok => uval_g h2 g (val_g h2 g hv a ok.2)
  | .bi s a b, ok => gv_lt (bval_lt h2)
def c_half_of : Fn := ⟨1, 1, (.cons (.ret (.bin .shl (.lit (.int 1)) (.bin .sub (.var 0) (.lit (.int 1))))) .nil)⟩
def c_number_or_zero : Fn := ⟨2, 2, (.cons (.ret (.ite (.cmp .lt (.var 1) (.var 0)) (.var 1) (.lit (.int 0)))) .nil)⟩
def c_item_referred_to : Fn := ⟨4, 4, (.cons (.ret (.ite (.cmp .lt (.var 1) (.var 0)) (.lit (.int 0)) (.ix (.ix (.var 2) (.bin .sub (.var 1) (.var 0))) (.var 3)))) .nil)⟩
def c_reckoned_in_core : Fn := ⟨4, 6, (.cons (.ifs (.cmp .eq (.var 1) (.lit (.str "same"))) (.cons (.ret (.ite (.cmp .eq (.var 2) (.var 3)) (.lit (.int 1)) (.lit (.int 0)))) .nil) .nil) (.cons (.asg (.tp (.cons (.nm 4) (.cons (.nm 5) .nil))) (.tup (.cons (.call "number_or_zero" (.cons (.var 0) (.cons (.var 2) .nil))) (.cons (.call "number_or_zero" (.cons (.var 0) (.cons (.var 3) .nil))) .nil)))) (.cons (.ifs (.cmp .eq (.var 1) (.lit (.str "less"))) (.cons (.ret (.ite (.cmp .lt (.var 4) (.var 5)) (.lit (.int 1)) (.lit (.int 0)))) .nil) .nil) (.cons (.ret (.ite (.cmp .eq (.var 1) (.lit (.str "plus"))) (.bin .mod (.bin .add (.var 4) (.var 5)) (.var 0)) (.bin .mod (.bin .sub (.var 4) (.var 5)) (.var 0)))) .nil))))⟩
def c_core_value : Fn := ⟨4, 5, (.cons (.ifs (.cmp .eq (.ix (.var 1) (.lit (.int 0))) (.lit (.str "number"))) (.cons (.ret (.ix (.var 1) (.lit (.int 1)))) .nil) .nil) (.cons (.ifs (.cmp .eq (.ix (.var 1) (.lit (.int 0))) (.lit (.str "of"))) (.cons (.ret (.ix (.var 2) (.ix (.var 1) (.lit (.int 1))))) .nil) .nil) (.cons (.asg (.nm 4) (.call "core_value" (.cons (.var 0) (.cons (.ix (.var 1) (.lit (.int 1))) (.cons (.var 2) (.cons (.var 3) .nil)))))) (.cons (.ifs (.cmp .eq (.ix (.var 1) (.lit (.int 0))) (.lit (.str "paired"))) (.cons (.ret (.ite (.cmp .lt (.var 4) (.var 0)) (.lit (.int 0)) (.lit (.int 1)))) .nil) .nil) (.cons (.ifs (.cmp .eq (.ix (.var 1) (.lit (.int 0))) (.lit (.str "first"))) (.cons (.ret (.call "item_referred_to" (.cons (.var 0) (.cons (.var 4) (.cons (.var 3) (.cons (.lit (.int 0)) .nil)))))) .nil) .nil) (.cons (.ifs (.cmp .eq (.ix (.var 1) (.lit (.int 0))) (.lit (.str "second"))) (.cons (.ret (.call "item_referred_to" (.cons (.var 0) (.cons (.var 4) (.cons (.var 3) (.cons (.lit (.int 1)) .nil)))))) .nil) .nil) (.cons (.ret (.call "reckoned_in_core" (.cons (.var 0) (.cons (.ix (.var 1) (.lit (.int 0))) (.cons (.var 4) (.cons (.call "core_value" (.cons (.var 0) (.cons (.ix (.var 1) (.lit (.int 2))) (.cons (.var 2) (.cons (.var 3) .nil))))) .nil)))))) .nil)))))))⟩
def c_core_goes_to : Fn := ⟨1, 1, (.cons (.ifs (.cmp .eq (.ix (.var 0) (.lit (.int 0))) (.lit (.str "goto"))) (.cons (.ret (.tup (.cons (.ix (.var 0) (.lit (.int 1))) .nil))) .nil) .nil) (.cons (.ret (.ite (.cmp .eq (.ix (.var 0) (.lit (.int 0))) (.lit (.str "test"))) (.tup (.cons (.ix (.var 0) (.lit (.int 2))) (.cons (.ix (.var 0) (.lit (.int 3))) .nil))) (.tup .nil))) .nil))⟩
def c_begin_of_core : Fn := ⟨2, 2, (.cons (.ret (.tup (.cons (.lit (.int 0)) (.cons (.lit (.int 0)) (.cons (.bin .mul (.tup (.cons (.lit (.int 0)) .nil)) (.ix (.var 0) (.lit (.int 0)))) (.cons (.bin .mul (.tup (.cons (.lit .non) .nil)) (.ix (.var 1) (.lit (.int 1)))) (.cons (.bin .mul (.tup (.cons (.lit (.int 0)) .nil)) (.ix (.var 1) (.lit (.int 2)))) .nil))))))) .nil)⟩
def c_cells_referred_to : Fn := ⟨2, 4, (.cons (.ret (.compi (.nm 3) (.seq (.var 1)) [2, 3] (.cmp .ge (.var 3) (.var 0)) (.bin .sub (.var 3) (.var 0)))) .nil)⟩
def c_come_to_in_cells : Fn := ⟨3, 6, (.cons (.asg (.nm 3) (.lst .nil)) (.cons (.asg (.nm 4) (.call "cells_referred_to" (.cons (.var 0) (.cons (.var 2) .nil)))) (.cons (.whl (.cmp .gt (.b1 .len (.var 4)) (.lit (.int 0))) (.cons (.asg (.nm 5) (.mt .pop (.var 4) .nil)) (.cons (.ifs (.cmp .nin (.var 5) (.var 3)) (.cons (.expr (.mt .append (.var 3) (.cons (.var 5) .nil))) (.cons (.expr (.mt .extend (.var 4) (.cons (.call "cells_referred_to" (.cons (.var 0) (.cons (.ix (.var 1) (.var 5)) .nil))) .nil))) .nil)) .nil) .nil))) (.cons (.ret (.b1 .tup (.b1 .sorted (.var 3)))) .nil))))⟩
def c_collected_for : Fn := ⟨3, 6, (.cons (.asg (.nm 3) (.call "come_to_in_cells" (.cons (.var 0) (.cons (.var 1) (.cons (.var 2) .nil))))) (.cons (.ret (.b1 .tup (.comp (.nm 5) (.rng1 (.b1 .len (.var 1))) [4, 5] (.ite (.cmp .inn (.var 5) (.var 3)) (.ix (.var 1) (.var 5)) (.lit .non))))) .nil))⟩
def c_with_item_at : Fn := ⟨3, 3, (.cons (.ret (.bin .add (.bin .add (.sl (.var 0) .no (.so (.var 1))) (.tup (.cons (.var 2) .nil))) (.sl (.var 0) (.so (.bin .add (.var 1) (.lit (.int 1)))) .no))) .nil)⟩
def c_bits_shown : Fn := ⟨3, 6, (.cons (.asg (.nm 3) (.call "number_or_zero" (.cons (.var 0) (.cons (.var 2) .nil)))) (.cons (.ret (.b1 .tup (.comp (.nm 5) (.rng1 (.var 1)) [4, 5] (.bin .mod (.bin .shr (.var 3) (.var 5)) (.lit (.int 2)))))) .nil))⟩
def c_full_core_state : Fn := ⟨2, 2, (.cons (.ret (.bin .add (.tup (.cons (.b1 .len (.ix (.var 0) (.lit (.int 1)))) (.cons (.lit (.int 0)) .nil))) (.sl (.var 1) (.so (.lit (.int 2))) .no))) .nil)⟩
def c_paired_in_core : Fn := ⟨4, 17, (.cons (.asg (.tp (.cons (.nm 4) (.cons (.nm 5) (.cons (.nm 6) (.cons (.nm 7) (.cons (.nm 8) .nil)))))) (.var 2)) (.cons (.asg (.tp (.cons (.nm 9) (.cons (.nm 10) (.cons (.nm 11) (.cons (.nm 12) .nil))))) (.var 3)) (.cons (.ifs (.cmp .inn (.lit .non) (.var 7)) (.cons (.asg (.nm 13) (.mt .index (.var 7) (.cons (.lit .non) .nil))) (.cons (.asg (.nm 14) (.tup (.cons (.call "core_value" (.cons (.var 1) (.cons (.var 11) (.cons (.var 6) (.cons (.var 7) .nil))))) (.cons (.call "core_value" (.cons (.var 1) (.cons (.var 12) (.cons (.var 6) (.cons (.var 7) .nil))))) .nil)))) (.cons (.asg (.nm 15) (.call "with_item_at" (.cons (.var 6) (.cons (.var 10) (.cons (.bin .add (.var 1) (.var 13)) .nil))))) (.cons (.ret (.tup (.cons (.var 4) (.cons (.bin .add (.var 5) (.lit (.int 1))) (.cons (.var 15) (.cons (.call "with_item_at" (.cons (.var 7) (.cons (.var 13) (.cons (.var 14) .nil)))) (.cons (.var 8) .nil))))))) .nil)))) .nil) (.cons (.asg (.nm 16) (.call "collected_for" (.cons (.var 1) (.cons (.var 7) (.cons (.var 6) .nil))))) (.cons (.ifs (.cmp .eq (.var 16) (.var 7)) (.cons (.ret (.call "full_core_state" (.cons (.var 0) (.cons (.var 2) .nil)))) .nil) .nil) (.cons (.ret (.tup (.cons (.var 4) (.cons (.var 5) (.cons (.var 6) (.cons (.var 16) (.cons (.var 8) .nil))))))) .nil))))))⟩
def c_commanded_in_core : Fn := ⟨5, 12, (.cons (.asg (.tp (.cons (.nm 5) (.cons (.nm 6) (.cons (.nm 7) (.cons (.nm 8) (.cons (.nm 9) .nil)))))) (.var 2)) (.cons (.ifs (.cmp .eq (.ix (.var 3) (.lit (.int 0))) (.lit (.str "pair"))) (.cons (.ret (.call "paired_in_core" (.cons (.var 0) (.cons (.var 1) (.cons (.var 2) (.cons (.var 3) .nil)))))) .nil) .nil) (.cons (.ifs (.cmp .eq (.ix (.var 3) (.lit (.int 0))) (.lit (.str "hear"))) (.cons (.ret (.tup (.cons (.var 5) (.cons (.bin .add (.var 6) (.lit (.int 1))) (.cons (.call "with_item_at" (.cons (.var 7) (.cons (.ix (.var 3) (.lit (.int 1))) (.cons (.bin .mod (.var 4) (.var 1)) .nil)))) (.cons (.var 8) (.cons (.var 9) .nil))))))) .nil) .nil) (.cons (.ifs (.cmp .eq (.ix (.var 3) (.lit (.int 0))) (.lit (.str "show"))) (.cons (.asg (.nm 10) (.call "bits_shown" (.cons (.var 1) (.cons (.b1 .len (.var 9)) (.cons (.call "core_value" (.cons (.var 1) (.cons (.ix (.var 3) (.lit (.int 1))) (.cons (.var 7) (.cons (.var 8) .nil))))) .nil))))) (.cons (.ret (.tup (.cons (.var 5) (.cons (.bin .add (.var 6) (.lit (.int 1))) (.cons (.var 7) (.cons (.var 8) (.cons (.var 10) .nil))))))) .nil)) .nil) (.cons (.asg (.nm 11) (.call "core_value" (.cons (.var 1) (.cons (.ix (.var 3) (.lit (.int 2))) (.cons (.var 7) (.cons (.var 8) .nil)))))) (.cons (.ret (.tup (.cons (.var 5) (.cons (.bin .add (.var 6) (.lit (.int 1))) (.cons (.call "with_item_at" (.cons (.var 7) (.cons (.ix (.var 3) (.lit (.int 1))) (.cons (.var 11) .nil)))) (.cons (.var 8) (.cons (.var 9) .nil))))))) .nil))))))⟩
def c_block_gone_to : Fn := ⟨4, 4, (.cons (.ifs (.cmp .eq (.ix (.var 1) (.lit (.int 0))) (.lit (.str "goto"))) (.cons (.ret (.ix (.var 1) (.lit (.int 1)))) .nil) .nil) (.cons (.ret (.ix (.call "core_goes_to" (.cons (.var 1) .nil)) (.ite (.cmp .eq (.call "core_value" (.cons (.var 0) (.cons (.ix (.var 1) (.lit (.int 1))) (.cons (.var 2) (.cons (.var 3) .nil))))) (.lit (.int 0))) (.lit (.int 1)) (.lit (.int 0))))) .nil))⟩
def c_step_of_core : Fn := ⟨4, 12, (.cons (.asg (.tp (.cons (.nm 4) (.cons (.nm 5) (.cons (.nm 6) (.cons (.nm 7) (.cons (.nm 8) .nil)))))) (.var 2)) (.cons (.ifs (.cmp .eq (.var 4) (.b1 .len (.ix (.var 0) (.lit (.int 1))))) (.cons (.ret (.var 2)) .nil) .nil) (.cons (.asg (.nm 9) (.call "half_of" (.cons (.ix (.var 1) (.lit (.int 0))) .nil))) (.cons (.asg (.tp (.cons (.nm 10) (.cons (.nm 11) .nil))) (.ix (.ix (.var 0) (.lit (.int 1))) (.var 4))) (.cons (.ifs (.cmp .lt (.var 5) (.b1 .len (.var 10))) (.cons (.ret (.call "commanded_in_core" (.cons (.var 0) (.cons (.var 9) (.cons (.var 2) (.cons (.ix (.var 10) (.var 5)) (.cons (.var 3) .nil))))))) .nil) .nil) (.cons (.ifs (.cmp .eq (.ix (.var 11) (.lit (.int 0))) (.lit (.str "halt"))) (.cons (.ret (.var 2)) .nil) .nil) (.cons (.ret (.tup (.cons (.call "block_gone_to" (.cons (.var 9) (.cons (.var 11) (.cons (.var 6) (.cons (.var 7) .nil))))) (.cons (.lit (.int 0)) (.cons (.var 6) (.cons (.var 7) (.cons (.var 8) .nil))))))) .nil)))))))⟩
def c_lights_of_core : Fn := ⟨3, 3, (.cons (.ret (.ix (.var 2) (.lit (.int 4)))) .nil)⟩
def c_is_core_full : Fn := ⟨3, 3, (.cons (.ret (.cmp .eq (.ix (.var 2) (.lit (.int 0))) (.b1 .len (.ix (.var 0) (.lit (.int 1)))))) .nil)⟩
def c_run_of_core : Fn := ⟨3, 5, (.cons (.asg (.nm 3) (.lst (.cons (.call "begin_of_core" (.cons (.var 0) (.cons (.var 1) .nil))) .nil))) (.cons (.for_ (.nm 4) (.seq (.var 2)) (.cons (.expr (.mt .append (.var 3) (.cons (.call "step_of_core" (.cons (.var 0) (.cons (.var 1) (.cons (.ix (.var 3) (.neg (.lit (.int 1)))) (.cons (.var 4) .nil))))) .nil))) .nil)) (.cons (.ret (.b1 .tup (.var 3))) .nil)))⟩
def c__law_put : Fn := ⟨3, 3, (.cons (.ret (.bin .add (.bin .add (.sl (.var 0) .no (.so (.var 1))) (.tup (.cons (.var 2) .nil))) (.sl (.var 0) (.so (.bin .add (.var 1) (.lit (.int 1)))) .no))) .nil)⟩
def c__law_number : Fn := ⟨2, 2, (.cons (.ret (.ite (.cmp .lt (.var 1) (.var 0)) (.var 1) (.lit (.int 0)))) .nil)⟩
def c__law_core_value : Fn := ⟨4, 10, (.cons (.asg (.nm 4) (.ix (.var 1) (.lit (.int 0)))) (.cons (.ifs (.cmp .eq (.var 4) (.lit (.str "number"))) (.cons (.ret (.ix (.var 1) (.lit (.int 1)))) .nil) .nil) (.cons (.ifs (.cmp .eq (.var 4) (.lit (.str "of"))) (.cons (.ret (.ix (.var 2) (.ix (.var 1) (.lit (.int 1))))) .nil) .nil) (.cons (.asg (.nm 5) (.comp (.nm 9) (.seq (.sl (.var 1) (.so (.lit (.int 1))) .no)) [8, 9] (.call "_law_core_value" (.cons (.var 0) (.cons (.var 9) (.cons (.var 2) (.cons (.var 3) .nil))))))) (.cons (.ifs (.cmp .eq (.var 4) (.lit (.str "paired"))) (.cons (.ret (.ite (.cmp .ge (.ix (.var 5) (.lit (.int 0))) (.var 0)) (.lit (.int 1)) (.lit (.int 0)))) .nil) .nil) (.cons (.ifs (.or (.cmp .eq (.var 4) (.lit (.str "first"))) (.cmp .eq (.var 4) (.lit (.str "second")))) (.cons (.ret (.ite (.cmp .ge (.ix (.var 5) (.lit (.int 0))) (.var 0)) (.ix (.ix (.var 3) (.bin .sub (.ix (.var 5) (.lit (.int 0))) (.var 0))) (.mt .index (.tup (.cons (.lit (.str "first")) (.cons (.lit (.str "second")) .nil))) (.cons (.var 4) .nil))) (.lit (.int 0)))) .nil) .nil) (.cons (.ifs (.cmp .eq (.var 4) (.lit (.str "same"))) (.cons (.ret (.ite (.cmp .eq (.ix (.var 5) (.lit (.int 0))) (.ix (.var 5) (.lit (.int 1)))) (.lit (.int 1)) (.lit (.int 0)))) .nil) .nil) (.cons (.asg (.nm 6) (.call "_law_number" (.cons (.var 0) (.cons (.ix (.var 5) (.lit (.int 0))) .nil)))) (.cons (.asg (.nm 7) (.call "_law_number" (.cons (.var 0) (.cons (.ix (.var 5) (.lit (.int 1))) .nil)))) (.cons (.ifs (.cmp .eq (.var 4) (.lit (.str "less"))) (.cons (.ret (.ite (.cmp .lt (.var 6) (.var 7)) (.lit (.int 1)) (.lit (.int 0)))) .nil) .nil) (.cons (.ret (.ite (.cmp .eq (.var 4) (.lit (.str "plus"))) (.b1 .int (.bin .mod (.bin .add (.var 6) (.var 7)) (.var 0))) (.b1 .int (.bin .mod (.bin .sub (.bin .add (.var 6) (.var 0)) (.var 7)) (.var 0))))) .nil)))))))))))⟩
def c__law_come_to : Fn := ⟨3, 10, (.cons (.asg (.nm 3) (.lst .nil)) (.cons (.asg (.nm 4) (.compi (.nm 9) (.seq (.var 2)) [8, 9] (.cmp .ge (.var 9) (.var 0)) (.bin .sub (.var 9) (.var 0)))) (.cons (.for_ (.nm 5) (.rng1 (.bin .add (.bin .mul (.lit (.int 2)) (.b1 .len (.var 1))) (.lit (.int 2)))) (.cons (.asg (.nm 6) (.lst .nil)) (.cons (.for_ (.nm 7) (.seq (.var 4)) (.cons (.ifs (.cmp .nin (.var 7) (.var 3)) (.cons (.expr (.mt .append (.var 3) (.cons (.var 7) .nil))) (.cons (.asg (.nm 6) (.bin .add (.var 6) (.compi (.nm 9) (.seq (.ix (.var 1) (.var 7))) [8, 9] (.cmp .ge (.var 9) (.var 0)) (.bin .sub (.var 9) (.var 0))))) .nil)) .nil) .nil)) (.cons (.asg (.nm 4) (.var 6)) .nil)))) (.cons (.ret (.var 3)) .nil))))⟩
def c__law_bits : Fn := ⟨3, 6, (.cons (.asg (.nm 3) (.call "_law_number" (.cons (.var 0) (.cons (.var 2) .nil)))) (.cons (.asg (.nm 4) (.lst .nil)) (.cons (.for_ (.nm 5) (.rng1 (.var 1)) (.cons (.expr (.mt .append (.var 4) (.cons (.b1 .int (.bin .mod (.var 3) (.lit (.int 2)))) .nil))) (.cons (.asg (.nm 3) (.bin .fdiv (.var 3) (.lit (.int 2)))) .nil))) (.cons (.ret (.b1 .tup (.var 4))) .nil))))⟩
def c__law_core_pair : Fn := ⟨4, 14, (.cons (.asg (.tp (.cons (.nm 4) (.cons (.nm 5) (.cons (.nm 6) (.cons (.nm 7) (.cons (.nm 8) .nil)))))) (.var 2)) (.cons (.asg (.nm 9) (.tup (.cons (.call "_law_core_value" (.cons (.var 1) (.cons (.ix (.var 3) (.lit (.int 2))) (.cons (.var 6) (.cons (.var 7) .nil))))) (.cons (.call "_law_core_value" (.cons (.var 1) (.cons (.ix (.var 3) (.lit (.int 3))) (.cons (.var 6) (.cons (.var 7) .nil))))) .nil)))) (.cons (.asg (.nm 10) (.compi (.nm 13) (.rng1 (.b1 .len (.var 7))) [12, 13] (.isc false (.ix (.var 7) (.var 13)) .non) (.var 13))) (.cons (.ifs (.cmp .gt (.b1 .len (.var 10)) (.lit (.int 0))) (.cons (.ret (.tup (.cons (.var 4) (.cons (.bin .add (.var 5) (.lit (.int 1))) (.cons (.call "_law_put" (.cons (.var 6) (.cons (.ix (.var 3) (.lit (.int 1))) (.cons (.bin .add (.var 1) (.ix (.var 10) (.lit (.int 0)))) .nil)))) (.cons (.call "_law_put" (.cons (.var 7) (.cons (.ix (.var 10) (.lit (.int 0))) (.cons (.var 9) .nil)))) (.cons (.var 8) .nil))))))) .nil) .nil) (.cons (.asg (.nm 11) (.call "_law_come_to" (.cons (.var 1) (.cons (.var 7) (.cons (.var 6) .nil))))) (.cons (.ifs (.cmp .eq (.b1 .len (.var 11)) (.b1 .len (.var 7))) (.cons (.ret (.tup (.cons (.b1 .len (.ix (.var 0) (.lit (.int 1)))) (.cons (.lit (.int 0)) (.cons (.var 6) (.cons (.var 7) (.cons (.var 8) .nil))))))) .nil) .nil) (.cons (.ret (.tup (.cons (.var 4) (.cons (.var 5) (.cons (.var 6) (.cons (.b1 .tup (.comp (.nm 13) (.rng1 (.b1 .len (.var 7))) [12, 13] (.ite (.cmp .inn (.var 13) (.var 11)) (.ix (.var 7) (.var 13)) (.lit .non)))) (.cons (.var 8) .nil))))))) .nil)))))))⟩
def c__law_core_step : Fn := ⟨4, 14, (.cons (.asg (.tp (.cons (.nm 4) (.cons (.nm 5) (.cons (.nm 6) (.cons (.nm 7) (.cons (.nm 8) .nil)))))) (.var 2)) (.cons (.ifs (.cmp .eq (.var 4) (.b1 .len (.ix (.var 0) (.lit (.int 1))))) (.cons (.ret (.var 2)) .nil) .nil) (.cons (.asg (.nm 9) (.call "_law_half" (.cons (.ix (.var 1) (.lit (.int 0))) .nil))) (.cons (.asg (.tp (.cons (.nm 10) (.cons (.nm 11) .nil))) (.ix (.ix (.var 0) (.lit (.int 1))) (.var 4))) (.cons (.ifs (.cmp .lt (.var 5) (.b1 .len (.var 10))) (.cons (.asg (.nm 12) (.ix (.var 10) (.var 5))) (.cons (.ifs (.cmp .eq (.ix (.var 12) (.lit (.int 0))) (.lit (.str "pair"))) (.cons (.ret (.call "_law_core_pair" (.cons (.var 0) (.cons (.var 9) (.cons (.var 2) (.cons (.var 12) .nil)))))) .nil) .nil) (.cons (.ifs (.cmp .eq (.ix (.var 12) (.lit (.int 0))) (.lit (.str "hear"))) (.cons (.ret (.tup (.cons (.var 4) (.cons (.bin .add (.var 5) (.lit (.int 1))) (.cons (.call "_law_put" (.cons (.var 6) (.cons (.ix (.var 12) (.lit (.int 1))) (.cons (.b1 .int (.bin .mod (.var 3) (.var 9))) .nil)))) (.cons (.var 7) (.cons (.var 8) .nil))))))) .nil) .nil) (.cons (.asg (.nm 13) (.call "_law_core_value" (.cons (.var 9) (.cons (.ix (.var 12) (.neg (.lit (.int 1)))) (.cons (.var 6) (.cons (.var 7) .nil)))))) (.cons (.ifs (.cmp .eq (.ix (.var 12) (.lit (.int 0))) (.lit (.str "show"))) (.cons (.ret (.tup (.cons (.var 4) (.cons (.bin .add (.var 5) (.lit (.int 1))) (.cons (.var 6) (.cons (.var 7) (.cons (.call "_law_bits" (.cons (.var 9) (.cons (.b1 .len (.var 8)) (.cons (.var 13) .nil)))) .nil))))))) .nil) .nil) (.cons (.ret (.tup (.cons (.var 4) (.cons (.bin .add (.var 5) (.lit (.int 1))) (.cons (.call "_law_put" (.cons (.var 6) (.cons (.ix (.var 12) (.lit (.int 1))) (.cons (.var 13) .nil)))) (.cons (.var 7) (.cons (.var 8) .nil))))))) .nil)))))) .nil) (.cons (.ifs (.cmp .eq (.ix (.var 11) (.lit (.int 0))) (.lit (.str "halt"))) (.cons (.ret (.var 2)) .nil) .nil) (.cons (.ifs (.cmp .eq (.ix (.var 11) (.lit (.int 0))) (.lit (.str "goto"))) (.cons (.ret (.tup (.cons (.ix (.var 11) (.lit (.int 1))) (.cons (.lit (.int 0)) (.cons (.var 6) (.cons (.var 7) (.cons (.var 8) .nil))))))) .nil) .nil) (.cons (.asg (.nm 13) (.call "_law_core_value" (.cons (.var 9) (.cons (.ix (.var 11) (.lit (.int 1))) (.cons (.var 6) (.cons (.var 7) .nil)))))) (.cons (.ret (.tup (.cons (.ite (.cmp .eq (.var 13) (.lit (.int 0))) (.ix (.var 11) (.lit (.int 3))) (.ix (.var 11) (.lit (.int 2)))) (.cons (.lit (.int 0)) (.cons (.var 6) (.cons (.var 7) (.cons (.var 8) .nil))))))) .nil)))))))))⟩
def c__law_core_begin : Fn := ⟨2, 2, (.cons (.ret (.tup (.cons (.lit (.int 0)) (.cons (.lit (.int 0)) (.cons (.bin .mul (.tup (.cons (.lit (.int 0)) .nil)) (.ix (.var 0) (.lit (.int 0)))) (.cons (.bin .mul (.tup (.cons (.lit .non) .nil)) (.ix (.var 1) (.lit (.int 1)))) (.cons (.bin .mul (.tup (.cons (.lit (.int 0)) .nil)) (.ix (.var 1) (.lit (.int 2)))) .nil))))))) .nil)⟩
def c__law_words : Fn := ⟨3, 6, (.cons (.asg (.nm 3) (.bin .mul (.lit (.int 2)) (.call "_law_half" (.cons (.var 2) .nil)))) (.cons (.ret (.b1 .tup (.comp (.nm 5) (.rng1 (.var 1)) [4, 5] (.call "_law_take" (.cons (.var 0) (.cons (.var 3) .nil)))))) .nil))⟩
structure SV (P : Prog) : Prop where
  ho : P.fn "half_of" = some c_half_of
  nz : P.fn "number_or_zero" = some c_number_or_zero
  ir : P.fn "item_referred_to" = some c_item_referred_to
  rk : P.fn "reckoned_in_core" = some c_reckoned_in_core
  cv : P.fn "core_value" = some c_core_value
  wi : P.fn "with_item_at" = some c_with_item_at
structure ST (P : Prog) : Prop extends SV P where
  gt : P.fn "core_goes_to" = some c_core_goes_to
  bg : P.fn "begin_of_core" = some c_begin_of_core
  cr : P.fn "cells_referred_to" = some c_cells_referred_to
  ct : P.fn "come_to_in_cells" = some c_come_to_in_cells
  cf : P.fn "collected_for" = some c_collected_for
  bs : P.fn "bits_shown" = some c_bits_shown
  fs : P.fn "full_core_state" = some c_full_core_state
  pc : P.fn "paired_in_core" = some c_paired_in_core
  cc : P.fn "commanded_in_core" = some c_commanded_in_core
  gg : P.fn "block_gone_to" = some c_block_gone_to
  sc : P.fn "step_of_core" = some c_step_of_core
  lc : P.fn "lights_of_core" = some c_lights_of_core
  fc : P.fn "is_core_full" = some c_is_core_full
  rc : P.fn "run_of_core" = some c_run_of_core
structure SL (P : Prog) : Prop where
  pt : P.fn "_law_put" = some c__law_put
  nu : P.fn "_law_number" = some c__law_number
  cv : P.fn "_law_core_value" = some c__law_core_value
  ct : P.fn "_law_come_to" = some c__law_come_to
  bt : P.fn "_law_bits" = some c__law_bits
  pr : P.fn "_law_core_pair" = some c__law_core_pair
  st : P.fn "_law_core_step" = some c__law_core_step
  bg : P.fn "_law_core_begin" = some c__law_core_begin
  wd : P.fn "_law_words" = some c__law_words
  hf : P.fn "_law_half" = some D3.c__law_half
section
variable {P : Prog} {L : Nat} {h : AH} {Q : D → AH → Prop} {X : Xc} {half many k : Nat} {vs : List Nat} {cs : Cs}
theorem nz_i (hL : 1 ≤ L) (S : SV P) {x : Nat} (q : Q (.int (nz half x)) h) : wC P L "number_or_zero" [.int half, .int x] h Q X := by
  obtain ⟨n, rfl⟩ : ∃ n, L = n + 1 := ⟨L - 1, by omega⟩
  refine wC_i S.nz rfl ?_
  unfold nz at q
  by_cases z : x < half
  · rw [if_pos z] at q
    simp [c_number_or_zero, z]
    exact someQ_i q
  · rw [if_neg z] at q
    simp [c_number_or_zero, z]
    exact someQ_i q
theorem lnum_i (hL : 1 ≤ L) (S : SL P) {x : Nat} (q : Q (.int (nz half x)) h) : wC P L "_law_number" [.int half, .int x] h Q X := by
  obtain ⟨n, rfl⟩ : ∃ n, L = n + 1 := ⟨L - 1, by omega⟩
  refine wC_i S.nu rfl ?_
  unfold nz at q
  by_cases z : x < half
  · rw [if_pos z] at q
    simp [c__law_number, z]
    exact someQ_i q
  · rw [if_neg z] at q
    simp [c__law_number, z]
    exact someQ_i q
theorem cell_pair {c : Nat} (h3 : c < cs.length) (h4 : cs[c]?.getD none ≠ none) : ∃ a b, itms cs c = [a, b] ∧ atI (csD cs) (c : Int) = some (.tup [.int a, .int b]) := by
  obtain ⟨a, b, e1, e2⟩ := itms_two h4
  exact ⟨a, b, e2, by rw [csD_at h3, e1]; rfl⟩
theorem item_i (hL : 1 ≤ L) (S : SV P) {x i : Nat} (hx : Gv half cs x) (hi : i < 2) (q : Q (.int ((if x < half then 0 else gn (itms cs (x - half)) i : Nat) : Int)) h) : wC P L "item_referred_to" [.int half, .int x, .tup (csD cs), .int i] h Q X := by
  obtain ⟨n, rfl⟩ : ∃ n, L = n + 1 := ⟨L - 1, by omega⟩
  refine wC_i S.ir rfl ?_
  by_cases z : x < half
  · rw [if_pos z] at q
    simp [c_item_referred_to, z]
    exact someQ_i q
  · rw [if_neg z] at q
    obtain ⟨h3, h4⟩ := hx (by omega)
    obtain ⟨a, b, e1, e2⟩ := cell_pair h3 h4
    have e : (x : Int) - (half : Int) = ((x - half : Nat) : Int) := by omega
    rw [e1] at q
    simp [c_item_referred_to, z, e, e2]
    rcases (show i = 0 ∨ i = 1 by omega) with rfl | rfl
    · simp
      exact someQ_i (by simpa [gn] using q)
    · simp
      exact someQ_i (by simpa [gn] using q)
theorem reck_i (hL : 2 ≤ L) (S : SV P) (h2 : 2 ≤ half) {s : Nm} (hs : Bn s) {x y : Nat} (q : Q (.int (bval half s x y)) h) : wC P L "reckoned_in_core" [.int half, .str (nm s), .int x, .int y] h Q X := by
  obtain ⟨n, rfl⟩ : ∃ n, L = n + 1 := ⟨L - 1, by omega⟩
  have hp : (0 : Int) < (half : Int) := by omega
  have hp' : 0 < half := by omega
  refine wC_i S.rk rfl ?_
  unfold bval at q
  rcases hs.h with rfl | rfl | rfl | rfl
  · simp at q
    simp [-v_rB, c_reckoned_in_core, List.replicate, n9]
    rw [v_rB]
    simp [-v_rB]
    refine nz_i (by omega) S ?_
    try simp [-v_rB]
    refine nz_i (by omega) S ?_
    try simp [-v_rB]
    rw [v_rB]
    simp [-v_rB, n8]
    rw [v_rB]
    simp [n6, hp']
    exact someQ_i (by simpa using q)
  · simp at q
    simp [-v_rB, c_reckoned_in_core, List.replicate, n9]
    rw [v_rB]
    simp [-v_rB]
    refine nz_i (by omega) S ?_
    try simp [-v_rB]
    refine nz_i (by omega) S ?_
    try simp [-v_rB]
    rw [v_rB]
    simp [-v_rB, n8]
    rw [v_rB]
    simp [n6, hp']
    have e : ((nz half x : Int) - (nz half y : Int)) % (half : Int) = (((nz half x + half - nz half y) % half : Nat) : Int) := by
      have hy : nz half y < half := by unfold nz; split <;> omega
      rw [Int.natCast_emod, show ((nz half x + half - nz half y : Nat) : Int) = (nz half x : Int) - (nz half y : Int) + (half : Int) by omega, Int.add_emod_right]
    rw [e]
    exact someQ_i q
  · simp at q
    simp [-v_rB, c_reckoned_in_core, List.replicate, n9]
    rw [v_rB]
    simp [-v_rB]
    refine nz_i (by omega) S ?_
    try simp [-v_rB]
    refine nz_i (by omega) S ?_
    try simp [-v_rB]
    rw [v_rB]
    by_cases z : nz half x < nz half y
    · simp [z, n8] at q ⊢
      exact someQ_i q
    · simp [z, n8] at q ⊢
      exact someQ_i q
  · simp at q
    by_cases z : x = y
    · simp [z, c_reckoned_in_core, List.replicate, n9] at q ⊢
      exact someQ_i q
    · have z' : ¬ (x : Int) = (y : Int) := by omega
      simp [z, z', c_reckoned_in_core, List.replicate, n9] at q ⊢
      exact someQ_i q
theorem value_i (S : SV P) (h2 : 2 ≤ half) (g : Gs half vs cs) (hv : many = vs.length) : ∀ (e : CE) {L : Nat} {h : AH} {Q : D → AH → Prop} {X : Xc}, e.Ok half many → e.dep + 2 ≤ L → Q (.int (val half vs cs e)) h → wC P L "core_value" [.int half, e.d, .tup (nL vs), .tup (csD cs)] h Q X
  | .num m, L, h, Q, X, ok, hL, q => by
    obtain ⟨n, rfl⟩ : ∃ n, L = n + 1 := ⟨L - 1, by omega⟩
    refine wC_i S.cv rfl ?_
    simp [c_core_value, List.replicate, CE.d, n1]
    exact someQ_i q
  | .of m, L, h, Q, X, ok, hL, q => by
    obtain ⟨n, rfl⟩ : ∃ n, L = n + 1 := ⟨L - 1, by omega⟩
    simp only [CE.Ok] at ok
    refine wC_i S.cv rfl ?_
    simp [c_core_value, List.replicate, CE.d, n1, n2, nL_at (xs := vs) (i := m) (by omega)]
    exact someQ_i q
  | .un s a, L, h, Q, X, ok, hL, q => by
    obtain ⟨n, rfl⟩ : ∃ n, L = n + 1 := ⟨L - 1, by omega⟩
    obtain ⟨e1, e2⟩ := un_ne ok.1
    have gx := val_g h2 g hv a ok.2
    simp only [CE.dep] at hL
    refine wC_i S.cv rfl ?_
    simp [-v_rB, c_core_value, List.replicate, CE.d, n1, e1]
    rw [v_rB]
    simp [-v_rB, n2, e2]
    rw [v_rB]
    simp [-v_rB]
    refine value_i S h2 g hv a ok.2 (by omega) ?_
    have q' : Q (.int (uval half cs s (val half vs cs a))) h := q
    generalize val half vs cs a = x at *
    unfold uval at q'
    rw [v_rB]
    rcases ok.1.h with rfl | rfl | rfl
    · by_cases z : x < half
      · simp [z, n3] at q' ⊢
        exact someQ_i q'
      · simp [z, n3] at q' ⊢
        exact someQ_i q'
    · simp [-v_rB, n3]
      rw [v_rB]
      simp [-v_rB, n4]
      refine item_i (i := 0) (by omega) S gx (by omega) ?_
      exact someQ_i (by simpa using q')
    · simp [-v_rB, n3]
      rw [v_rB]
      simp [-v_rB, n4]
      rw [v_rB]
      simp [-v_rB, n5]
      refine item_i (i := 1) (by omega) S gx (by omega) ?_
      exact someQ_i (by simpa using q')
  | .bi s a b, L, h, Q, X, ok, hL, q => by
    obtain ⟨n, rfl⟩ : ∃ n, L = n + 1 := ⟨L - 1, by omega⟩
    obtain ⟨e1, e2⟩ := bn_ne ok.1
    have e3 : ¬ s = .paired ∧ ¬ s = .first ∧ ¬ s = .second := by rcases ok.1.h with rfl | rfl | rfl | rfl <;> decide
    simp only [CE.dep] at hL
    refine wC_i S.cv rfl ?_
    simp [-v_rB, c_core_value, List.replicate, CE.d, n1, e1]
    rw [v_rB]
    simp [-v_rB, n2, e2]
    rw [v_rB]
    simp [-v_rB]
    refine value_i S h2 g hv a ok.2.1 (by omega) ?_
    rw [v_rB]
    simp [-v_rB, n3, e3]
    rw [v_rB]
    simp [-v_rB, n4, e3]
    rw [v_rB]
    simp [-v_rB, n5, e3]
    rw [v_rB]
    simp [-v_rB]
    refine value_i S h2 g hv b ok.2.2 (by omega) ?_
    try simp [-v_rB]
    refine reck_i (by omega) S h2 ok.1 ?_
    exact someQ_i q
end
end Cor
end Py
namespace Py
open PySem (Str)
namespace Cor
section
variable {P : Prog} {L : Nat} {h : AH} {Q : D → AH → Prop} {X : Xc} {half many k : Nat} {vs : List Nat} {cs : Cs}
theorem ix_first {h : AH} : mtD .index (.v (.tup [.str (nm .first), .str (nm .second)])) [.str (nm .first)] h = some (.v (.int 0), h) := by
  simp [mtD, idx, List.findIdx?_cons]
theorem ix_second {h : AH} : mtD .index (.v (.tup [.str (nm .first), .str (nm .second)])) [.str (nm .second)] h = some (.v (.int 1), h) := by
  simp [mtD, idx, List.findIdx?_cons]
theorem q_idx {xs : List D} {h : AH} : mtChk .index (.v (.tup xs)) h = true := rfl
theorem law_value_i (S : SL P) (h2 : 2 ≤ half) (g : Gs half vs cs) (hv : many = vs.length) : ∀ (e : CE) {L : Nat} {h : AH} {Q : D → AH → Prop} {X : Xc}, e.Ok half many → e.dep + 1 ≤ L → (∀ h', Sub h h' → Q (.int (val half vs cs e)) h') → wC P L "_law_core_value" [.int half, e.d, .tup (nL vs), .tup (csD cs)] h Q X
  | .num m, L, h, Q, X, ok, hL, q => by
    obtain ⟨n, rfl⟩ : ∃ n, L = n + 1 := ⟨L - 1, by omega⟩
    refine wC_i S.cv rfl ?_
    simp [c__law_core_value, List.replicate, CE.d, n1]
    exact someQ_i (q _ sub_refl)
  | .of m, L, h, Q, X, ok, hL, q => by
    obtain ⟨n, rfl⟩ : ∃ n, L = n + 1 := ⟨L - 1, by omega⟩
    simp only [CE.Ok] at ok
    refine wC_i S.cv rfl ?_
    simp [c__law_core_value, List.replicate, CE.d, n1, n2, nL_at (xs := vs) (i := m) (by omega)]
    exact someQ_i (q _ sub_refl)
  | .un s a, L, h, Q, X, ok, hL, q => by
    obtain ⟨n, rfl⟩ : ∃ n, L = n + 1 := ⟨L - 1, by omega⟩
    obtain ⟨e1, e2⟩ := un_ne ok.1
    have gx := val_g h2 g hv a ok.2
    simp only [CE.dep] at hL
    refine wC_i S.cv rfl ?_
    simp [-v_rB, c__law_core_value, List.replicate, CE.d]
    rw [v_rB]
    simp [-v_rB, n1, e1]
    rw [v_rB]
    simp [-v_rB, n2, e2]
    rw [v_rB]
    simp [-v_rB, cut1]
    refine comp_by (fun i acc h' => Sub h h' ∧ acc = ([.int (val half vs cs a)] : List D).take i) ⟨sub_refl, rfl⟩ (fun _ _ _ _ _ => trivial) ?_ ?_
    · rintro i x acc h' N hx ⟨sb, rfl⟩ hN
      simp only [v_fixi] at hx
      obtain ⟨rfl, rfl⟩ : i = 0 ∧ x = a.d := by
        cases i with
        | zero => simp at hx; exact ⟨rfl, hx.symm⟩
        | succ i => simp at hx
      simp [wipe]
      refine law_value_i S h2 g hv a ok.2 (by omega) fun h'' s'' => ?_
      try simp
      exact hN _ _ ⟨sb.trans s'', by simp⟩
    rintro _ h1 ⟨sb, rfl⟩
    simp [-v_rB]
    intro u nu
    have sb2 := sb.new nu (o := .lst [.int (val half vs cs a)])
    have q' : Q (.int (uval half cs s (val half vs cs a))) (put h1 u (.lst [.int (val half vs cs a)])) := q _ sb2
    have hu : put h1 u (.lst [.int (val half vs cs a)]) u = some (.lst [.int (val half vs cs a)]) := put_self
    generalize val half vs cs a = x at *
    unfold uval at q'
    rw [v_rB]
    generalize put h1 u (.lst [.int x]) = h2' at *
    rcases ok.1.h with rfl | rfl | rfl
    · by_cases z : x < half
      · have z' : ¬ half ≤ x := by omega
        simp [z, z', n3, hu] at q' ⊢
        exact someQ_i q'
      · have z' : half ≤ x := by omega
        simp [z, z', n3, hu] at q' ⊢
        exact someQ_i q'
    · simp [-v_rB, n3]
      rw [v_rB]
      by_cases z : x < half
      · have z' : ¬ half ≤ x := by omega
        simp [z, z', n4, n5, hu] at q' ⊢
        exact someQ_i q'
      · have z' : half ≤ x := by omega
        obtain ⟨h3, h4⟩ := gx z'
        obtain ⟨c, d, e1, e2⟩ := cell_pair h3 h4
        have e : (x : Int) - (half : Int) = ((x - half : Nat) : Int) := by omega
        simp [z, z', n4, n5, hu, e, e2, ix_first, q_idx]
        rw [e1] at q'
        exact someQ_i (by simpa [z, gn] using q')
    · simp [-v_rB, n3]
      rw [v_rB]
      by_cases z : x < half
      · have z' : ¬ half ≤ x := by omega
        simp [z, z', n4, n5, hu] at q' ⊢
        exact someQ_i q'
      · have z' : half ≤ x := by omega
        obtain ⟨h3, h4⟩ := gx z'
        obtain ⟨c, d, e1, e2⟩ := cell_pair h3 h4
        have e : (x : Int) - (half : Int) = ((x - half : Nat) : Int) := by omega
        simp [z, z', n4, n5, hu, e, e2, ix_second, q_idx]
        rw [e1] at q'
        exact someQ_i (by simpa [z, gn] using q')
  | .bi s a b, L, h, Q, X, ok, hL, q => by
    obtain ⟨n, rfl⟩ : ∃ n, L = n + 1 := ⟨L - 1, by omega⟩
    obtain ⟨e1, e2⟩ := bn_ne ok.1
    have e3 : ¬ s = .paired ∧ ¬ s = .first ∧ ¬ s = .second := by rcases ok.1.h with rfl | rfl | rfl | rfl <;> decide
    simp only [CE.dep] at hL
    refine wC_i S.cv rfl ?_
    simp [-v_rB, c__law_core_value, List.replicate, CE.d]
    rw [v_rB]
    simp [-v_rB, n1, e1]
    rw [v_rB]
    simp [-v_rB, n2, e2]
    rw [v_rB]
    simp [-v_rB, cut1]
    refine comp_by (fun i acc h' => Sub h h' ∧ acc = ([.int (val half vs cs a), .int (val half vs cs b)] : List D).take i) ⟨sub_refl, rfl⟩ (fun _ _ _ _ _ => trivial) ?_ ?_
    · rintro i x acc h' N hx ⟨sb, rfl⟩ hN
      simp only [v_fixi] at hx
      rcases (show (i = 0 ∧ x = a.d) ∨ (i = 1 ∧ x = b.d) by
        match i with
        | 0 => simp at hx; exact .inl ⟨rfl, hx.symm⟩
        | 1 => simp at hx; exact .inr ⟨rfl, hx.symm⟩
        | i + 2 => simp at hx) with ⟨rfl, rfl⟩ | ⟨rfl, rfl⟩
      · simp [wipe]
        refine law_value_i S h2 g hv a ok.2.1 (by omega) fun h'' s'' => ?_
        try simp
        exact hN _ _ ⟨sb.trans s'', by simp⟩
      · simp [wipe]
        refine law_value_i S h2 g hv b ok.2.2 (by omega) fun h'' s'' => ?_
        try simp
        exact hN _ _ ⟨sb.trans s'', by simp⟩
    rintro _ h1 ⟨sb, rfl⟩
    simp [-v_rB]
    intro u nu
    have sb2 := sb.new nu (o := .lst [.int (val half vs cs a), .int (val half vs cs b)])
    have q' : Q (.int (bval half s (val half vs cs a) (val half vs cs b))) (put h1 u (.lst [.int (val half vs cs a), .int (val half vs cs b)])) := q _ sb2
    have hu : put h1 u (.lst [.int (val half vs cs a), .int (val half vs cs b)]) u = some (.lst [.int (val half vs cs a), .int (val half vs cs b)]) := put_self
    generalize val half vs cs a = x at *
    generalize val half vs cs b = y at *
    generalize put h1 u (.lst [.int x, .int y]) = h2' at *
    have hp : 0 < half := by omega
    unfold bval at q'
    rw [v_rB]
    simp [-v_rB, n3, e3]
    rw [v_rB]
    simp [-v_rB, n4, n5, e3]
    rw [v_rB]
    rcases ok.1.h with rfl | rfl | rfl | rfl
    · simp [-v_rB, n9]
      rw [v_rB]
      simp [-v_rB, hu]
      refine lnum_i (by omega) S ?_
      rw [v_rB]
      simp [-v_rB, hu]
      refine lnum_i (by omega) S ?_
      rw [v_rB]
      simp [-v_rB, n8]
      rw [v_rB]
      simp [n6, hp]
      exact someQ_i (by simpa using q')
    · simp [-v_rB, n9]
      rw [v_rB]
      simp [-v_rB, hu]
      refine lnum_i (by omega) S ?_
      rw [v_rB]
      simp [-v_rB, hu]
      refine lnum_i (by omega) S ?_
      rw [v_rB]
      simp [-v_rB, n8]
      rw [v_rB]
      have hy : nz half y < half := by unfold nz; split <;> omega
      have e : ((nz half x : Int) + (half : Int) - (nz half y : Int)) % (half : Int) = (((nz half x + half - nz half y) % half : Nat) : Int) := by
        rw [Int.natCast_emod]
        congr 1
        omega
      simp [n6, hp, e]
      exact someQ_i (by simpa using q')
    · simp [-v_rB, n9]
      rw [v_rB]
      simp [-v_rB, hu]
      refine lnum_i (by omega) S ?_
      rw [v_rB]
      simp [-v_rB, hu]
      refine lnum_i (by omega) S ?_
      rw [v_rB]
      by_cases z : nz half x < nz half y
      · simp [z, n8] at q' ⊢
        exact someQ_i q'
      · simp [z, n8] at q' ⊢
        exact someQ_i q'
    · by_cases z : x = y
      · simp [z, n9, hu] at q' ⊢
        exact someQ_i q'
      · have z' : ¬ (x : Int) = (y : Int) := by omega
        simp [z, z', n9, hu] at q' ⊢
        exact someQ_i q'
/-! ### an item put in a place -/
theorem put_e {xs : List D} {i : Nat} {x : D} (hi : i < xs.length) : cut xs none (some (i : Int)) ++ x :: cut xs (some ((i : Int) + 1)) none = xs.set i x := by
  have e1 : ((i : Int) + 1) = ((i + 1 : Nat) : Int) :=
      by omega
  rw [cut_take (by omega), e1, cut_drop (by omega), List.set_eq_take_append_cons_drop, if_pos hi]
theorem with_i (hL : 1 ≤ L) (S : SV P) {xs : List D} {i : Nat} {x : D} (hi : i < xs.length) (hl : xs.length ≤ 10000) (q : Q (.tup (xs.set i x)) h) : wC P L "with_item_at" [.tup xs, .int i, x] h Q X := by
  obtain ⟨n, rfl⟩ : ∃ n, L = n + 1 := ⟨L - 1, by omega⟩
  refine wC_i S.wi rfl ?_
  have l1 := cut_len xs none (some (i : Int))
  have l2 := cut_len xs (some ((i : Int) + 1)) none
  have l3 : (cut xs none (some (i : Int))).length + 1 ≤ 16777216 := by omega
  have l4 : (cut xs none (some (i : Int))).length + ((cut xs (some ((i : Int) + 1)) none).length + 1) ≤ 16777216 := by omega
  have l5 : (cut xs none (some (i : Int))).length + 1 + (cut xs (some ((i : Int) + 1)) none).length ≤ 16777216 := by omega
  simp [c_with_item_at, l3, l4, l5]
  rw [put_e hi]
  exact someQ_i q
theorem lput_i (hL : 1 ≤ L) (S : SL P) {xs : List D} {i : Nat} {x : D} (hi : i < xs.length) (hl : xs.length ≤ 10000) (q : Q (.tup (xs.set i x)) h) : wC P L "_law_put" [.tup xs, .int i, x] h Q X := by
  obtain ⟨n, rfl⟩ : ∃ n, L = n + 1 := ⟨L - 1, by omega⟩
  refine wC_i S.pt rfl ?_
  have l1 := cut_len xs none (some (i : Int))
  have l2 := cut_len xs (some ((i : Int) + 1)) none
  have l3 : (cut xs none (some (i : Int))).length + 1 ≤ 16777216 := by omega
  have l4 : (cut xs none (some (i : Int))).length + ((cut xs (some ((i : Int) + 1)) none).length + 1) ≤ 16777216 := by omega
  have l5 : (cut xs none (some (i : Int))).length + 1 + (cut xs (some ((i : Int) + 1)) none).length ≤ 16777216 := by omega
  simp [c__law_put, l3, l4, l5]
  rw [put_e hi]
  exact someQ_i q
/-! ### lights of a value -/
def lbits (half : Nat) (m x : Nat) : List Nat := (List.range m).map fun k => nz half x / 2 ^ k % 2
theorem bits_i (hL : 2 ≤ L) (S : ST P) {m x : Nat} (hm : m ≤ 10000) (q : Q (.tup (nL (lbits half m x))) h) : wC P L "bits_shown" [.int half, .int m, .int x] h Q X := by
  obtain ⟨n, rfl⟩ : ∃ n, L = n + 1 := ⟨L - 1, by omega⟩
  have s1 : small62 (m : Int) = true := by simp [small62]; omega
  refine wC_i S.bs rfl ?_
  simp [c_bits_shown, List.replicate]
  refine nz_i (by omega) S.toSV ?_
  simp [s1]
  refine comp_m (fun y => .int ((nz half x / 2 ^ (dI y).toNat % 2 : Nat) : Int)) trivial (by simp; omega) (fun y hy z hz => ?_) ?_
  · obtain ⟨c, hc, rfl⟩ := rngL_mem hy
    simp [wipe]
    simpa using hz
  · have e : (rngL 0 m).map (fun y => D.int ((nz half x / 2 ^ (dI y).toNat % 2 : Nat) : Int)) = nL (lbits half m x) := by simp [rngL, nL, lbits, Function.comp_def]
    simp only [v_fixi, e]
    try simp
    exact someQ_i q
theorem lbits_i (hL : 2 ≤ L) (S : SL P) {m x : Nat} (hm : m ≤ 10000) (q : Q (.tup (nL (lbits half m x))) h) : wC P L "_law_bits" [.int half, .int m, .int x] h Q X := by
  obtain ⟨n, rfl⟩ : ∃ n, L = n + 1 := ⟨L - 1, by omega⟩
  have s1 : small62 (m : Int) = true := by simp [small62]; omega
  refine wC_i S.bt rfl ?_
  simp [c__law_bits, List.replicate]
  refine lnum_i (by omega) S ?_
  simp [s1]
  intro a na
  refine for_f (fun i env h' => h' = put h a (.lst (nL (lbits half i x))) ∧ ∃ o, env = [some (.int half), some (.int m), some (.int x), some (.int ((nz half x / 2 ^ i : Nat) : Int)), some (.loc a), o]) ⟨rfl, none, by simp⟩ ?_ ?_
  · rintro i y env h' N hx ⟨rfl, o, rfl⟩ hN
    obtain ⟨hi, rfl⟩ := rngL_at hx
    have hi' : i < m := by simpa using hi
    have l1 : (lbits half i x).length < 16777216 := by simp [lbits]; omega
    simp [l1]
    refine hN _ _ ⟨?_, some (.int i), ?_⟩
    · simp [lbits, nL, List.range_succ]
    · have e : (((nz half x / 2 ^ (i + 1) : Nat) : Int)) = ((nz half x / 2 ^ i / 2 : Nat) : Int) := by rw [Nat.pow_succ, Nat.div_div_eq_div_mul]
      simp at e
      simp [e]
  · rintro env h' ⟨rfl, o, rfl⟩
    simp
    exact someQ_s (sub_put na) (by simpa using q)
end
end Cor
end Py
namespace Py
open PySem (Str)
theorem insI_comm (x y : Int) : ∀ l : List Int, insI x (insI y l) = insI y (insI x l)
  | [] => by
    simp only [insI]
    by_cases h1 : x ≤ y <;> by_cases h2 : y ≤ x <;> simp [h1, h2] <;> omega
  | z :: r => by
    have ih := insI_comm x y r
    simp only [insI]
    by_cases h1 : x ≤ z <;> by_cases h2 : y ≤ z <;> by_cases h3 : x ≤ y <;> by_cases h4 : y ≤ x <;> simp [insI, h1, h2, h3, h4, ih] <;> omega
theorem sortI_eqP {xs ys : List Int} (p : xs.Perm ys) : sortI xs = sortI ys := by
  induction p with
  | nil => rfl
  | cons x _ ih => simp only [sortI, ih]
  | swap x y l => simp only [sortI]; exact insI_comm y x _
  | trans _ _ h1 h2 => rw [h1, h2]
theorem sortI_same {xs ys : List Nat} (h1 : xs.Nodup) (h2 : ys.Nodup) (h : ∀ a, a ∈ xs ↔ a ∈ ys) : sortI (xs.map fun (x : Nat) => (x : Int)) = sortI (ys.map fun (x : Nat) => (x : Int)) := sortI_eqP (((List.perm_ext_iff_of_nodup h1 h2).mpr h).map _)
section
variable {half : Nat} {cs : Cs} {vs : List Nat}
theorem fin_least {F : List Nat} (h1 : ∀ r ∈ refs half vs, r ∈ F) (h2 : ∀ c ∈ F, ∀ r ∈ refs half (itms cs c), r ∈ F) : ∀ c ∈ fin half cs vs, c ∈ F := by
  have key : ∀ k, ∀ c ∈ bfs half cs vs k, c ∈ F := by
    intro k
    induction k with
    | zero => exact fun c hc => h1 c (insL_mem0.mp hc)
    | succ k ih =>
      intro c hc
      have hc' : c ∈ step1 half cs (bfs half cs vs k) k := hc
      unfold step1 at hc'
      split at hc'
      · rename_i hk
        rcases insL_mem.mp hc' with h | h
        · exact ih c h
        · rw [gn_get hk] at h
          exact h2 _ (ih _ (List.getElem_mem hk)) c h
      · exact ih c hc'
  exact key cs.length
theorem fin_nd (W : Wc half cs vs) : (fin half cs vs).Nodup := (bfs_ok W _).1
/-- on the way: what is found, and what waits -/
structure Way (half : Nat) (cs : Cs) (vs F W : List Nat) : Prop where
  nd : F.Nodup
  a : ∀ r ∈ refs half vs, r ∈ F ∨ r ∈ W
  b : ∀ c ∈ F, ∀ r ∈ refs half (itms cs c), r ∈ F ∨ r ∈ W
  f : ∀ c ∈ F, c ∈ fin half cs vs
  w : ∀ c ∈ W, c ∈ fin half cs vs
theorem Way.beg (W : Wc half cs vs) : Way half cs vs [] (refs half vs) := ⟨List.nodup_nil, fun r hr => .inr hr, (fun c hc => by cases hc), (fun c hc => by cases hc), fin_refs W⟩
theorem Way.fin {F : List Nat} (y : Way half cs vs F []) : ∀ c, c ∈ F ↔ c ∈ fin half cs vs := fun c => ⟨y.f c, fin_least (fun r hr => (y.a r hr).elim id fun z => by cases z) (fun c hc r hr => (y.b c hc r hr).elim id fun z => by cases z) c⟩
theorem Way.len (W : Wc half cs vs) {F Z : List Nat} (y : Way half cs vs F Z) : F.length ≤ cs.length := nd_len y.nd fun c hc => (fin_ok W c (y.f c hc)).1
end
namespace Cor
section
variable {P : Prog} {L : Nat} {h : AH} {Q : D → AH → Prop} {X : Xc} {half many k : Nat} {vs : List Nat} {cs : Cs}
theorem refs_compi {n : Nat} {env : Env} {i : Nat} {own : List Nat} {h : AH} {Q : List D → AH → Prop} {x : Nat} (hx : ∀ v : Nat, lk ((wipe env own).set x (some (.int v))) 0 = some (.int half)) (hx2 : ∀ v : Nat, lk ((wipe env own).set x (some (.int v))) x = some (.int v)) (hl : vs.length ≤ 100000) (q : Q (nL (refs half vs)) h) :
    CompiG (wC P n) P.gl (.nm x) own (.cmp .ge (.var x) (.var 0)) (.bin .sub (.var x) (.var 0)) env (.fix (nL vs)) h Q := by
  refine compi_m (fun x => decide ((half : Int) ≤ dI x)) (fun x => .int (dI x - half)) trivial (by simp; omega) (fun y hy k hk => ?_) ?_
  · obtain ⟨v, _, rfl⟩ := nL_mem (by simpa using hy)
    simp only [v_tnm, v_cmp, v_var, hx, hx2, gd_some, k_ge, v_bin, o_sub, rv_v, t_bl]
    by_cases z : half ≤ v
    · simp [z] at hk ⊢
      exact hk
    · simp [z] at hk ⊢
      exact hk
  · have e : ((nL vs).filter fun x => decide ((half : Int) ≤ dI x)).map (fun x => D.int (dI x - half)) = nL (refs half vs) := by
      clear q hl hx hx2
      induction vs with
      | nil => rfl
      | cons v r ih =>
        have e1 : nL (v :: r) = .int v :: nL r := rfl
        rw [e1, List.filter_cons]
        unfold refs at ih ⊢
        rw [List.filterMap_cons]
        by_cases z : half ≤ v
        · have e : (v : Int) - (half : Int) = ((v - half : Nat) : Int) := by omega
          simp only [dI_int, Int.ofNat_le, z, decide_true, if_true, List.map_cons, ih, e]
          rfl
        · simp only [dI_int, Int.ofNat_le, z, decide_false, if_false]
          simpa using ih
    simp only [v_fixi, e]
    exact q
theorem referred_i (hL : 1 ≤ L) (S : ST P) (hl : vs.length ≤ 100000) (q : ∀ a, h a = none → Q (.loc a) (put h a (.lst (nL (refs half vs))))) : wC P L "cells_referred_to" [.int half, .tup (nL vs)] h Q X := by
  obtain ⟨n, rfl⟩ : ∃ n, L = n + 1 := ⟨L - 1, by omega⟩
  refine wC_i S.cr rfl ?_
  simp [c_cells_referred_to, List.replicate]
  refine refs_compi (half := half) (x := 3) (i := 0) (fun v => by simp [wipe]) (fun v => by simp [wipe]) hl ?_
  exact fun a na => someQ_i (q a na)
theorem come_to_i (hL : 2 ≤ L) (S : ST P) (W : Wc half cs vs) (q : ∀ h', Sub h h' → Q (.tup (iL (due half cs vs))) h') : wC P L "come_to_in_cells" [.int half, .tup (csD cs), .tup (nL vs)] h Q X := by
  obtain ⟨n, rfl⟩ : ∃ n, L = n + 1 := ⟨L - 1, by omega⟩
  have lv := W.lv
  have lc := W.lc
  refine wC_i S.ct rfl ?_
  simp [-v_rB, c_come_to_in_cells, List.replicate]
  intro a na
  rw [v_rB]
  simp [-v_rB]
  refine referred_i (by omega) S (by omega) fun b nb => ?_
  have ba : b ≠ a := fun e => by rw [e, put_self] at nb; cases nb
  have nb' : h b = none := by rw [put_ne ba] at nb; exact nb
  rw [v_rB, v_cons]
  refine whl_i (fun m env h' => ∃ F Z o5, m = (cs.length - F.length) * 3 + Z.length ∧ Z.length ≤ 1000 + 2 * F.length ∧ Way half cs vs F Z ∧ Sub h h' ∧ h' a = some (.lst (nL F)) ∧ h' b = some (.lst (nL Z)) ∧ env = [some (.int half), some (.tup (csD cs)), some (.tup (nL vs)), some (.loc a), some (.loc b), o5]) (cs.length * 3 + (refs half vs).length) ?_ ?_
  · refine ⟨[], refs half vs, none, by simp, ?_, Way.beg W, (sub_put na).put nb', by rw [put_ne ba.symm, put_self]; rfl, put_self, rfl⟩
    have := refs_len (half := half) (vs := vs)
    simp
    omega
  · rintro m env h' N ⟨F, Z, o5, rfl, zl, y, sb, ha, hb, rfl⟩ hN
    have fl := y.len W
    rcases List.eq_nil_or_concat Z with rfl | ⟨Z', c, ec⟩
    · simp [hb]
      have e : iL (F.map fun (x : Nat) => (x : Int)) = nL F := nL_iL F
      rw [← e] at ha
      simp [n_sortl ha]
      have es : sortI (F.map fun (x : Nat) => (x : Int)) = due half cs vs := sortI_same y.nd (fin_nd W) y.fin
      rw [es]
      exact someQ_i (q _ sb)
    · rw [List.concat_eq_append] at ec
      subst ec
      have cf : c ∈ fin half cs vs := y.w c (by simp)
      obtain ⟨c1, c2⟩ := fin_ok W c cf
      have eZ : nL (Z' ++ [c]) = nL Z' ++ [.int c] := by simp [nL]
      rw [eZ] at hb
      have hb2 : h' b = some (.lst (nL Z' ++ [.int c])) := hb
      have mp : mtD .pop (.v (.loc b)) [] h' = some (.v (.int c), put h' b (.lst (nL Z'))) := by simp [mtD, mLs, hb2]
      have hz : (0 : Int) < (Z'.length : Int) + 1 := by omega
      simp [-v_rB, hb2, hz]
      rw [mp]
      simp [-v_rB]
      rw [v_rB]
      have ha2 : put h' b (.lst (nL Z')) a = some (.lst (nL F)) := by rw [put_ne ba.symm]; exact ha
      simp only [List.length_append, List.length_cons, List.length_nil] at zl
      by_cases z : c ∈ F
      · simp [k_ninNl ha2, z]
        refine hN _ _ _ ?_ ⟨F, Z', _, rfl, by omega, ⟨y.nd, fun r hr => ?_, fun d hd r hr => ?_, y.f, fun d hd => y.w d (by simp [hd])⟩, sb.put nb', ha2, put_self, rfl⟩
        · simp
        · rcases y.a r hr with h1 | h1
          · exact .inl h1
          · simp at h1
            rcases h1 with h1 | h1
            · exact .inr h1
            · exact .inl (h1 ▸ z)
        · rcases y.b d hd r hr with h1 | h1
          · exact .inl h1
          · simp at h1
            rcases h1 with h1 | h1
            · exact .inr h1
            · exact .inl (h1 ▸ z)
      · have cap : F.length < 16777216 := by omega
        simp [-v_rB, k_ninNl ha2, z, ha2, cap]
        rw [v_rB]
        obtain ⟨u, v, e1, e2⟩ := cell_pair c1 c2
        have nd2 : (F ++ [c]).Nodup := by
          rw [List.nodup_append]
          exact ⟨y.nd, by simp, fun a ha b hb e => by rw [List.mem_singleton.mp hb] at e; exact z (e ▸ ha)⟩
        have y2 : Way half cs vs (F ++ [c]) (Z' ++ refs half (itms cs c)) := by
          refine ⟨nd2, fun r hr => ?_, fun d hd r hr => ?_, fun d hd => ?_, fun d hd => ?_⟩
          · rcases y.a r hr with h1 | h1
            · exact .inl (by simp [h1])
            · simp at h1
              rcases h1 with h1 | h1
              · exact .inr (by simp [h1])
              · exact .inl (by simp [h1])
          · rcases List.mem_append.mp hd with hd | hd
            · rcases y.b d hd r hr with h1 | h1
              · exact .inl (by simp [h1])
              · simp at h1
                rcases h1 with h1 | h1
                · exact .inr (by simp [h1])
                · exact .inl (by simp [h1])
            · rw [List.mem_singleton.mp hd] at hr
              exact .inr (by simp [hr])
          · rcases List.mem_append.mp hd with hd | hd
            · exact y.f d hd
            · rw [List.mem_singleton.mp hd]; exact cf
          · rcases List.mem_append.mp hd with hd | hd
            · exact y.w d (by simp [hd])
            · exact fin_closed W cf d hd
        have fl2 := y2.len W
        simp only [List.length_append, List.length_cons, List.length_nil] at fl2
        have rl := refs_len (half := half) (vs := itms cs c)
        have il : (itms cs c).length ≤ 2 := itm_len
        have hb3 : put (put h' b (.lst (nL Z'))) a (.lst (nL F ++ [.int c])) b = some (.lst (nL Z')) := by rw [put_ne ba, put_self]
        have ei : nL (itms cs c) = [.int u, .int v] := by rw [e1]; rfl
        simp only [v_cons, v_expr, v_mt, v_var, v_lkS, v_lk0, gd_some, q_ext hb3, true_and, v_esc, v_esn, v_call, v_ix, rv_v, x_t, e2]
        rw [← ei]
        refine referred_i (by omega) S (by omega) fun d nd => ?_
        have db : d ≠ b := fun e => by rw [e, hb3] at nd; cases nd
        have da : d ≠ a := fun e => by rw [e, put_self] at nd; cases nd
        have ll : (nL Z').length + (nL (refs half (itms cs c))).length ≤ 16777216 := by rw [nL_len, nL_len]; omega
        have me : mtD .extend (.v (.loc b)) [.loc d] (put (put (put h' b (.lst (nL Z'))) a (.lst (nL F ++ [.int c]))) d (.lst (nL (refs half (itms cs c))))) = some (.v .non, put (put (put (put h' b (.lst (nL Z'))) a (.lst (nL F ++ [.int c]))) d (.lst (nL (refs half (itms cs c))))) b (.lst (nL Z' ++ nL (refs half (itms cs c))))) := by
          have x1 : put (put (put h' b (.lst (nL Z'))) a (.lst (nL F ++ [.int c]))) d (.lst (nL (refs half (itms cs c)))) b = some (.lst (nL Z')) := by rw [put_ne db.symm]; exact hb3
          simp [mtD, mLs, x1] at ll ⊢
          exact ll
        rw [me]
        have s1 : Sub h (put h' b (.lst (nL Z'))) := sb.put nb'
        have s2 : Sub h (put (put h' b (.lst (nL Z'))) a (.lst (nL F ++ [.int c]))) := s1.put na
        simp
        refine hN _ _ _ ?_ ⟨F ++ [c], Z' ++ refs half (itms cs c), _, rfl, ?_, y2, (s2.new nd).put nb', ?_, ?_, rfl⟩
        · simp
          omega
        · simp
          omega
        · rw [put_ne ba.symm, put_ne da.symm, put_self]
          simp [nL]
        · rw [put_self]
          simp [nL]
end
end Cor
end Py
namespace Py
open PySem (Str)
section
variable {half : Nat} {cs : Cs} {vs : List Nat}
theorem Way.skip {F Z M : List Nat} {c : Nat} (y : Way half cs vs F (c :: Z ++ M)) (hc : c ∈ F) : Way half cs vs F (Z ++ M) := by
  refine ⟨y.nd, fun r hr => ?_, fun d hd r hr => ?_, y.f, fun d hd => y.w d (by simp at hd ⊢; exact .inr hd)⟩
  · rcases y.a r hr with h | h
    · exact .inl h
    · simp at h
      rcases h with h | h
      · exact .inl (h ▸ hc)
      · exact .inr (by
            simpa using h)
  · rcases y.b d hd r hr with h | h
    · exact .inl h
    · simp at h
      rcases h with h | h
      · exact .inl (h ▸ hc)
      · exact .inr (by
            simpa using h)
theorem Way.take {F Z M : List Nat} {c : Nat} (W : Wc half cs vs) (y : Way half cs vs F (c :: Z ++ M)) (hc : c ∉ F) : Way half cs vs (F ++ [c]) (Z ++ (M ++ refs half (itms cs c))) := by
  have cf : c ∈ Py.fin half cs vs := y.w c (by simp)
  refine ⟨?_, fun r hr => ?_, fun d hd r hr => ?_, fun d hd => ?_, fun d hd => ?_⟩
  · rw [List.nodup_append]
    exact ⟨y.nd, by simp, fun a ha b hb e => by rw [List.mem_singleton.mp hb] at e; exact hc (e ▸ ha)⟩
  · rcases y.a r hr with h | h
    · exact .inl (by simp [h])
    · simp at h
      rcases h with h | h | h
      · exact .inl (by simp [h])
      · exact .inr (by simp [h])
      · exact .inr (by simp [h])
  · rcases List.mem_append.mp hd with hd | hd
    · rcases y.b d hd r hr with h | h
      · exact .inl (by simp [h])
      · simp at h
        rcases h with h | h | h
        · exact .inl (by simp [h])
        · exact .inr (by simp [h])
        · exact .inr (by simp [h])
    · rw [List.mem_singleton.mp hd] at hr
      exact .inr (by simp [hr])
  · rcases List.mem_append.mp hd with hd | hd
    · exact y.f d hd
    · rw [List.mem_singleton.mp hd]; exact cf
  · simp at hd
    rcases hd with h | h | h
    · exact y.w d (by simp [h])
    · exact y.w d (by simp [h])
    · exact fin_closed W cf d h
end
namespace Cor
section
variable {P : Prog} {L : Nat} {h : AH} {Q : D → AH → Prop} {X : Xc} {half many k : Nat} {vs : List Nat} {cs : Cs}
theorem law_come_i (hL : 2 ≤ L) (S : SL P) (W : Wc half cs vs) (q : ∀ a h' F, Sub h h' → h a = none → F.Nodup → (∀ c, c ∈ F ↔ c ∈ fin half cs vs) → h' a = some (.lst (nL F)) → Q (.loc a) h') : wC P L "_law_come_to" [.int half, .tup (csD cs), .tup (nL vs)] h Q X := by
  obtain ⟨n, rfl⟩ : ∃ n, L = n + 1 := ⟨L - 1, by omega⟩
  have lv := W.lv
  have lc := W.lc
  have m2 : ml 2 := ml_of (by decide) (by decide)
  have s1 : small62 (2 * (cs.length : Int) + 2) = true := by simp [small62]; omega
  refine wC_i S.ct rfl ?_
  simp [-v_rB, c__law_come_to, List.replicate]
  intro a na
  rw [v_rB]
  simp [-v_rB]
  refine refs_compi (half := half) (x := 9) (i := 0) (fun v => by simp [wipe]) (fun v => by simp [wipe]) (by omega) ?_
  intro r nr
  have ra : r ≠ a := fun e => by rw [e, put_self] at nr; cases nr
  have nr' : h r = none := by rw [put_ne ra] at nr; exact nr
  have rl := refs_len (half := half) (vs := vs)
  rw [v_rB]
  simp [-v_rB, m2, s1]
  refine for_f (fun t env h' => ∃ F Z r o5 o6 o7, Way half cs vs F Z ∧ Z.length ≤ 1000 + 2 * F.length ∧ (Z = [] ∨ t ≤ F.length) ∧ Sub h h' ∧ r ≠ a ∧ h' a = some (.lst (nL F)) ∧ h' r = some (.lst (nL Z)) ∧ env = [some (.int half), some (.tup (csD cs)), some (.tup (nL vs)), some (.loc a), some (.loc r), o5, o6, o7, none, none]) ?_ ?_ ?_
  · exact ⟨[], refs half vs, r, none, none, none, Way.beg W, by simp; omega, .inr (Nat.zero_le _), (sub_put na).put nr', ra, by rw [put_ne ra.symm, put_self]; rfl, put_self, rfl⟩
  · rintro t x env h' N hx ⟨F, Z, r, o5, o6, o7, y, zl, zt, sb, ra, ha, hr, rfl⟩ hN
    have fl := y.len W
    simp [-v_rB]
    intro m nm
    have ma : m ≠ a := fun e => by rw [e, ha] at nm; cases nm
    have mr : m ≠ r := fun e => by rw [e, hr] at nm; cases nm
    rw [v_rB]
    simp [-v_rB, put_ne mr.symm, hr]
    refine for_l (fun j env h2 => ∃ F2 M m o7, Way half cs vs F2 (Z.drop j ++ M) ∧ M.length ≤ 2 * F2.length ∧ (F.length ≤ F2.length ∧ F2.length ≤ F.length + j) ∧ (M = [] ∨ F.length < F2.length) ∧ Sub h h2 ∧ m ≠ a ∧ h2 a = some (.lst (nL F2)) ∧ h2 r = some (.lst (nL Z)) ∧ h2 m = some (.lst (nL M)) ∧
      env = [some (.int half), some (.tup (csD cs)), some (.tup (nL vs)), some (.loc a), some (.loc r), some x, some (.loc m), o7, none, none]) ?_ ?_ ?_ ?_
    · exact ⟨F, [], m, _, by simpa using y, by simp, ⟨Nat.le_refl _, Nat.le_refl _⟩, .inl rfl, sb.new nm, ma, by rw [put_ne ma.symm]; exact ha, by rw [put_ne mr.symm]; exact hr, by rw [put_self]; rfl, rfl⟩
    · rintro j env h2 _ ⟨F2, M, m, o7, _, _, _, _, _, _, _, hr2, _, _⟩
      exact hr2
    · rintro j z env h2 N2 hz ⟨F2, M, m, o7, y2, ml2, fle, mp, sb2, ma, ha2, hr2, hm2, rfl⟩ hN2
      obtain ⟨c, hc, rfl⟩ : ∃ c, Z[j]? = some c ∧ z = .int (c : Nat) := by
        simp only [nL, List.getElem?_map, Option.map_eq_some_iff] at hz
        obtain ⟨v, a, b⟩ := hz
        exact ⟨v, a, b.symm⟩
      have hj := (List.getElem?_eq_some_iff.mp hc).1
      have ed : Z.drop j = c :: Z.drop (j + 1) := by
        rw [List.drop_eq_getElem_cons hj, (List.getElem?_eq_some_iff.mp hc).2]
      rw [ed] at y2
      by_cases cm : c ∈ F2
      · simp [k_ninNl ha2, cm]
        exact hN2 _ _ ⟨F2, M, m, _, y2.skip cm, ml2, by omega, mp, sb2, ma, ha2, hr2, hm2, rfl⟩
      · have y3 := y2.take W cm
        have cf : c ∈ fin half cs vs := y2.w c (by simp)
        obtain ⟨c1, c2⟩ := fin_ok W c cf
        obtain ⟨u, v, e1, e2⟩ := cell_pair c1 c2
        have fl3 := y3.len W
        simp only [List.length_append, List.length_cons, List.length_nil] at fl3
        have cap : F2.length < 16777216 := by omega
        have ei : D.tup [.int u, .int v] = .tup (nL (itms cs c)) := by rw [e1]; rfl
        have il : (itms cs c).length ≤ 2 := itm_len
        have rl := refs_len (half := half) (vs := itms cs c)
        simp [-v_rB, k_ninNl ha2, cm, ha2, cap]
        rw [v_rB]
        simp [-v_rB, e2]
        rw [show [D.int (u : Int), .int v] = nL (itms cs c) by rw [e1]; rfl]
        refine refs_compi (half := half) (x := 9) (i := 0) (fun v => by simp [wipe]) (fun v => by simp [wipe]) (by omega) ?_
        have hm3 : put h2 a (.lst (nL F2 ++ [.int c])) m = some (.lst (nL M)) := by rw [put_ne ma]; exact hm2
        have ll : (nL M).length + (nL (refs half (itms cs c))).length ≤ 16777216 := by rw [nL_len, nL_len]; omega
        rw [o_addlo hm3 ll]
        simp
        intro w nw
        have wa : w ≠ a := fun e => by rw [e, put_self] at nw; cases nw
        have wr : w ≠ r := fun e => by rw [e, put_ne ra, hr2] at nw; cases nw
        refine hN2 _ _ ⟨F2 ++ [c], M ++ refs half (itms cs c), w, _, y3, ?_, ?_, ?_, (sb2.put na).new nw, wa, ?_, ?_, ?_, rfl⟩
        · simp; omega
        · simp; omega
        · right; simp; omega
        · rw [put_ne wa.symm, put_self]; simp [nL]
        · rw [put_ne wr.symm, put_ne ra]; exact hr2
        · rw [put_self]; simp [nL]
    · rintro env h2 ⟨F2, M, m, o7, y2, ml2, fle, mp, sb2, ma, ha2, hr2, hm2, rfl⟩
      rw [nL_len, List.drop_length, List.nil_append] at y2
      rw [v_nx, v_rB]
      simp
      refine hN _ _ ⟨F2, M, m, _, _, _, y2, by omega, ?_, sb2, ma, ha2, hm2, rfl⟩
      rcases mp with h1 | h1
      · exact .inl h1
      · rcases zt with h3 | h3
        · subst h3
          simp at fle
          omega
        · right; omega
  · rintro env h' ⟨F, Z, r, o5, o6, o7, y, zl, zt, sb, ra, ha, hr, rfl⟩
    have fl := y.len W
    have z0 : Z = [] := by
      rcases zt with h1 | h1
      · exact h1
      · rw [rngL_length] at h1
        omega
    subst z0
    simp
    exact someQ_i (q a h' F sb na y.nd y.fin ha)
end
end Cor
end Py
namespace Py
open PySem (Str)
namespace Cor
/-! ### states -/
structure Stt where
  b : Nat
  p : Nat
  vs : List Nat
  cs : Cs
  ls : List Nat
  deriving DecidableEq
def Stt.d (s : Stt) : D := .tup [.int s.b, .int s.p, .tup (nL s.vs), .tup (csD s.cs), .tup (nL s.ls)]
def fidx (cs : Cs) : Option Nat := cs.findIdx? Option.isNone
theorem eqv_cD (o : Option (Nat × Nat)) : eqv (cD o) .non = o.isNone := by cases o <;> rfl
theorem idx_fidx (cs : Cs) : idx (csD cs) .non = fidx cs := by
  unfold idx fidx csD
  rw [List.findIdx?_map]
  congr 1
  funext o
  exact eqv_cD o
theorem fidx_some {cs : Cs} {j : Nat} (h : fidx cs = some j) : j < cs.length ∧ cs[j]?.getD none = none ∧ ∀ k, k < j → cs[k]?.getD none ≠ none := by
  obtain ⟨h1, h2, h3⟩ := List.findIdx?_eq_some_iff_getElem.mp h
  refine ⟨h1, ?_, fun k hk => ?_⟩
  · simp only [List.getElem?_eq_getElem h1, Option.getD_some]
    exact Option.isNone_iff_eq_none.mp h2
  · have := h3 k hk
    simp only [List.getElem?_eq_getElem (show k < cs.length by omega), Option.getD_some]
    intro e
    rw [e] at this
    exact this rfl
theorem fidx_none {cs : Cs} (h : fidx cs = none) : ∀ k, k < cs.length → cs[k]?.getD none ≠ none := by
  intro k hk e
  have := List.findIdx?_eq_none_iff.mp h cs[k] (List.getElem_mem hk)
  simp only [List.getElem?_eq_getElem hk, Option.getD_some] at e
  rw [e] at this
  cases this
theorem in_non (cs : Cs) (h : AH) : cmpD .inn (.v .non) (.v (.tup (csD cs))) h = some (fidx cs).isSome := by
  rw [fc_in]
  congr 1
  unfold fidx
  rw [List.findIdx?_isSome]
  unfold csD
  rw [List.any_map]
  congr 1
  funext o
  exact eqv_cD o
theorem ix_non {cs : Cs} {j : Nat} (hj : fidx cs = some j) (h : AH) : mtD .index (.v (.tup (csD cs))) [.non] h = some (.v (.int j), h) := by
  unfold mtD
  simp only [s_tupV]
  rw [csD_pu, idx_fidx, hj]
  simp [pu]
theorem filt_range (p : Nat → Bool) : ∀ (n x : Nat) (r : List Nat), (List.range n).filter p = x :: r → x < n ∧ p x = true ∧ ∀ y, y < x → p y = false
  | 0, x, r, h => by simp at h
  | n + 1, x, r, h => by
    rw [List.range_succ, List.filter_append] at h
    cases e : (List.range n).filter p with
    | nil =>
      rw [e] at h
      simp only [List.nil_append, List.filter_cons, List.filter_nil] at h
      split at h
      · rename_i hp
        injection h with h1 h2
        subst h1
        refine ⟨by omega, hp, fun y hy => ?_⟩
        rw [List.filter_eq_nil_iff] at e
        have := e y (List.mem_range.mpr hy)
        simpa using this
      · cases h
    | cons z t =>
      rw [e] at h
      injection h with h1 h2
      subst h1
      obtain ⟨a, b, c⟩ := filt_range p n z t e
      exact ⟨by omega, b, c⟩
def frees (cs : Cs) : List Nat := (List.range cs.length).filter fun k => (cs[k]?.getD none).isNone
theorem frees_none {cs : Cs} (h : fidx cs = none) : frees cs = [] := by
  unfold frees
  rw [List.filter_eq_nil_iff]
  intro k hk
  rw [List.mem_range] at hk
  have := fidx_none h k hk
  cases e : cs[k]?.getD none with
  | none => exact absurd e this
  | some p => simp
theorem frees_some {cs : Cs} {j : Nat} (h : fidx cs = some j) : ∃ r, frees cs = j :: r := by
  obtain ⟨h1, h2, h3⟩ := fidx_some h
  cases e : frees cs with
  | nil =>
    unfold frees at e
    rw [List.filter_eq_nil_iff] at e
    have := e j (List.mem_range.mpr h1)
    rw [h2] at this
    simp at this
  | cons x r =>
    obtain ⟨a, b, c⟩ := filt_range _ _ _ _ e
    refine ⟨r, ?_⟩
    congr 1
    rcases Nat.lt_trichotomy x j with z | z | z
    · have := h3 x z
      rw [Option.isNone_iff_eq_none] at b
      exact absurd b this
    · exact z
    · have := c j z
      rw [h2] at this
      cases this
/-! ### steps -/
def pairS (half N : Nat) (s : Stt) (v x y : Nat) : Stt := match fidx s.cs with
  | some j => ⟨s.b, s.p + 1, s.vs.set v (half + j), s.cs.set j (some (x, y)), s.ls⟩
  | none => if (fin half s.cs s.vs).length = s.cs.length then ⟨N, 0, s.vs, s.cs, s.ls⟩ else ⟨s.b, s.p, s.vs, left half s.cs s.vs, s.ls⟩
def cmdS (half N : Nat) (s : Stt) (heard : Nat) : Cmd → Stt
  | .pair v e f => pairS half N s v (val half s.vs s.cs e) (val half s.vs s.cs f)
  | .hear v => ⟨s.b, s.p + 1, s.vs.set v (heard % half), s.cs, s.ls⟩
  | .shw e => ⟨s.b, s.p + 1, s.vs, s.cs, lbits half s.ls.length (val half s.vs s.cs e)⟩
  | .set v e => ⟨s.b, s.p + 1, s.vs.set v (val half s.vs s.cs e), s.cs, s.ls⟩
def jmpS (half : Nat) (s : Stt) : Jmp → Stt
  | .halt => s
  | .goto b => ⟨b, 0, s.vs, s.cs, s.ls⟩
  | .test e b c => ⟨if val half s.vs s.cs e = 0 then c else b, 0, s.vs, s.cs, s.ls⟩
def stepS (half : Nat) (p : Pgm) (s : Stt) (heard : Nat) : Stt := match p.bs[s.b]? with
  | none => s
  | some blk => match blk.1[s.p]? with
    | some c => cmdS half p.bs.length s heard c
    | none => jmpS half s blk.2
structure SOk (half k : Nat) (p : Pgm) (s : Stt) : Prop where
  b : s.b ≤ p.bs.length
  g : Gs half s.vs s.cs
  vl : s.vs.length = p.many
  cl : s.cs.length ≤ 100
  ml : p.many ≤ 100
  ll : s.ls.length ≤ 100
theorem Gs.W {half : Nat} {vs : List Nat} {cs : Cs} (g : Gs half vs cs) (hv : vs.length ≤ 100) (hc : cs.length ≤ 100) : Wc half cs vs := by
  refine ⟨fun c h => ?_, fun k hk c h => ?_, by omega, by omega⟩
  · unfold refs at h
    rw [List.mem_filterMap] at h
    obtain ⟨x, hx, e⟩ := h
    split at e
    · cases e
      obtain ⟨i, hi, e2⟩ := List.mem_iff_getElem.mp hx
      have := g.v i hi
      rw [gn_get hi, e2] at this
      exact this (by assumption)
    · cases e
  · unfold refs at h
    rw [List.mem_filterMap] at h
    obtain ⟨x, hx, e⟩ := h
    split at e
    · cases e
      exact g.c k hk x hx (by assumption)
    · cases e
theorem gn_set {xs : List Nat} {i j x : Nat} (hi : i < xs.length) : gn (xs.set i x) j = if i = j then x else gn xs j := by
  unfold gn
  rw [List.getElem?_set]
  by_cases e : i = j
  · subst e; simp [hi]
  · simp [e]
theorem cs_set {cs : Cs} {i j : Nat} {o : Option (Nat × Nat)} (hi : i < cs.length) : (cs.set i o)[j]?.getD none = if i = j then o else cs[j]?.getD none := by
  rw [List.getElem?_set]
  by_cases e : i = j
  · subst e; simp [hi]
  · simp [e]
theorem Gv.up {half j x : Nat} {cs : Cs} {q : Nat × Nat} (hj : j < cs.length) (h : Gv half cs x) : Gv half (cs.set j (some q)) x := fun z => by
  obtain ⟨h1, h2⟩ := h z
  refine ⟨by rw [List.length_set]; exact h1, ?_⟩
  rw [cs_set hj]
  split
  · simp
  · exact h2
theorem step_ok {half k : Nat} {p : Pgm} (ok : POk half k p) (h2 : 2 ≤ half) {s : Stt} (so : SOk half k p s) (heard : Nat) : SOk half k p (stepS half p s heard) := by
  have hb := so.b
  have vl := so.vl
  unfold stepS
  cases e : p.bs[s.b]? with
  | none => exact so
  | some blk =>
    have bo := ok.b blk (List.mem_of_getElem? e)
    have put_ok : ∀ v x, v < p.many → Gv half s.cs x → Gs half (s.vs.set v x) s.cs := fun v x hv hx => ⟨fun i hi => by
      rw [List.length_set] at hi
      rw [gn_set (by omega)]
      split
      · exact hx
      · exact so.g.v i hi, so.g.c⟩
    simp only
    cases e2 : blk.1[s.p]? with
    | none =>
      have jo := bo.j
      cases ej : blk.2 with
      | halt => exact so
      | goto b =>
        rw [ej] at jo
        simp only [Jmp.Ok] at jo
        exact ⟨by show b ≤ _; omega, so.g, so.vl, so.cl, so.ml, so.ll⟩
      | test e' b c =>
        rw [ej] at jo
        have h1 := jo.2.1
        have h3 := jo.2.2
        refine ⟨?_, so.g, so.vl, so.cl, so.ml, so.ll⟩
        show (if val half s.vs s.cs e' = 0 then c else b) ≤ _
        split <;> omega
    | some c =>
      have co := bo.c c (List.mem_of_getElem? e2)
      cases c with
      | hear v => exact ⟨hb, put_ok v _ co (gv_lt (Nat.mod_lt _ (by omega))), by show (s.vs.set _ _).length = _; rw [List.length_set]; exact vl, so.cl, so.ml, so.ll⟩
      | shw e' => exact ⟨hb, so.g, vl, so.cl, so.ml, by show (lbits _ _ _).length ≤ _; simp [lbits]; exact so.ll⟩
      | set v e' => exact ⟨hb, put_ok v _ co.1 (val_g h2 so.g vl.symm e' co.2.1), by show (s.vs.set _ _).length = _; rw [List.length_set]; exact vl, so.cl, so.ml, so.ll⟩
      | pair v x y =>
        have gx := val_g h2 so.g vl.symm x co.2.1.1
        have gy := val_g h2 so.g vl.symm y co.2.2.1
        show SOk half k p (pairS half p.bs.length s v _ _)
        unfold pairS
        cases ef : fidx s.cs with
        | some j =>
          obtain ⟨j1, j2, j3⟩ := fidx_some ef
          refine ⟨hb, ⟨fun i hi => ?_, fun c hc z hz => ?_⟩, by show (s.vs.set _ _).length = _; rw [List.length_set]; exact vl, by show (s.cs.set _ _).length ≤ _; rw [List.length_set]; exact so.cl, so.ml, so.ll⟩
          · simp only [List.length_set] at hi
            simp only
            rw [gn_set (by have := co.1; omega)]
            split
            · intro _
              refine ⟨by rw [List.length_set]; omega, ?_⟩
              rw [cs_set j1, if_pos (by omega)]
              simp
            · exact (so.g.v i hi).up j1
          · simp only [List.length_set] at hc
            simp only at hz ⊢
            unfold itms at hz
            rw [cs_set j1] at hz
            split at hz
            · simp only [itm, List.mem_cons, List.not_mem_nil, or_false] at hz
              rcases hz with rfl | rfl
              · exact gx.up j1
              · exact gy.up j1
            · exact (so.g.c c hc z hz).up j1
        | none =>
          simp only
          split
          · exact ⟨Nat.le_refl _, so.g, vl, so.cl, so.ml, so.ll⟩
          · have W := so.g.W (by rw [vl]; exact so.ml) so.cl
            have key : ∀ c, c ∈ fin half s.cs s.vs → c < (left half s.cs s.vs).length ∧ (left half s.cs s.vs)[c]?.getD none ≠ none := fun c hc => by
              obtain ⟨h1, h2⟩ := fin_ok W c hc
              rw [left_len]
              exact ⟨h1, by rw [left_at h1, if_pos hc]; exact h2⟩
            refine ⟨hb, ⟨fun i hi => ?_, fun c hc z hz => ?_⟩, vl, by rw [left_len]; exact so.cl, so.ml, so.ll⟩
            · intro hz
              refine key _ (fin_refs W _ ?_)
              unfold refs
              rw [List.mem_filterMap]
              exact ⟨gn s.vs i, by rw [gn_get hi]; exact List.getElem_mem hi, by simp [hz]⟩
            · intro hz2
              simp only [left_len] at hc
              by_cases hf : c ∈ fin half s.cs s.vs
              · rw [left_itms W hf] at hz
                refine key _ (fin_closed W hf _ ?_)
                unfold refs
                rw [List.mem_filterMap]
                exact ⟨z, hz, by simp [hz2]⟩
              · unfold itms at hz
                rw [left_at hc, if_neg hf] at hz
                simp [itm] at hz
/-- all are kept just if nothing is freed -/
theorem left_all {half : Nat} {vs : List Nat} {cs : Cs} (W : Wc half cs vs) (hn : fidx cs = none) : left half cs vs = cs ↔ (fin half cs vs).length = cs.length := by
  constructor
  · intro e
    have sub : ∀ c ∈ List.range cs.length, c ∈ fin half cs vs := fun c hc => by
      rw [List.mem_range] at hc
      by_cases hf : c ∈ fin half cs vs
      · exact hf
      · have h1 := left_at (half := half) (vs := vs) hc
        rw [e, if_neg hf] at h1
        exact absurd h1 (fidx_none hn c hc)
    have h1 := List.Nodup.length_le_of_subset List.nodup_range sub
    have h2 := bfs_len W cs.length
    rw [List.length_range] at h1
    unfold fin at h1 ⊢
    omega
  · intro e
    have sub : ∀ c, c < cs.length → c ∈ fin half cs vs := fun c hc => by
      by_cases hf : c ∈ fin half cs vs
      · exact hf
      · have h1 : (c :: fin half cs vs).Nodup := List.nodup_cons.mpr ⟨hf, fin_nd W⟩
        have h2 := nd_len (B := cs.length) h1 fun x hx => by
          rcases List.mem_cons.mp hx
              with rfl | hx
          · exact hc
          · exact (fin_ok W x hx).1
        simp at h2
        omega
    apply List.ext_getElem
    · exact left_len
    · intro i h1 h2
      have := left_at (half := half) (vs := vs) h2
      rw [if_pos (sub i h2), List.getElem?_eq_getElem h1, List.getElem?_eq_getElem h2] at this
      simpa using this
end Cor
end Py
namespace Py
open PySem (Str)
namespace Cor
theorem eqv_two (x y : Option (Nat × Nat)) : eqv (cD x) (cD y) = decide (x = y) := by
  cases x with
  | none => cases y <;> rfl
  | some p =>
    cases y with
    | none => rfl
    | some q =>
      obtain ⟨a, b⟩ := p
      obtain ⟨c, d⟩ := q
      show ((a : Int) == (c : Int) && ((b : Int) == (d : Int) && true)) = _
      by_cases h1 : a = c <;> by_cases h2 : b = d <;> simp [h1, h2] <;> omega
theorem eqvs_cs : ∀ a b : Cs, eqvs (csD a) (csD b) = decide (a = b)
  | [], [] => rfl
  | [], _ :: _ => rfl
  | _ :: _, [] => rfl
  | x :: xs, y :: ys => by
    show (eqv (cD x) (cD y) && eqvs (csD xs) (csD ys)) = _
    rw [eqv_two, eqvs_cs xs ys]
    by_cases h : x = y <;> by_cases h2 : xs = ys <;> simp [h, h2]
theorem eq_cs (a b : Cs) (h : AH) : cmpD .eq (.v (.tup (csD a))) (.v (.tup (csD b))) h = some (decide (a = b)) := by
  show eqD (.v (.tup (csD a))) (.v (.tup (csD b))) h = _
  unfold eqD
  simp only [csD_pu, eqvs_cs, Bool.and_self, if_true]
theorem nL_set {xs : List Nat} {i x : Nat} : (nL xs).set i (.int x) = nL (xs.set i x) := by simp [nL, List.map_set]
theorem cs_setD {cs : Cs} {i a b : Nat} : (csD cs).set i (.tup [.int a, .int b]) = csD (cs.set i (some (a, b))) := by simp [csD, List.map_set, cD]
@[simp] theorem st0 {s : Stt} {h : AH} : ixD (.v s.d) (.v (.int 0)) h = some (.int s.b) := by simp [Stt.d]
@[simp] theorem st4 {s : Stt} {h : AH} : ixD (.v s.d) (.v (.int 4)) h = some (.tup (nL s.ls)) := by simp [Stt.d]
@[simp] theorem stS {s : Stt} {h : AH} : sqV (.v s.d) h = some [.int s.b, .int s.p, .tup (nL s.vs), .tup (csD s.cs), .tup (nL s.ls)] := rfl
section
variable {P : Prog} {L : Nat} {h : AH} {Q : D → AH → Prop} {X : Xc} {half many k : Nat} {vs : List Nat} {cs : Cs}
theorem coll_i (hL : 3 ≤ L) (S : ST P) (W : Wc half cs vs) (q : ∀ h', Sub h h' → Q (.tup (csD (left half cs vs))) h') : wC P L "collected_for" [.int half, .tup (csD cs), .tup (nL vs)] h Q X := by
  obtain ⟨n, rfl⟩ : ∃ n, L = n + 1 := ⟨L - 1, by omega⟩
  have lc := W.lc
  have s1 : small62 (cs.length : Int) = true := by simp [small62]; omega
  refine wC_i S.cf rfl ?_
  simp [c_collected_for, List.replicate]
  refine come_to_i (by omega) S W fun h1 sb => ?_
  simp [s1]
  refine comp_m (fun x => cD (if (dI x).toNat ∈ fin half cs vs then cs[(dI x).toNat]?.getD none else none)) trivial (by simp; omega) (fun x hx k hk => ?_) ?_
  · obtain ⟨c, hc, rfl⟩ := rngL_mem hx
    simp [wipe, k_in, due_mem]
    simp only [Int.zero_add, dI_int, Int.toNat_natCast] at hk
    by_cases z : c ∈ fin half cs vs
    · rw [if_pos z] at hk
      simp [z, csD_at hc]
      exact hk
    · rw [if_neg z] at hk
      simp [z]
      exact hk
  · have e : (rngL 0 cs.length).map (fun x => cD (if (dI x).toNat ∈ fin half cs vs then cs[(dI x).toNat]?.getD none else none)) = csD (left half cs vs) := by
      simp [rngL, csD, left, Function.comp_def]
      intros; congr
    simp only [v_fixi, e, n_tup_o, gd_some, rv_v]
    exact someQ_i (q h1 sb)
theorem pair_i (hL : k + 4 ≤ L) (S : ST P) (h2 : 2 ≤ half) {p : Pgm} {s : Stt} (so : SOk half k p s) (hk : 1 ≤ k) {v : Nat} {e f : CE} (hv : v < p.many) (he : EOk half p.many k e) (hf : EOk half p.many k f) (q : ∀ h', Sub h h' → Q (pairS half p.bs.length s v (val half s.vs s.cs e) (val half s.vs s.cs f)).d h') :
    wC P L "paired_in_core" [p.d, .int half, s.d, (Cmd.pair v e f).d] h Q X := by
  obtain ⟨n, rfl⟩ : ∃ n, L = n + 1 := ⟨L - 1, by omega⟩
  have vl := so.vl
  have ml := so.ml
  have cl := so.cl
  refine wC_i S.pc rfl ?_
  simp [-v_rB, c_paired_in_core, List.replicate]
  rw [v_rB]
  simp [-v_rB, Cmd.d]
  rw [v_rB]
  unfold pairS at q
  cases ef : fidx s.cs with
  | some j =>
    obtain ⟨j1, j2, j3⟩ := fidx_some ef
    rw [ef] at q
    simp only at q
    have hin := in_non s.cs h
    rw [ef] at hin
    simp [-v_rB, hin]
    refine ⟨rfl, ?_⟩
    rw [ix_non ef]
    simp [-v_rB]
    rw [v_rB]
    simp [-v_rB]
    refine value_i S.toSV h2 so.g vl.symm e he.1 (by have := he.2; omega) ?_
    try simp [-v_rB]
    refine value_i S.toSV h2 so.g vl.symm f hf.1 (by have := hf.2; omega) ?_
    rw [v_rB]
    have ej : (half : Int) + (j : Int) = ((half + j : Nat) : Int) := by omega
    simp [-v_rB]
    rw [ej]
    refine with_i (by omega) S.toSV (by rw [nL_len]; omega) (by rw [nL_len]; omega) ?_
    rw [v_rB]
    simp [-v_rB]
    refine with_i (by omega) S.toSV (by rw [csD_len]; exact j1) (by rw [csD_len]; omega) ?_
    have e2 := nL_set (xs := s.vs) (i := v) (x := half + j)
    simp only [Int.natCast_add] at e2
    rw [cs_setD]
    try simp
    refine someQ_i ?_
    have := q h sub_refl
    unfold Stt.d at this
    simp at this
    first | (rw [← e2] at this; exact this) | exact this
  | none =>
    rw [ef] at q
    simp only at q
    have hin := in_non s.cs h
    rw [ef] at hin
    have W := so.g.W (by rw [vl]; exact ml) cl
    simp [-v_rB, hin]
    rw [v_rB]
    simp [-v_rB]
    refine coll_i (by omega) S W fun h1 s1 => ?_
    rw [v_rB]
    have ha := left_all W ef
    by_cases z : (fin half s.cs s.vs).length = s.cs.length
    · rw [if_pos z] at q
      have e1 := ha.mpr z
      simp [-v_rB, eq_cs, e1]
      obtain ⟨n2, rfl⟩ : ∃ n2, n = n2 + 1 := ⟨n - 1, by omega⟩
      refine wC_i S.fs rfl ?_
      have ec : cut [D.int s.b, .int s.p, .tup (nL s.vs), .tup (csD s.cs), .tup (nL s.ls)] (some 2) none = [.tup (nL s.vs), .tup (csD s.cs), .tup (nL s.ls)] := by
        have := cut_drop (xs := [D.int s.b, .int s.p, .tup (nL s.vs), .tup (csD s.cs), .tup (nL s.ls)]) (k := 2) (by simp)
        exact this
      have ed : s.d = .tup [.int s.b, .int s.p, .tup (nL s.vs), .tup (csD s.cs), .tup (nL s.ls)] := rfl
      rw [ed]
      simp [c_full_core_state, List.replicate, ec]
      exact someQ_i (someQ_i (by simpa [Stt.d] using q h1 s1))
    · rw [if_neg z] at q
      have e1 : ¬ left half s.cs s.vs = s.cs := fun w => z (ha.mp w)
      simp [-v_rB, eq_cs, e1]
      rw [v_rB]
      simp
      exact someQ_i (by simpa [Stt.d] using q h1 s1)
theorem cmd_i (hL : k + 5 ≤ L) (S : ST P) (h2 : 2 ≤ half) {p : Pgm} {s : Stt} (so : SOk half k p s) (hk : 1 ≤ k) {c : Cmd} (ok : c.Ok half p.many k) {heard : Nat} (q : ∀ h', Sub h h' → Q (cmdS half p.bs.length s heard c).d h') : wC P L "commanded_in_core" [p.d, .int half, s.d, c.d, .int heard] h Q X := by
  obtain ⟨n, rfl⟩ : ∃ n, L = n + 1 := ⟨L - 1, by omega⟩
  have vl := so.vl
  have ml := so.ml
  have cl := so.cl
  have ll := so.ll
  have hp : (0 : Int) < (half : Int) := by omega
  have hp' : 0 < half := by omega
  refine wC_i S.cc rfl ?_
  simp [-v_rB, c_commanded_in_core, List.replicate]
  rw [v_rB]
  cases c with
  | pair v e f =>
    have ed : (Cmd.pair v e f).d = .tup [.str (nm .pair), .int v, e.d, f.d] := rfl
    rw [ed]
    simp [-v_rB, n12]
    rw [← ed]
    refine pair_i (k := k) (by omega) S h2 so hk ok.1 ok.2.1 ok.2.2 fun h1 s1 => ?_
    exact someQ_i (q h1 s1)
  | hear v =>
    simp only [Cmd.Ok] at ok
    simp [-v_rB, Cmd.d, n12]
    rw [v_rB]
    simp [-v_rB, n10, hp']
    have e1 : (heard : Int) % (half : Int) = ((heard % half : Nat) : Int) := by rw [Int.natCast_emod]
    rw [e1]
    refine with_i (by omega) S.toSV (by rw [nL_len]; omega) (by rw [nL_len]; omega) ?_
    rw [nL_set]
    try simp
    exact someQ_i (by simpa [Stt.d, cmdS] using q h sub_refl)
  | shw e =>
    simp [-v_rB, Cmd.d, n12]
    rw [v_rB]
    simp [-v_rB, n10]
    rw [v_rB]
    simp [-v_rB, n11]
    refine value_i S.toSV h2 so.g vl.symm e ok.1 (by have := ok.2; omega) ?_
    try simp [-v_rB]
    refine bits_i (by omega) S (by omega) ?_
    rw [v_rB]
    simp
    exact someQ_i (by simpa [Stt.d, cmdS] using q h sub_refl)
  | set v e =>
    simp [-v_rB, Cmd.d, n12]
    rw [v_rB]
    simp [-v_rB, n10]
    rw [v_rB]
    simp [-v_rB, n11]
    rw [v_rB]
    simp [-v_rB]
    refine value_i S.toSV h2 so.g vl.symm e ok.2.1 (by have := ok.2.2; omega) ?_
    rw [v_rB]
    simp [-v_rB]
    refine with_i (by omega) S.toSV (by rw [nL_len]; have := ok.1; omega) (by rw [nL_len]; omega) ?_
    rw [nL_set]
    try simp
    exact someQ_i (by simpa [Stt.d, cmdS] using q h sub_refl)
theorem half_of_i (hL : 1 ≤ L) (S : SV P) {w : Nat} (h1 : 1 ≤ w) (hw : w ≤ 1000) (q : Q (.int (hf2 w)) h) : wC P L "half_of" [.int w] h Q X := by
  obtain ⟨n, rfl⟩ : ∃ n, L = n + 1 := ⟨L - 1, by omega⟩
  have e : (w : Int) - 1 = ((w - 1 : Nat) : Int) := by omega
  have l : ((w - 1 : Nat) : Int) ≤ 1000000 := by omega
  refine wC_i S.ho rfl ?_
  simp [c_half_of, e, l]
  exact someQ_i (by simpa [hf2] using q)
/-- the sizes -/
def szD (w c l : Nat) : D := .tup [.int w, .int c, .int l]
theorem step_i {wide cells lights : Nat} (hL : k + 6 ≤ L) (S : ST P) (hw : 2 ≤ wide) (hw2 : wide ≤ 100) {p : Pgm} (ok : POk (hf2 wide) k p) {s : Stt} (so : SOk (hf2 wide) k p s) (hk : 1 ≤ k) {heard : Nat} (q : ∀ h', Sub h h' → Q (stepS (hf2 wide) p s heard).d h') :
    wC P L "step_of_core" [p.d, szD wide cells lights, s.d, .int heard] h Q X := by
  obtain ⟨n, rfl⟩ : ∃ n, L = n + 1 := ⟨L - 1, by omega⟩
  have h2 : 2 ≤ hf2 wide := by
    unfold hf2
    have : 2 ^ 1 ≤ 2 ^ (wide - 1) := Nat.pow_le_pow_right (by decide) (by omega)
    omega
  have hb := so.b
  have vl := so.vl
  refine wC_i S.sc rfl ?_
  simp [-v_rB, c_step_of_core, List.replicate]
  rw [v_rB]
  unfold stepS at q
  by_cases z : s.b = p.bs.length
  · rw [z, List.getElem?_eq_none (Nat.le_refl _)] at q
    simp [-v_rB, z]
    exact someQ_i (q h sub_refl)
  · have hlt : s.b < p.bs.length := by omega
    have eb : p.bs[s.b]? = some p.bs[s.b] := List.getElem?_eq_getElem hlt
    have bo := ok.b p.bs[s.b] (List.getElem_mem hlt)
    have bn := bo.n
    rw [eb] at q
    generalize p.bs[s.b] = blk at *
    simp only at q
    have ea : atI (p.bs.map bD) (s.b : Int) = some (bD blk) := atN (by simp [eb])
    have z' : ¬ (s.b : Int) = (p.bs.length : Int) := by omega
    simp [-v_rB, z, z']
    rw [v_rB]
    simp [-v_rB, szD]
    refine half_of_i (by omega) S.toSV (by omega) (by omega) ?_
    rw [v_rB]
    simp [-v_rB, ea]
    rw [v_rB]
    by_cases zp : s.p < blk.1.length
    · have ec : blk.1[s.p]? = some blk.1[s.p] := List.getElem?_eq_getElem zp
      rw [ec] at q
      simp only at q
      have ea2 : atI (blk.1.map Cmd.d) (s.p : Int) = some blk.1[s.p].d := atN (by simp [ec])
      have zp' : (s.p : Int) < (blk.1.length : Int) := by omega
      simp [-v_rB, zp, zp', ea2]
      refine cmd_i (k := k) (by omega) S h2 so hk (bo.c _ (List.getElem_mem zp)) fun h1 s1 => ?_
      exact someQ_i (q h1 s1)
    · have ec : blk.1[s.p]? = none := List.getElem?_eq_none (by omega)
      rw [ec] at q
      simp only at q
      have zp' : ¬ (s.p : Int) < (blk.1.length : Int) := by omega
      simp [-v_rB, zp, zp']
      rw [v_rB]
      have jo := bo.j
      cases ej : blk.2 with
      | halt =>
        rw [ej] at q
        simp [Jmp.d, n15]
        exact someQ_i (q h sub_refl)
      | goto b =>
        rw [ej] at q
        simp [-v_rB, Jmp.d, n15]
        rw [v_rB]
        simp [-v_rB]
        obtain ⟨n2, rfl⟩ : ∃ n2, n = n2 + 1 := ⟨n - 1, by omega⟩
        refine wC_i S.gg rfl ?_
        simp [c_block_gone_to, List.replicate, n14]
        refine someQ_i ?_
        try simp
        exact someQ_i (by simpa [Stt.d, jmpS] using q h sub_refl)
      | test e b c =>
        rw [ej] at q jo
        have e1 := jo.1
        have jd : (Jmp.test e b c).d = .tup [.str (nm .test), e.d, .int b, .int c] := rfl
        simp [-v_rB, jd, n15]
        rw [v_rB]
        simp [-v_rB]
        obtain ⟨n', rfl⟩ : ∃ n', n = n' + 1 := ⟨n - 1, by omega⟩
        refine wC_i S.gg rfl ?_
        simp [-v_rB, c_block_gone_to, List.replicate, n14]
        rw [v_rB]
        simp [-v_rB]
        obtain ⟨n2, rfl⟩ : ∃ n2, n' = n2 + 1 := ⟨n' - 1, by omega⟩
        refine wC_i S.gt rfl ?_
        simp [c_core_goes_to, List.replicate, n14, n16]
        refine someQ_i ?_
        simp
        refine value_i S.toSV h2 so.g vl.symm e e1.1 (by have := e1.2; omega) ?_
        have q2 := q h sub_refl
        by_cases zv : val (hf2 wide) s.vs s.cs e = 0
        · have e9 : jmpS (hf2 wide) s (.test e b c) = ⟨c, 0, s.vs, s.cs, s.ls⟩ := by simp [jmpS, zv]
          rw [e9] at q2
          simp [zv]
          refine someQ_i ?_
          try simp
          exact someQ_i (by simpa [Stt.d] using q2)
        · have e9 : jmpS (hf2 wide) s (.test e b c) = ⟨b, 0, s.vs, s.cs, s.ls⟩ := by simp [jmpS, zv]
          rw [e9] at q2
          simp [zv]
          refine someQ_i ?_
          try simp
          exact someQ_i (by simpa [Stt.d] using q2)
end
end Cor
end Py
namespace Py
open PySem (Str)
namespace Cor
section
variable {P : Prog} {L : Nat} {h : AH} {Q : D → AH → Prop} {X : Xc} {half many k : Nat} {vs : List Nat} {cs : Cs}
theorem law_pair_i (hL : k + 4 ≤ L) (S : SL P) (h2 : 2 ≤ half) {p : Pgm} {s : Stt} (so : SOk half k p s) (hk : 1 ≤ k) {v : Nat} {e f : CE} (hv : v < p.many) (he : EOk half p.many k e) (hf : EOk half p.many k f) (q : ∀ h', Sub h h' → Q (pairS half p.bs.length s v (val half s.vs s.cs e) (val half s.vs s.cs f)).d h') :
    wC P L "_law_core_pair" [p.d, .int half, s.d, (Cmd.pair v e f).d] h Q X := by
  obtain ⟨n, rfl⟩ : ∃ n, L = n + 1 := ⟨L - 1, by omega⟩
  have vl := so.vl
  have ml := so.ml
  have cl := so.cl
  have s1 : small62 (s.cs.length : Int) = true := by simp [small62]; omega
  refine wC_i S.pr rfl ?_
  simp [-v_rB, c__law_core_pair, List.replicate]
  rw [v_rB]
  simp [-v_rB, Cmd.d]
  refine law_value_i S h2 so.g vl.symm e he.1 (by have := he.2; omega) fun h1 b1 => ?_
  try simp [-v_rB]
  refine law_value_i S h2 so.g vl.symm f hf.1 (by have := hf.2; omega) fun h2' b2 => ?_
  have sb := b1.trans b2
  rw [v_rB]
  simp [-v_rB, s1]
  refine compi_m (fun x => (s.cs[(dI x).toNat]?.getD none).isNone) (fun x => x) trivial (by simp; omega) (fun x hx k hk => ?_) ?_
  · obtain ⟨c, hc, rfl⟩ := rngL_mem hx
    simp only [Int.zero_add, dI_int, Int.toNat_natCast] at hk
    simp [wipe, csD_at hc]
    cases e1 : s.cs[c]?.getD none with
    | none => simp [e1, cD] at hk ⊢; exact hk
    | some p => simp [e1, cD] at hk ⊢; exact hk
  have ef0 : ((rngL 0 s.cs.length).filter fun x => (s.cs[(dI x).toNat]?.getD none).isNone).map (fun x => x) = nL (frees s.cs) := by
    unfold rngL frees nL
    rw [List.filter_map, List.map_map]
    simp [Function.comp_def]
  simp only [v_fixi, ef0]
  try simp [-v_rB]
  intro r nr
  have sb2 := sb.new nr (o := .lst (nL (frees s.cs)))
  have hr : put h2' r (.lst (nL (frees s.cs))) r = some (.lst (nL (frees s.cs))) := put_self
  generalize put h2' r (.lst (nL (frees s.cs))) = h3 at *
  rw [v_rB]
  unfold pairS at q
  cases ef : fidx s.cs with
  | some j =>
    obtain ⟨j1, j2, j3⟩ := fidx_some ef
    obtain ⟨rr, er⟩ := frees_some ef
    rw [ef] at q
    rw [er] at hr
    simp only at q
    simp [-v_rB, hr]
    have ej : (half : Int) + (j : Int) = ((half + j : Nat) : Int) := by omega
    have e0 : atI (nL (j :: rr)) 0 = some (.int j) := by simpa [gn] using nL_at (xs := j :: rr) (i := 0) (by simp)
    simp only [e0, gd_some, o_add, rv_v]
    rw [ej]
    refine lput_i (by omega) S (by rw [nL_len]; omega) (by rw [nL_len]; omega) ?_
    try simp [-v_rB, hr]
    simp only [e0, gd_some]
    refine lput_i (by omega) S (by rw [csD_len]; exact j1) (by rw [csD_len]; omega) ?_
    have e2 := nL_set (xs := s.vs) (i := v) (x := half + j)
    simp only [Int.natCast_add] at e2
    rw [cs_setD]
    try simp
    refine someQ_i ?_
    have := q h3 sb2
    unfold Stt.d at this
    simp at this
    first | (rw [← e2] at this; exact this) | exact this
  | none =>
    rw [ef] at q
    rw [frees_none ef] at hr
    simp only at q
    have W := so.g.W (by rw [vl]; exact ml) cl
    simp [-v_rB, hr]
    rw [v_rB]
    simp [-v_rB]
    refine law_come_i (by omega) S W fun a h4 F b4 na nd hF ha => ?_
    have sb4 := sb2.trans b4
    have fl : F.length = (fin half s.cs s.vs).length := by
      have e1 := List.Nodup.length_le_of_subset nd (fun c hc => (hF c).mp hc)
      have e2 := List.Nodup.length_le_of_subset (fin_nd W) (fun c hc => (hF c).mpr hc)
      omega
    rw [v_rB]
    by_cases z : (fin half s.cs s.vs).length = s.cs.length
    · rw [if_pos z] at q
      simp [ha, fl, z]
      exact someQ_i (by simpa [Stt.d] using q h4 sb4)
    · rw [if_neg z] at q
      have z' : ¬ ((fin half s.cs s.vs).length : Int) = (s.cs.length : Int) := by omega
      simp [-v_rB, ha, fl, z, z']
      rw [v_rB]
      simp [-v_rB, s1]
      refine comp_m (fun x => cD (if (dI x).toNat ∈ fin half s.cs s.vs then s.cs[(dI x).toNat]?.getD none else none)) trivial (by simp; omega) (fun x hx k hk => ?_) ?_
      · obtain ⟨c, hc, rfl⟩ := rngL_mem hx
        simp [wipe, k_inNl ha, hF]
        simp only [Int.zero_add, dI_int, Int.toNat_natCast] at hk
        by_cases z : c ∈ fin half s.cs s.vs
        · rw [if_pos z] at hk
          simp [z, csD_at hc]
          exact hk
        · rw [if_neg z] at hk
          simp [z]
          exact hk
      · have e : (rngL 0 s.cs.length).map (fun x => cD (if (dI x).toNat ∈ fin half s.cs s.vs then s.cs[(dI x).toNat]?.getD none else none)) = csD (left half s.cs s.vs) := by
          simp [rngL, csD, left, Function.comp_def]
          intros; congr
        simp only [v_fixi, e, n_tup_o, gd_some, rv_v]
        try simp
        exact someQ_i (by simpa [Stt.d] using q h4 sb4)
theorem law_step_i {wide cells lights : Nat} (hL : k + 5 ≤ L) (S : SL P) (hw : 2 ≤ wide) (hw2 : wide ≤ 100) {p : Pgm} (ok : POk (hf2 wide) k p) {s : Stt} (so : SOk (hf2 wide) k p s) (hk : 1 ≤ k) {heard : Nat} (q : ∀ h', Sub h h' → Q (stepS (hf2 wide) p s heard).d h') :
    wC P L "_law_core_step" [p.d, szD wide cells lights, s.d, .int heard] h Q X := by
  obtain ⟨n, rfl⟩ : ∃ n, L = n + 1 := ⟨L - 1, by omega⟩
  obtain ⟨n2, rfl⟩ : ∃ n2, n = n2 + 1 := ⟨n - 1, by omega⟩
  have h2 : 2 ≤ hf2 wide := by
    unfold hf2
    have : 2 ^ 1 ≤ 2 ^ (wide - 1) := Nat.pow_le_pow_right (by decide) (by omega)
    omega
  have hp' : 0 < hf2 wide := by omega
  have hb := so.b
  have vl := so.vl
  have ml := so.ml
  have ll := so.ll
  have eh : 2 ^ (wide - 1) = hf2 wide := rfl
  refine wC_i S.st rfl ?_
  simp [-v_rB, c__law_core_step, List.replicate]
  rw [v_rB]
  unfold stepS at q
  by_cases z : s.b = p.bs.length
  · rw [z, List.getElem?_eq_none (Nat.le_refl _)] at q
    simp [-v_rB, z]
    exact someQ_i (q h sub_refl)
  · have hlt : s.b < p.bs.length := by omega
    have eb : p.bs[s.b]? = some p.bs[s.b] := List.getElem?_eq_getElem hlt
    have bo := ok.b p.bs[s.b] (List.getElem_mem hlt)
    have bn := bo.n
    rw [eb] at q
    generalize p.bs[s.b] = blk at *
    simp only at q
    have ea : atI (p.bs.map bD) (s.b : Int) = some (bD blk) := atN (by simp [eb])
    have z' : ¬ (s.b : Int) = (p.bs.length : Int) := by omega
    simp [-v_rB, z, z']
    rw [v_rB]
    simp [-v_rB, szD]
    refine D3.half_i (w := wide) S.hf (by omega) (by omega) ?_
    rw [eh, v_rB]
    simp [-v_rB, ea]
    rw [v_rB]
    by_cases zp : s.p < blk.1.length
    · have ec : blk.1[s.p]? = some blk.1[s.p] := List.getElem?_eq_getElem zp
      rw [ec] at q
      simp only at q
      have ea2 : atI (blk.1.map Cmd.d) (s.p : Int) = some blk.1[s.p].d := atN (by simp [ec])
      have zp' : (s.p : Int) < (blk.1.length : Int) := by omega
      have co := bo.c _ (List.getElem_mem zp)
      generalize blk.1[s.p] = c at *
      simp [-v_rB, zp, zp']
      try (rw [v_rB]; simp [-v_rB, ea2])
      try simp only [ea2, gd_some]
      rw [v_rB]
      cases c with
      | pair v e f =>
        have ed : (Cmd.pair v e f).d = .tup [.str (nm .pair), .int v, e.d, f.d] := rfl
        rw [ed]
        simp [-v_rB, n12]
        rw [← ed]
        refine law_pair_i (k := k) (by omega) S h2 so hk co.1 co.2.1 co.2.2 fun h1 s1 => ?_
        exact someQ_i (q h1 s1)
      | hear v =>
        simp only [Cmd.Ok] at co
        simp [-v_rB, Cmd.d, n12]
        rw [v_rB]
        simp [-v_rB, n10, hp']
        have e1 : (heard : Int) % (hf2 wide : Int) = ((heard % hf2 wide : Nat) : Int) := by rw [Int.natCast_emod]
        rw [e1]
        refine lput_i (by omega) S (by rw [nL_len]; omega) (by rw [nL_len]; omega) ?_
        rw [nL_set]
        try simp
        exact someQ_i (by simpa [Stt.d, cmdS] using q h sub_refl)
      | shw e =>
        simp [-v_rB, Cmd.d, n12]
        rw [v_rB]
        simp [-v_rB, n10]
        rw [v_rB]
        simp [-v_rB, n11]
        rw [show atI [D.str (nm .show), e.d] (-1) = some e.d by simp [atI, ixN]]
        simp only [gd_some]
        refine law_value_i S h2 so.g vl.symm e co.1 (by have := co.2; omega) fun h1 s1 => ?_
        rw [v_rB]
        simp [-v_rB, n11]
        refine lbits_i (by omega) S (by omega) ?_
        try simp
        exact someQ_i (by simpa [Stt.d, cmdS] using q h1 s1)
      | set v e =>
        simp [-v_rB, Cmd.d, n12]
        rw [v_rB]
        simp [-v_rB, n10]
        rw [v_rB]
        simp [-v_rB, n11]
        rw [show atI [D.str (nm .set), .int v, e.d] (-1) = some e.d by simp [atI, ixN]]
        simp only [gd_some]
        refine law_value_i S h2 so.g vl.symm e co.2.1 (by have := co.2.2; omega) fun h1 s1 => ?_
        rw [v_rB]
        simp [-v_rB, n11]
        rw [v_rB]
        simp [-v_rB]
        refine lput_i (by omega) S (by rw [nL_len]; have := co.1; omega) (by rw [nL_len]; omega) ?_
        rw [nL_set]
        try simp
        exact someQ_i (by simpa [Stt.d, cmdS] using q h1 s1)
    · have ec : blk.1[s.p]? = none := List.getElem?_eq_none (by omega)
      rw [ec] at q
      simp only at q
      have zp' : ¬ (s.p : Int) < (blk.1.length : Int) := by omega
      simp [-v_rB, zp, zp']
      rw [v_rB]
      have jo := bo.j
      cases ej : blk.2 with
      | halt =>
        rw [ej] at q
        simp [Jmp.d, n15]
        exact someQ_i (q h sub_refl)
      | goto b =>
        rw [ej] at q
        simp [-v_rB, Jmp.d, n15]
        rw [v_rB]
        simp [-v_rB, n14]
        exact someQ_i (by simpa [Stt.d, jmpS] using q h sub_refl)
      | test e b c =>
        rw [ej] at q jo
        have e1 := jo.1
        have jd : (Jmp.test e b c).d = .tup [.str (nm .test), e.d, .int b, .int c] := rfl
        simp [-v_rB, jd, n15]
        rw [v_rB]
        simp [-v_rB, n14]
        rw [v_rB]
        simp [-v_rB]
        refine law_value_i S h2 so.g vl.symm e e1.1 (by have := e1.2; omega) fun h1 s1 => ?_
        have q2 := q h1 s1
        rw [v_rB]
        by_cases zv : val (hf2 wide) s.vs s.cs e = 0
        · have e9 : jmpS (hf2 wide) s (.test e b c) = ⟨c, 0, s.vs, s.cs, s.ls⟩ := by simp [jmpS, zv]
          rw [e9] at q2
          simp [zv]
          exact someQ_i (by simpa [Stt.d] using q2)
        · have e9 : jmpS (hf2 wide) s (.test e b c) = ⟨b, 0, s.vs, s.cs, s.ls⟩ := by simp [jmpS, zv]
          rw [e9] at q2
          simp [zv]
          exact someQ_i (by simpa [Stt.d] using q2)
end
end Cor
end Py
namespace Py
open PySem (Str)
namespace Cor
/-! ### runs -/
def begS (p : Pgm) (cells lights : Nat) : Stt := ⟨0, 0, List.replicate p.many 0, List.replicate cells none, List.replicate lights 0⟩
def atS (half : Nat) (p : Pgm) (s : Stt) (hs : List Nat) (i : Nat) : Stt := (hs.take i).foldl (stepS half p) s
def runL (half : Nat) (p : Pgm) (s : Stt) (hs : List Nat) (i : Nat) : List D := (List.range (i + 1)).map fun j => (atS half p s hs j).d
theorem begS_ok {half k : Nat} {p : Pgm} {cells lights : Nat} (h2 : 2 ≤ half) (hm : p.many ≤ 100) (hc : cells ≤ 100) (hl : lights ≤ 100) : SOk half k p (begS p cells lights) := by
  refine ⟨Nat.zero_le _, ⟨fun i hi => ?_, fun c hc2 x hx => ?_⟩, by simp [begS], by simpa [begS] using hc, hm, by simpa [begS] using hl⟩
  · simp only [begS, List.length_replicate] at hi
    refine gv_lt ?_
    simp [begS, gn, hi]
    omega
  · simp only [begS, List.length_replicate] at hc2
    simp [begS, itms, hc2, itm] at hx
theorem atS_s {half : Nat} {p : Pgm} {s : Stt} {hs : List Nat} {i x : Nat} (hx : hs[i]? = some x) : atS half p s hs (i + 1) = stepS half p (atS half p s hs i) x := by
  unfold atS
  rw [take_snoc hx, List.foldl_append]
  rfl
theorem atS_ok {half k : Nat} {p : Pgm} (ok : POk half k p) (h2 : 2 ≤ half) {s : Stt} (so : SOk half k p s) (hs : List Nat) : ∀ i, SOk half k p (atS half p s hs i)
  | 0 => by simpa [atS] using so
  | i + 1 => by
    cases e : hs[i]? with
    | none =>
      have h1 := List.getElem?_eq_none_iff.mp e
      have : atS half p s hs (i + 1) = atS half p s hs i := by unfold atS; rw [List.take_of_length_le h1, List.take_of_length_le (by omega)]
      rw [this]
      exact atS_ok ok h2 so hs i
    | some x => rw [atS_s e]; exact step_ok ok h2 (atS_ok ok h2 so hs i) x
theorem runL_len {half : Nat} {p : Pgm} {s : Stt} {hs : List Nat} {i : Nat} : (runL half p s hs i).length = i + 1 := by simp [runL]
theorem runL_s {half : Nat} {p : Pgm} {s : Stt} {hs : List Nat} {i : Nat} : runL half p s hs (i + 1) = runL half p s hs i ++ [(atS half p s hs (i + 1)).d] := by
  unfold runL
  rw [List.range_succ, List.map_append]
  rfl
theorem runL_last {half : Nat} {p : Pgm} {s : Stt} {hs : List Nat} {i : Nat} : atI (runL half p s hs i) (-1) = some (atS half p s hs i).d := by
  have e : ixN (i + 1) (-1) = some i := by
    unfold ixN
    simp
    omega
  simp only [atI, runL_len, e, Option.bind_some]
  simp [runL]
theorem sm_csD' {cs : Cs} (h : cs.length ≤ 1000) : sm 2 (.tup (csD cs)) = true := sm_csD h
theorem sm_st {half k : Nat} {p : Pgm} {s : Stt} (so : SOk half k p s) : sm 3 s.d = true := by
  have vl := so.vl
  have ml := so.ml
  have cl := so.cl
  have ll := so.ll
  have e1 : sm 2 (.tup (nL s.vs)) = true := sm_nL (by omega)
  have e2 : sm 2 (.tup (csD s.cs)) = true := sm_csD (by omega)
  have e3 : sm 2 (.tup (nL s.ls)) = true := sm_nL (by omega)
  have e4 : sm 3 s.d = (decide (5 ≤ 16777216) && (sm 2 (.int s.b) && (sm 2 (.int s.p) && (sm 2 (.tup (nL s.vs)) && (sm 2 (.tup (csD s.cs)) && (sm 2 (.tup (nL s.ls)) && true)))))) := rfl
  rw [e4, e1, e2, e3]
  rfl
theorem sm_run {half k : Nat} {p : Pgm} (ok : POk half k p) (h2 : 2 ≤ half) {s : Stt} (so : SOk half k p s) {hs : List Nat} {i : Nat} (hi : i ≤ 1000) : sm 4 (.tup (runL half p s hs i)) = true := by
  simp only [sm, Bool.and_eq_true, decide_eq_true_eq, List.all_eq_true]
  refine ⟨by rw [runL_len]; omega, fun x hx => ?_⟩
  simp only [runL, List.mem_map] at hx
  obtain ⟨j, _, rfl⟩ := hx
  have := sm_st (atS_ok ok h2 so hs j)
  exact this
def c__law_is_told31 : Fn := ⟨3, 9, (.cons (.asg (.nm 3) (.call "_law_core_begin" (.cons (.var 1) (.cons (.var 2) .nil)))) (.cons (.ifs (.not (.call "_law_same" (.cons (.call "begin_of_core" (.cons (.var 1) (.cons (.var 2) .nil))) (.cons (.var 3) .nil)))) (.cons (.ret (.lit (.bl false))) .nil) .nil) (.cons (.asg (.nm 4) (.call "_law_words" (.cons (.var 0) (.cons (.bin .add (.lit (.int 1)) (.call "_law_take" (.cons (.var 0) (.cons (.lit (.int 40)) .nil)))) (.cons (.ix (.var 2) (.lit (.int 0))) .nil))))) (.cons (.asg (.nm 5) (.lst (.cons (.var 3) .nil))) (.cons (.for_ (.nm 6) (.seq (.var 4)) (.cons (.asg (.nm 7) (.call "_law_core_step" (.cons (.var 1) (.cons (.var 2) (.cons (.ix (.var 5) (.neg (.lit (.int 1)))) (.cons (.var 6) .nil)))))) (.cons (.ifs (.not (.call "_law_same" (.cons (.call "step_of_core" (.cons (.var 1) (.cons (.var 2) (.cons (.ix (.var 5) (.neg (.lit (.int 1)))) (.cons (.var 6) .nil))))) (.cons (.var 7) .nil)))) (.cons (.ret (.lit (.bl false))) .nil) .nil) (.cons (.expr (.mt .append (.var 5) (.cons (.var 7) .nil))) .nil)))) (.cons (.for_ (.nm 8) (.seq (.var 5)) (.cons (.ifs (.or (.not (.call "_law_same" (.cons (.call "lights_of_core" (.cons (.var 1) (.cons (.var 2) (.cons (.var 8) .nil)))) (.cons (.ix (.var 8) (.lit (.int 4))) .nil)))) (.not (.call "_law_same" (.cons (.call "is_core_full" (.cons (.var 1) (.cons (.var 2) (.cons (.var 8) .nil)))) (.cons (.cmp .eq (.ix (.var 8) (.lit (.int 0))) (.b1 .len (.ix (.var 1) (.lit (.int 1))))) .nil))))) (.cons (.ret (.lit (.bl false))) .nil) .nil) .nil)) (.cons (.ret (.call "_law_same" (.cons (.call "run_of_core" (.cons (.var 1) (.cons (.var 2) (.cons (.var 4) .nil)))) (.cons (.b1 .tup (.var 5)) .nil)))) .nil)))))))⟩
section
variable {P : Prog} {L : Nat} {h : AH} {Q : D → AH → Prop} {X : Xc} {half many k : Nat}
theorem o_rept {xs : List D} {k : Nat} {h : AH} (e : k ≤ 1000000) (e2 : xs.length ≤ 1) : binD .mul (.v (.tup xs)) (.v (.int k)) h = some (.v (.tup (rept xs k))) := by
  have e3 : xs.length * (k : Int).toNat ≤ 16777216 := by
    have : xs.length * k ≤ 1 * k := Nat.mul_le_mul_right k e2
    simp only [Int.toNat_natCast]
    omega
  have c : (-9223372036854775808 : Int) ≤ (k : Int) ∧ (k : Int) < 9223372036854775808 ∧ xs.length * (k : Int).toNat ≤ 16777216 := ⟨by omega, by omega, e3⟩
  simp only [binD, mulD, ob]
  simp [c]
  simpa using e3
theorem rept_non (k : Nat) : rept [.non] (k : Int) = csD (List.replicate k none) := by rw [rept_one]; simp [csD, cD]
theorem rept_0 (k : Nat) : rept [.int 0] (k : Int) = nL (List.replicate k 0) := by rw [rept_one]; simp [nL]
theorem begin_i {wide cells lights : Nat} (hL : 1 ≤ L) (S : ST P) {p : Pgm} (hm : p.many ≤ 100) (hc : cells ≤ 100) (hl : lights ≤ 100) (q : Q (begS p cells lights).d h) : wC P L "begin_of_core" [p.d, szD wide cells lights] h Q X := by
  obtain ⟨n, rfl⟩ : ∃ n, L = n + 1 := ⟨L - 1, by omega⟩
  have e1 : p.many ≤ 1000000 := by omega
  have e2 : cells ≤ 1000000 := by omega
  have e3 : lights ≤ 1000000 := by omega
  refine wC_i S.bg rfl ?_
  simp [c_begin_of_core, List.replicate, szD, o_rept e1, o_rept e2, o_rept e3, rept_non, rept_0]
  exact someQ_i q
theorem law_begin_i {wide cells lights : Nat} (hL : 1 ≤ L) (S : SL P) {p : Pgm} (hm : p.many ≤ 100) (hc : cells ≤ 100) (hl : lights ≤ 100) (q : Q (begS p cells lights).d h) : wC P L "_law_core_begin" [p.d, szD wide cells lights] h Q X := by
  obtain ⟨n, rfl⟩ : ∃ n, L = n + 1 := ⟨L - 1, by omega⟩
  have e1 : p.many ≤ 1000000 := by omega
  have e2 : cells ≤ 1000000 := by omega
  have e3 : lights ≤ 1000000 := by omega
  refine wC_i S.bg rfl ?_
  simp [c__law_core_begin, List.replicate, szD, o_rept e1, o_rept e2, o_rept e3, rept_non, rept_0]
  exact someQ_i q
theorem run_i {wide cells lights : Nat} (hL : k + 7 ≤ L) (S : ST P) (hw : 2 ≤ wide) (hw2 : wide ≤ 100) {p : Pgm} (ok : POk (hf2 wide) k p) (hm : p.many ≤ 100) (hk : 1 ≤ k) (hc : cells ≤ 100) (hl : lights ≤ 100) {hs : List Nat} (hn : hs.length ≤ 1000)
    (q : ∀ h', Sub h h' → Q (.tup (runL (hf2 wide) p (begS p cells lights) hs hs.length)) h') : wC P L "run_of_core" [p.d, szD wide cells lights, .tup (nL hs)] h Q X := by
  obtain ⟨n, rfl⟩ : ∃ n, L = n + 1 := ⟨L - 1, by omega⟩
  have h2 : 2 ≤ hf2 wide := by
    unfold hf2
    have : 2 ^ 1 ≤ 2 ^ (wide - 1) := Nat.pow_le_pow_right (by decide) (by omega)
    omega
  have so : SOk (hf2 wide) k p (begS p cells lights) := begS_ok h2 hm hc hl
  refine wC_i S.rc rfl ?_
  simp [-v_rB, c_run_of_core, List.replicate]
  refine begin_i (by omega) S hm hc hl ?_
  try simp [-v_rB]
  intro a na
  rw [v_rB]
  simp [-v_rB]
  refine for_f (fun i env h' => Sub h h' ∧ h' a = some (.lst (runL (hf2 wide) p (begS p cells lights) hs i)) ∧ ∃ o, env = [some p.d, some (szD wide cells lights), some (.tup (nL hs)), some (.loc a), o]) ⟨sub_put na, by rw [put_self]; rfl, none, rfl⟩ ?_ ?_
  · rintro i x env h' N hx ⟨sb, ha, o, rfl⟩ hN
    rw [nL, List.getElem?_map, Option.map_eq_some_iff] at hx
    obtain ⟨y, hy, rfl⟩ := hx
    have hi := (List.getElem?_eq_some_iff.mp hy).1
    have so2 := atS_ok ok h2 so hs i
    simp [-v_rB, ha, runL_last]
    refine step_i (k := k) (by omega) S hw hw2 ok so2 hk fun h2 s2 => ?_
    have ha2 := s2 a _ ha
    have cap : (runL (hf2 wide) p (begS p cells lights) hs i).length < 16777216 := by rw [runL_len]; omega
    try simp [-v_rB, ha2]
    try rw [m_app ha2 cap]
    try simp
    refine hN _ _ ⟨(sb.trans s2).put na, ?_, _, rfl⟩
    rw [put_self, runL_s, atS_s hy]
  · rintro env h' ⟨sb, ha, o, rfl⟩
    rw [nL_len] at ha
    simp [ha]
    exact someQ_i (q h' sb)
theorem words_i (hL : 3 ≤ L) (C : DC P) (S : SL P) {g m wide : Nat} (hw : 1 ≤ wide) (hw2 : wide ≤ 100) {ds : List Int} (hg : h g = some (.lst (iL ds))) (hm : m ≤ 1000) (q : ∀ (hs : List Nat) h', hs.length = m → Kd h g h' → Q (.tup (nL hs)) h') : wC P L "_law_words" [.loc g, .int m, .int wide] h Q X := by
  obtain ⟨n, rfl⟩ : ∃ n, L = n + 1 := ⟨L - 1, by omega⟩
  obtain ⟨n2, rfl⟩ : ∃ n2, n = n2 + 1 := ⟨n - 1, by omega⟩
  have m2 : ml 2 := ml_of (by decide) (by decide)
  have s1 : small62 (m : Int) = true := by simp [small62]; omega
  have eh : 2 ^ (wide - 1) = hf2 wide := rfl
  have hp : 0 < hf2 wide := Nat.pow_pos (by decide)
  refine wC_i S.wd rfl ?_
  simp [-v_rB, c__law_words, List.replicate]
  refine D3.half_i (w := wide) S.hf (by omega) (by omega) ?_
  rw [eh]
  simp [-v_rB, m2]
  rw [v_rB]
  simp [-v_rB, s1]
  refine comp_by (fun i acc h' => Kd h g h' ∧ ∃ hs : List Nat, hs.length = i ∧ acc = nL hs) ⟨Kd.refl hg, [], rfl, rfl⟩ (fun _ _ _ _ _ => trivial) ?_ ?_
  · rintro i x acc h' N hx ⟨kd, hs, hl, rfl⟩ hN
    simp only [v_fixi] at hx
    obtain ⟨hi, rfl⟩ := rngL_at hx
    obtain ⟨da, ea⟩ := kd.dr
    simp [wipe]
    refine take_L (by omega) C (by omega) ea fun y d1 y1 => ?_
    try simp
    refine ⟨by omega, hN _ _ ⟨kd.take _, hs ++ [y], by simp [hl], by simp [nL]⟩⟩
  · rintro _ h' ⟨kd, hs, hl, rfl⟩
    simp only [v_fixi, rngL_length] at hl
    try simp
    exact someQ_i (q hs h' hl kd)
theorem full_i (hL : 1 ≤ L) (S : ST P) {p : Pgm} {s : Stt} {z : D} (q : Q (.bl (decide ((s.b : Int) = (p.bs.length : Int)))) h) : wC P L "is_core_full" [p.d, z, s.d] h Q X := by
  obtain ⟨n, rfl⟩ : ∃ n, L = n + 1 := ⟨L - 1, by omega⟩
  refine wC_i S.fc rfl ?_
  simp [c_is_core_full, List.replicate]
  exact someQ_i q
theorem lights_i (hL : 1 ≤ L) (S : ST P) {p : Pgm} {s : Stt} {z : D} (q : Q (.tup (nL s.ls)) h) : wC P L "lights_of_core" [p.d, z, s.d] h Q X := by
  obtain ⟨n, rfl⟩ : ∃ n, L = n + 1 := ⟨L - 1, by omega⟩
  refine wC_i S.lc rfl ?_
  simp [c_lights_of_core, List.replicate]
  exact someQ_i (by simpa using q)
theorem same_L (hf : P.fn "_law_same" = some c__law_same) {j : Nat} {d : D} (hL : j + 1 ≤ L) (hs : sm j d = true) (q : Q (.bl true) h) : wC P L "_law_same" [d, d] h Q X := by
  obtain ⟨n, rfl⟩ : ∃ n, L = n + j + 1 := ⟨L - j - 1, by omega⟩
  exact same_i hf hs q
theorem told_i {wide cells lights : Nat} (hL : k + 8 ≤ L) (S : ST P) (Z : SL P) (C : DC P) (hf : P.fn "_law_same" = some c__law_same) (ht : P.fn "_law_is_told" = some c__law_is_told31) (hw : 2 ≤ wide) (hw2 : wide ≤ 100) {p : Pgm} (ok : POk (hf2 wide) k p) (hm : p.many ≤ 100) (hk : 1 ≤ k) (hc : cells ≤ 100) (hl : lights ≤ 100)
    {g : Nat} {ds : List Int} (hg : h g = some (.lst (iL ds))) (q : ∀ h', Kd h g h' → Q (.bl true) h') : wC P L "_law_is_told" [.loc g, p.d, szD wide cells lights] h Q X := by
  obtain ⟨n, rfl⟩ : ∃ n, L = n + 1 := ⟨L - 1, by omega⟩
  have h2 : 2 ≤ hf2 wide := by
    unfold hf2
    have : 2 ^ 1 ≤ 2 ^ (wide - 1) := Nat.pow_le_pow_right (by decide) (by omega)
    omega
  have hgn : h g ≠ none := by rw [hg]; simp
  have so : SOk (hf2 wide) k p (begS p cells lights) := begS_ok h2 hm hc hl
  have zd : szD wide cells lights = .tup [.int wide, .int cells, .int lights] := rfl
  refine wC_i ht rfl ?_
  simp [-v_rB, c__law_is_told31, List.replicate]
  refine law_begin_i (by omega) Z hm hc hl ?_
  rw [v_rB]
  simp [-v_rB]
  refine begin_i (by omega) S hm hc hl ?_
  try simp [-v_rB]
  refine same_L (j := 3) hf (by omega) (sm_st so) ?_
  simp [-v_rB]
  rw [v_rB]
  simp [-v_rB]
  refine take_L (by omega) C (by decide) hg fun md d1 m1 => ?_
  obtain ⟨m, em⟩ : ∃ m, m = md + 1 := ⟨_, rfl⟩
  have em2 : (1 : Int) + (md : Int) = (m : Int) := by omega
  rw [zd]
  simp [-v_rB, em2]
  rw [← zd]
  refine words_i (by omega) C Z (by omega) hw2 put_self (by omega) fun hs h1 hl1 kd1 => ?_
  have kd : Kd h g h1 := ⟨kd1.dr, fun b o nb e => kd1.kp b o nb (by rw [put_ne nb]; exact e)⟩
  rw [v_rB]
  simp [-v_rB]
  intro a na
  obtain ⟨a0, ag⟩ := kd.free hgn na
  rw [v_rB]
  simp [-v_rB]
  refine for_f (fun i env h' => Sub h1 h' ∧ h' a = some (.lst (runL (hf2 wide) p (begS p cells lights) hs i)) ∧ ∃ o6 o7, env = [some (.loc g), some p.d, some (szD wide cells lights), some (begS p cells lights).d, some (.tup (nL hs)), some (.loc a), o6, o7, none]) ⟨sub_put na, by rw [put_self]; rfl, none, none, rfl⟩ ?_ ?_
  · rintro i x env h' N hx ⟨sb, ha, o6, o7, rfl⟩ hN
    rw [nL, List.getElem?_map, Option.map_eq_some_iff] at hx
    obtain ⟨y, hy, rfl⟩ := hx
    have hi := (List.getElem?_eq_some_iff.mp hy).1
    have so2 := atS_ok ok h2 so hs i
    have so3 := atS_ok ok h2 so hs (i + 1)
    simp [-v_rB, ha, runL_last]
    refine law_step_i (k := k) (by omega) Z hw hw2 ok so2 hk fun h3 s3 => ?_
    have ha3 := s3 a _ ha
    rw [← atS_s hy, v_rB]
    simp [-v_rB, ha3, runL_last]
    refine step_i (k := k) (by omega) S hw hw2 ok so2 hk fun h4 s4 => ?_
    have ha4 := s4 a _ ha3
    rw [← atS_s hy]
    try simp [-v_rB]
    refine same_L (j := 3) hf (by omega) (sm_st so3) ?_
    have cap : (runL (hf2 wide) p (begS p cells lights) hs i).length < 16777216 := by rw [runL_len]; omega
    simp [-v_rB]
    rw [v_rB]
    simp [-v_rB, ha4]
    try rw [m_app ha4 cap]
    try simp
    refine hN _ _ ⟨((sb.trans s3).trans s4).put na, ?_, _, _, rfl⟩
    rw [put_self, runL_s]
  · rintro env h' ⟨sb, ha, o6, o7, rfl⟩
    rw [nL_len] at ha
    rw [v_nx, v_rB]
    simp [-v_rB, ha]
    refine for_l (fun i env h2 => h' = h2 ∧ ∃ o8, env = [some (.loc g), some p.d, some (szD wide cells lights), some (begS p cells lights).d, some (.tup (nL hs)), some (.loc a), o6, o7, o8]) ⟨rfl, none, rfl⟩ (fun i e h2 _ z => z.1 ▸ ha) ?_ ?_
    · rintro i x env h2' N hx ⟨rfl, o8, rfl⟩ hN
      simp only [runL, List.getElem?_map, Option.map_eq_some_iff] at hx
      obtain ⟨j, hj, rfl⟩ := hx
      have so3 := atS_ok ok h2 so hs j
      have ll := so3.ll
      generalize atS (hf2 wide) p (begS p cells lights) hs j = s at *
      simp
      refine lights_i (by omega) S ?_
      try simp
      refine same_L (j := 1) hf (by omega) (sm_nL (by omega)) ?_
      simp
      refine full_i (by omega) S ?_
      try simp
      refine same_L (j := 0) hf (by omega) (by rfl) ?_
      simp
      exact hN _ _ ⟨rfl, _, rfl⟩
    · rintro _ h2' ⟨rfl, o8, rfl⟩
      rw [v_nx, v_rB]
      simp [-v_rB]
      refine run_i (k := k) (by omega) S hw hw2 ok hm hk hc hl (by omega) fun h3 s3 => ?_
      simp [-v_rB, s3 a _ ha]
      refine same_L (j := 4) hf (by omega) (sm_run ok h2 so (by omega)) ?_
      refine someQ_i (q _ ⟨?_, fun b o nb e => s3 b o (sb b o (kd.kp b o nb e))⟩)
      obtain ⟨dd, e⟩ := kd.dr
      exact ⟨dd, s3 g _ (sb g _ e)⟩
end
end Cor
end Py
namespace Py
open PySem (Str)
namespace Cor
def c_taken_from_stack : Fn := ⟨1, 1, (.cons (.ret (.ite (.cmp .gt (.b1 .len (.var 0)) (.lit (.int 0))) (.tup (.cons (.ix (.var 0) (.neg (.lit (.int 1)))) (.cons (.sl (.var 0) .no (.so (.neg (.lit (.int 1))))) .nil))) (.tup (.cons (.lit (.int 0)) (.cons (.tup .nil) .nil))))) .nil)⟩
def c_full_state : Fn := ⟨2, 2, (.cons (.ret (.bin .add (.tup (.cons (.bin .add (.b1 .len (.ix (.var 0) (.lit (.int 5)))) (.lit (.int 1))) .nil)) (.sl (.var 1) (.so (.lit (.int 1))) .no))) .nil)⟩
def c_put_on_stack : Fn := ⟨4, 4, (.cons (.ifs (.cmp .eq (.b1 .len (.ix (.var 1) (.lit (.int 1)))) (.ix (.var 0) (.lit (.int 2)))) (.cons (.ret (.call "full_state" (.cons (.var 0) (.cons (.var 1) .nil)))) .nil) .nil) (.cons (.ret (.bin .add (.tup (.cons (.var 3) (.cons (.bin .add (.ix (.var 1) (.lit (.int 1))) (.tup (.cons (.var 2) .nil))) .nil))) (.sl (.var 1) (.so (.lit (.int 2))) .no))) .nil))⟩
def c_value_of_two : Fn := ⟨4, 7, (.cons (.asg (.nm 4) (.call "half_of_wide" (.cons (.ix (.var 0) (.lit (.int 0))) .nil))) (.cons (.ifs (.cmp .eq (.var 1) (.lit (.str "same"))) (.cons (.ret (.b1 .int (.cmp .eq (.var 2) (.var 3)))) .nil) .nil) (.cons (.asg (.tp (.cons (.nm 5) (.cons (.nm 6) .nil))) (.tup (.cons (.call "number_of_value" (.cons (.var 2) (.cons (.ix (.var 0) (.lit (.int 0))) .nil))) (.cons (.call "number_of_value" (.cons (.var 3) (.cons (.ix (.var 0) (.lit (.int 0))) .nil))) .nil)))) (.cons (.ifs (.cmp .eq (.var 1) (.lit (.str "less"))) (.cons (.ret (.b1 .int (.cmp .lt (.var 5) (.var 6)))) .nil) .nil) (.cons (.ret (.ite (.cmp .eq (.var 1) (.lit (.str "plus"))) (.bin .mod (.bin .add (.var 5) (.var 6)) (.var 4)) (.bin .mod (.bin .sub (.var 5) (.var 6)) (.var 4)))) .nil)))))⟩
def c_value_of_one : Fn := ⟨4, 4, (.cons (.ifs (.cmp .eq (.var 1) (.lit (.str "paired"))) (.cons (.ret (.b1 .int (.call "is_reference" (.cons (.var 2) (.cons (.ix (.var 0) (.lit (.int 0))) .nil))))) .nil) .nil) (.cons (.ifs (.not (.call "is_reference" (.cons (.var 2) (.cons (.ix (.var 0) (.lit (.int 0))) .nil)))) (.cons (.ret (.lit (.int 0))) .nil) .nil) (.cons (.ret (.ix (.ix (.var 3) (.call "cell_of" (.cons (.var 2) (.cons (.ix (.var 0) (.lit (.int 0))) .nil)))) (.mt .index (.tup (.cons (.lit (.str "first")) (.cons (.lit (.str "second")) .nil))) (.cons (.var 1) .nil)))) .nil)))⟩
def c_step_of_two : Fn := ⟨3, 10, (.cons (.asg (.tp (.cons (.nm 3) (.cons (.nm 4) (.cons (.nm 5) (.cons (.nm 6) (.cons (.nm 7) .nil)))))) (.var 1)) (.cons (.asg (.tp (.cons (.nm 8) (.cons (.nm 4) .nil))) (.call "taken_from_stack" (.cons (.var 4) .nil))) (.cons (.asg (.tp (.cons (.nm 9) (.cons (.nm 4) .nil))) (.call "taken_from_stack" (.cons (.var 4) .nil))) (.cons (.ret (.tup (.cons (.bin .add (.var 3) (.lit (.int 1))) (.cons (.bin .add (.var 4) (.tup (.cons (.call "value_of_two" (.cons (.var 0) (.cons (.var 2) (.cons (.var 9) (.cons (.var 8) .nil))))) .nil))) (.cons (.var 5) (.cons (.var 6) (.cons (.var 7) .nil))))))) .nil))))⟩
def c_step_of_one : Fn := ⟨3, 9, (.cons (.asg (.tp (.cons (.nm 3) (.cons (.nm 4) (.cons (.nm 5) (.cons (.nm 6) (.cons (.nm 7) .nil)))))) (.var 1)) (.cons (.asg (.tp (.cons (.nm 8) (.cons (.nm 4) .nil))) (.call "taken_from_stack" (.cons (.var 4) .nil))) (.cons (.ret (.tup (.cons (.bin .add (.var 3) (.lit (.int 1))) (.cons (.bin .add (.var 4) (.tup (.cons (.call "value_of_one" (.cons (.var 0) (.cons (.var 2) (.cons (.var 8) (.cons (.var 6) .nil))))) .nil))) (.cons (.var 5) (.cons (.var 6) (.cons (.var 7) .nil))))))) .nil)))⟩
def c_step_of_pair : Fn := ⟨2, 11, (.cons (.asg (.tp (.cons (.nm 2) (.cons (.nm 3) (.cons (.nm 4) (.cons (.nm 5) (.cons (.nm 6) .nil)))))) (.var 1)) (.cons (.asg (.nm 7) (.call "free_cell" (.cons (.var 5) .nil))) (.cons (.ifs (.isc false (.var 7) .non) (.cons (.ifs (.call "are_all_come_to" (.cons (.var 0) (.cons (.var 1) .nil))) (.cons (.ret (.call "full_state" (.cons (.var 0) (.cons (.var 1) .nil)))) .nil) .nil) (.cons (.ret (.tup (.cons (.var 2) (.cons (.var 3) (.cons (.var 4) (.cons (.call "collected_cells" (.cons (.var 5) (.cons (.call "roots_of_stack" (.cons (.var 1) .nil)) (.cons (.ix (.var 0) (.lit (.int 0))) .nil)))) (.cons (.var 6) .nil))))))) .nil)) .nil) (.cons (.asg (.tp (.cons (.nm 8) (.cons (.nm 3) .nil))) (.call "taken_from_stack" (.cons (.var 3) .nil))) (.cons (.asg (.tp (.cons (.nm 9) (.cons (.nm 3) .nil))) (.call "taken_from_stack" (.cons (.var 3) .nil))) (.cons (.asg (.nm 10) (.bin .add (.bin .add (.sl (.var 5) .no (.so (.var 7))) (.tup (.cons (.tup (.cons (.var 9) (.cons (.var 8) .nil))) .nil))) (.sl (.var 5) (.so (.bin .add (.var 7) (.lit (.int 1)))) .no))) (.cons (.ret (.tup (.cons (.bin .add (.var 2) (.lit (.int 1))) (.cons (.bin .add (.var 3) (.tup (.cons (.call "reference_to" (.cons (.var 7) (.cons (.ix (.var 0) (.lit (.int 0))) .nil))) .nil))) (.cons (.var 4) (.cons (.var 10) (.cons (.var 6) .nil))))))) .nil)))))))⟩
def c_value_put : Fn := ⟨4, 4, (.cons (.ifs (.cmp .eq (.ix (.var 2) (.lit (.int 0))) (.lit (.str "push"))) (.cons (.ret (.ix (.var 2) (.lit (.int 1)))) .nil) .nil) (.cons (.ret (.ite (.cmp .eq (.ix (.var 2) (.lit (.int 0))) (.lit (.str "load"))) (.ix (.ix (.var 1) (.lit (.int 2))) (.ix (.var 2) (.lit (.int 1)))) (.call "number_heard" (.cons (.var 3) (.cons (.ix (.var 0) (.lit (.int 0))) .nil))))) .nil))⟩
def c_step_of_taking : Fn := ⟨3, 9, (.cons (.asg (.tp (.cons (.nm 3) (.cons (.nm 4) (.cons (.nm 5) (.cons (.nm 6) (.cons (.nm 7) .nil)))))) (.var 1)) (.cons (.asg (.tp (.cons (.nm 8) (.cons (.nm 4) .nil))) (.call "taken_from_stack" (.cons (.var 4) .nil))) (.cons (.ifs (.cmp .eq (.ix (.var 2) (.lit (.int 0))) (.lit (.str "keep"))) (.cons (.ret (.tup (.cons (.bin .add (.var 3) (.lit (.int 1))) (.cons (.var 4) (.cons (.bin .add (.bin .add (.sl (.var 5) .no (.so (.ix (.var 2) (.lit (.int 1))))) (.tup (.cons (.var 8) .nil))) (.sl (.var 5) (.so (.bin .add (.ix (.var 2) (.lit (.int 1))) (.lit (.int 1)))) .no)) (.cons (.var 6) (.cons (.var 7) .nil))))))) .nil) .nil) (.cons (.ifs (.cmp .eq (.ix (.var 2) (.lit (.int 0))) (.lit (.str "show"))) (.cons (.ret (.tup (.cons (.bin .add (.var 3) (.lit (.int 1))) (.cons (.var 4) (.cons (.var 5) (.cons (.var 6) (.cons (.call "shown_bits" (.cons (.call "number_of_value" (.cons (.var 8) (.cons (.ix (.var 0) (.lit (.int 0))) .nil))) (.cons (.ix (.var 0) (.lit (.int 1))) .nil))) .nil))))))) .nil) .nil) (.cons (.ret (.tup (.cons (.ite (.and (.cmp .eq (.ix (.var 2) (.lit (.int 0))) (.lit (.str "unless"))) (.cmp .eq (.var 8) (.lit (.int 0)))) (.ix (.var 2) (.lit (.int 1))) (.bin .add (.var 3) (.lit (.int 1)))) (.cons (.var 4) (.cons (.var 5) (.cons (.var 6) (.cons (.var 7) .nil))))))) .nil)))))⟩
def c_step_of_going : Fn := ⟨3, 3, (.cons (.ifs (.cmp .eq (.ix (.var 2) (.lit (.int 0))) (.lit (.str "jump"))) (.cons (.ret (.bin .add (.tup (.cons (.ix (.var 2) (.lit (.int 1))) .nil)) (.sl (.var 1) (.so (.lit (.int 1))) .no))) .nil) .nil) (.cons (.ifs (.cmp .eq (.ix (.var 2) (.lit (.int 0))) (.lit (.str "call"))) (.cons (.ret (.call "put_on_stack" (.cons (.var 0) (.cons (.var 1) (.cons (.mt .index (.call "rows_of_calls" (.cons (.var 0) .nil)) (.cons (.ix (.var 1) (.lit (.int 0))) .nil)) (.cons (.ix (.var 2) (.lit (.int 1))) .nil)))))) .nil) .nil) (.cons (.ret (.ite (.cmp .eq (.ix (.var 2) (.lit (.int 0))) (.lit (.str "back"))) (.call "step_of_back" (.cons (.var 0) (.cons (.var 1) .nil))) (.var 1))) .nil)))⟩
def c_step_of_stack : Fn := ⟨3, 5, (.cons (.asg (.nm 3) (.ix (.var 1) (.lit (.int 0)))) (.cons (.ifs (.cmp .ge (.var 3) (.b1 .len (.ix (.var 0) (.lit (.int 5))))) (.cons (.ret (.var 1)) .nil) .nil) (.cons (.asg (.nm 4) (.ix (.ix (.var 0) (.lit (.int 5))) (.var 3))) (.cons (.ifs (.cmp .inn (.ix (.var 4) (.lit (.int 0))) (.glo "OF_TWO")) (.cons (.ret (.call "step_of_two" (.cons (.var 0) (.cons (.var 1) (.cons (.ix (.var 4) (.lit (.int 0))) .nil))))) .nil) .nil) (.cons (.ifs (.cmp .inn (.ix (.var 4) (.lit (.int 0))) (.glo "OF_ONE")) (.cons (.ret (.call "step_of_one" (.cons (.var 0) (.cons (.var 1) (.cons (.ix (.var 4) (.lit (.int 0))) .nil))))) .nil) .nil) (.cons (.ifs (.cmp .inn (.ix (.var 4) (.lit (.int 0))) (.glo "PUTTING")) (.cons (.ret (.call "put_on_stack" (.cons (.var 0) (.cons (.var 1) (.cons (.call "value_put" (.cons (.var 0) (.cons (.var 1) (.cons (.var 4) (.cons (.var 2) .nil))))) (.cons (.bin .add (.var 3) (.lit (.int 1))) .nil)))))) .nil) .nil) (.cons (.ifs (.cmp .eq (.ix (.var 4) (.lit (.int 0))) (.lit (.str "pair"))) (.cons (.ret (.call "step_of_pair" (.cons (.var 0) (.cons (.var 1) .nil)))) .nil) .nil) (.cons (.ifs (.cmp .inn (.ix (.var 4) (.lit (.int 0))) (.tup (.cons (.lit (.str "keep")) (.cons (.lit (.str "drop")) (.cons (.lit (.str "show")) (.cons (.lit (.str "unless")) .nil)))))) (.cons (.ret (.call "step_of_taking" (.cons (.var 0) (.cons (.var 1) (.cons (.var 4) .nil))))) .nil) .nil) (.cons (.ret (.call "step_of_going" (.cons (.var 0) (.cons (.var 1) (.cons (.var 4) .nil))))) .nil)))))))))⟩
def c_begin_of_stack : Fn := ⟨1, 7, (.cons (.asg (.tp (.cons (.nm 1) (.cons (.nm 2) (.cons (.nm 3) (.cons (.nm 4) (.cons (.nm 5) (.cons (.nm 6) .nil))))))) (.var 0)) (.cons (.ret (.tup (.cons (.lit (.int 0)) (.cons (.tup .nil) (.cons (.bin .mul (.tup (.cons (.lit (.int 0)) .nil)) (.var 4)) (.cons (.bin .mul (.tup (.cons (.lit .non) .nil)) (.var 5)) (.cons (.bin .mul (.tup (.cons (.lit (.int 0)) .nil)) (.var 2)) .nil))))))) .nil))⟩
def c_lights_of_stack : Fn := ⟨2, 2, (.cons (.ret (.ix (.var 1) (.lit (.int 4)))) .nil)⟩
def c_number_of_value : Fn := ⟨2, 2, (.cons (.ret (.ite (.call "is_reference" (.cons (.var 0) (.cons (.var 1) .nil))) (.lit (.int 0)) (.var 0))) .nil)⟩
def c_number_heard : Fn := ⟨2, 2, (.cons (.ret (.bin .mod (.var 0) (.call "half_of_wide" (.cons (.var 1) .nil)))) .nil)⟩
def c_shown_bits : Fn := ⟨2, 2, (.cons (.ret (.call "bits_of_word" (.cons (.var 0) (.cons (.var 1) .nil)))) .nil)⟩
def c_bits_of_word : Fn := ⟨2, 4, (.cons (.asg (.nm 2) (.lst .nil)) (.cons (.for_ (.nm 3) (.rng1 (.var 1)) (.cons (.expr (.mt .append (.var 2) (.cons (.bin .mod (.var 0) (.lit (.int 2))) .nil))) (.cons (.asg (.nm 0) (.bin .fdiv (.var 0) (.lit (.int 2)))) .nil))) (.cons (.ret (.b1 .tup (.var 2))) .nil)))⟩
def c_reference_to : Fn := ⟨2, 2, (.cons (.ret (.bin .add (.call "half_of_wide" (.cons (.var 1) .nil)) (.var 0))) .nil)⟩
def c_roots_of_stack : Fn := ⟨1, 1, (.cons (.ret (.bin .add (.ix (.var 0) (.lit (.int 1))) (.ix (.var 0) (.lit (.int 2))))) .nil)⟩
def c_are_all_come_to : Fn := ⟨2, 2, (.cons (.ret (.cmp .eq (.b1 .len (.call "cells_come_to" (.cons (.ix (.var 1) (.lit (.int 3))) (.cons (.call "roots_of_stack" (.cons (.var 1) .nil)) (.cons (.ix (.var 0) (.lit (.int 0))) .nil))))) (.b1 .len (.ix (.var 1) (.lit (.int 3)))))) .nil)⟩
def twoN : D := .tup [.str (nm .plus), .str (nm .minus), .str (nm .less), .str (nm .same)]
def oneN : D := .tup [.str (nm .first), .str (nm .second), .str (nm .paired)]
def putN : D := .tup [.str (nm .push), .str (nm .load), .str (nm .hear)]
structure SK (P : Prog) : Prop where
  ce : Cel P
  cc : P.fn "collected_cells" = some c_collected_cells
  fc : P.fn "free_cell" = some c_free_cell
  tk : P.fn "taken_from_stack" = some c_taken_from_stack
  fs : P.fn "full_state" = some c_full_state
  pos : P.fn "put_on_stack" = some c_put_on_stack
  v2 : P.fn "value_of_two" = some c_value_of_two
  v1 : P.fn "value_of_one" = some c_value_of_one
  s2 : P.fn "step_of_two" = some c_step_of_two
  s1 : P.fn "step_of_one" = some c_step_of_one
  sp : P.fn "step_of_pair" = some c_step_of_pair
  vp : P.fn "value_put" = some c_value_put
  st : P.fn "step_of_taking" = some c_step_of_taking
  sg : P.fn "step_of_going" = some c_step_of_going
  ss : P.fn "step_of_stack" = some c_step_of_stack
  bg : P.fn "begin_of_stack" = some c_begin_of_stack
  nv : P.fn "number_of_value" = some c_number_of_value
  nh : P.fn "number_heard" = some c_number_heard
  sb : P.fn "shown_bits" = some c_shown_bits
  bw : P.fn "bits_of_word" = some c_bits_of_word
  rt : P.fn "reference_to" = some c_reference_to
  rs : P.fn "roots_of_stack" = some c_roots_of_stack
  ac : P.fn "are_all_come_to" = some c_are_all_come_to
  g2 : P.gl "OF_TWO" = some twoN
  g1 : P.gl "OF_ONE" = some oneN
  gp : P.gl "PUTTING" = some putN
/-! ### states of the stack machine -/
structure SS where
  a : Nat
  st : List Nat
  vs : List Nat
  cs : Cs
  ls : List Nat
def SS.d (s : SS) : D := .tup [.int s.a, .tup (nL s.st), .tup (nL s.vs), .tup (csD s.cs), .tup (nL s.ls)]
@[simp] theorem ss0 {s : SS} {h : AH} : ixD (.v s.d) (.v (.int 0)) h = some (.int s.a) := by simp [SS.d]
@[simp] theorem ss1 {s : SS} {h : AH} : ixD (.v s.d) (.v (.int 1)) h = some (.tup (nL s.st)) := by simp [SS.d]
@[simp] theorem ss2 {s : SS} {h : AH} : ixD (.v s.d) (.v (.int 2)) h = some (.tup (nL s.vs)) := by simp [SS.d]
@[simp] theorem ss3 {s : SS} {h : AH} : ixD (.v s.d) (.v (.int 3)) h = some (.tup (csD s.cs)) := by simp [SS.d]
@[simp] theorem ss4 {s : SS} {h : AH} : ixD (.v s.d) (.v (.int 4)) h = some (.tup (nL s.ls)) := by simp [SS.d]
@[simp] theorem ssS {s : SS} {h : AH} : sqV (.v s.d) h = some [.int s.a, .tup (nL s.st), .tup (nL s.vs), .tup (csD s.cs), .tup (nL s.ls)] := rfl
theorem cut_last {xs : List D} {x : D} : cut (xs ++ [x]) none (some (-1)) = xs := by
  have e1 : sIx (xs.length + 1) (xs.length + 1) (some (-1)) = xs.length := by
    unfold sIx
    simp
    omega
  have e2 : sIx (xs.length + 1) 0 none = 0 := rfl
  simp [cut, e1, e2]
section
variable {P : Prog} {L : Nat} {h : AH} {Q : D → AH → Prop} {X : Xc} {half wide many k : Nat} {vs : List Nat} {cs : Cs}
theorem pw_L (hL : 1 ≤ L) (C : Cel P) (hw : wide ≤ 100) (q : Q (.int ((2 ^ wide : Nat) : Int)) h) : wC P L "power_of_two" [.int wide] h Q X := by
  obtain ⟨n, rfl⟩ : ∃ n, L = n + 1 := ⟨L - 1, by omega⟩
  exact power_of_two_i C.p2 (by omega) q
theorem hw_L (hL : 2 ≤ L) (C : Cel P) (h1 : 1 ≤ wide) (hw : wide ≤ 100) (q : Q (.int (hf2 wide)) h) : wC P L "half_of_wide" [.int wide] h Q X := by
  obtain ⟨n, rfl⟩ : ∃ n, L = n + 2 := ⟨L - 2, by omega⟩
  exact half_of_wide_i C.half C.p2 h1 (by omega) q
theorem isr_L (hL : 3 ≤ L) (C : Cel P) (h1 : 1 ≤ wide) (hw : wide ≤ 100) {v : Nat} (q : Q (.bl (decide (hf2 wide ≤ v))) h) : wC P L "is_reference" [.int v, .int wide] h Q X := by
  obtain ⟨n, rfl⟩ : ∃ n, L = n + 3 := ⟨L - 3, by omega⟩
  exact is_reference_i C.isr C.half C.p2 h1 (by omega) q
theorem num_L (hL : 4 ≤ L) (S : SK P) (h1 : 1 ≤ wide) (hw : wide ≤ 100) {v : Nat} (q : Q (.int (nz (hf2 wide) v)) h) : wC P L "number_of_value" [.int v, .int wide] h Q X := by
  obtain ⟨n, rfl⟩ : ∃ n, L = n + 1 := ⟨L - 1, by omega⟩
  refine wC_i S.nv rfl ?_
  simp [c_number_of_value, List.replicate]
  refine isr_L (by omega) S.ce h1 hw ?_
  unfold nz at q
  by_cases z : hf2 wide ≤ v
  · rw [if_neg (by omega)] at q
    simp [z]
    exact someQ_i q
  · rw [if_pos (by omega)] at q
    simp [z]
    exact someQ_i q
theorem heard_L (hL : 3 ≤ L) (S : SK P) (h1 : 1 ≤ wide) (hw : wide ≤ 100) {v : Nat} (q : Q (.int ((v % hf2 wide : Nat) : Int)) h) : wC P L "number_heard" [.int v, .int wide] h Q X := by
  obtain ⟨n, rfl⟩ : ∃ n, L = n + 1 := ⟨L - 1, by omega⟩
  have hp : 0 < hf2 wide := Nat.pow_pos (by decide)
  refine wC_i S.nh rfl ?_
  simp [c_number_heard, List.replicate]
  refine hw_L (by omega) S.ce h1 hw ?_
  rw [Int.natCast_emod] at q
  simp [hp]
  exact someQ_i q
theorem ref_L (hL : 3 ≤ L) (S : SK P) (h1 : 1 ≤ wide) (hw : wide ≤ 100) {v : Nat} (q : Q (.int ((hf2 wide + v : Nat) : Int)) h) : wC P L "reference_to" [.int v, .int wide] h Q X := by
  obtain ⟨n, rfl⟩ : ∃ n, L = n + 1 := ⟨L - 1, by omega⟩
  refine wC_i S.rt rfl ?_
  simp [c_reference_to, List.replicate]
  refine hw_L (by omega) S.ce h1 hw ?_
  simp
  exact someQ_i (by simpa using q)
theorem shown_L (hL : 2 ≤ L) (S : SK P) {m x : Nat} (hm : m ≤ 10000) (q : Q (.tup (nL ((List.range m).map fun k => x / 2 ^ k % 2))) h) : wC P L "shown_bits" [.int x, .int m] h Q X := by
  obtain ⟨n, rfl⟩ : ∃ n, L = n + 2 := ⟨L - 2, by omega⟩
  have s1 : small62 (m : Int) = true := by simp [small62]; omega
  refine wC_i S.sb rfl ?_
  simp [c_shown_bits, List.replicate]
  refine wC_i S.bw rfl ?_
  simp [c_bits_of_word, List.replicate, s1]
  intro a na
  refine for_f (fun i env h' => h' = put h a (.lst (nL ((List.range i).map fun k => x / 2 ^ k % 2))) ∧ ∃ o, env = [some (.int ((x / 2 ^ i : Nat) : Int)), some (.int m), some (.loc a), o]) ⟨rfl, none, by simp⟩ ?_ ?_
  · rintro i y env h' N hx ⟨rfl, o, rfl⟩ hN
    obtain ⟨hi, rfl⟩ := rngL_at hx
    have hi' : i < m := by simpa using hi
    have l1 : i < 16777216 := by omega
    simp [l1]
    refine hN _ _ ⟨?_, some (.int i), ?_⟩
    · simp [nL, List.range_succ]
    · have e : (((x / 2 ^ (i + 1) : Nat) : Int)) = ((x / 2 ^ i / 2 : Nat) : Int) := by rw [Nat.pow_succ, Nat.div_div_eq_div_mul]
      simp at e
      simp [e]
  · rintro env h' ⟨rfl, o, rfl⟩
    simp
    exact someQ_s (sub_put na) (someQ_i (by simpa using q))
theorem taken_L (hL : 1 ≤ L) (S : SK P) {s2 st : List Nat} {x : Nat} (es : s2 = st ++ [x]) (q : Q (.tup [.int x, .tup (nL st)]) h) : wC P L "taken_from_stack" [.tup (nL s2)] h Q X := by
  subst es
  obtain ⟨n, rfl⟩ : ∃ n, L = n + 1 := ⟨L - 1, by omega⟩
  have e : nL (st ++ [x]) = nL st ++ [.int x] := by simp [nL]
  rw [e]
  refine wC_i S.tk rfl ?_
  have e1 : (0 : Int) < (nL st).length + 1 := by omega
  simp [c_taken_from_stack, List.replicate, e1, at_last, cut_last]
  exact someQ_i q
end
end Cor
end Py
namespace Py
open PySem (Str)
namespace Cor
section
variable {P : Prog} {L : Nat} {h : AH} {Q : D → AH → Prop} {X : Xc} {half wide many k lights pl cells : Nat} {rows : List Row}
theorem v2_L (hL : 5 ≤ L) (S : SK P) (hw : 2 ≤ wide) (hw2 : wide ≤ 100) {s : Nm} (hs : Bn s) {x y : Nat} (q : Q (.int (bval (hf2 wide) s x y)) h) : wC P L "value_of_two" [tD wide lights pl many cells rows, .str (nm s), .int x, .int y] h Q X := by
  obtain ⟨n, rfl⟩ : ∃ n, L = n + 1 := ⟨L - 1, by omega⟩
  have hp' : 0 < hf2 wide := Nat.pow_pos (by decide)
  refine wC_i S.v2 rfl ?_
  unfold bval at q
  simp [-v_rB, c_value_of_two, List.replicate, tD]
  refine hw_L (by omega) S.ce (by omega) hw2 ?_
  rw [v_rB]
  rcases hs.h with rfl | rfl | rfl | rfl
  · simp at q
    simp [-v_rB, n9]
    rw [v_rB]
    simp [-v_rB]
    refine num_L (by omega) S (by omega) hw2 ?_
    try simp [-v_rB]
    refine num_L (by omega) S (by omega) hw2 ?_
    try simp [-v_rB]
    rw [v_rB]
    simp [-v_rB, n8]
    rw [v_rB]
    simp [n6, hp']
    exact someQ_i (by simpa using q)
  · simp at q
    simp [-v_rB, n9]
    rw [v_rB]
    simp [-v_rB]
    refine num_L (by omega) S (by omega) hw2 ?_
    try simp [-v_rB]
    refine num_L (by omega) S (by omega) hw2 ?_
    try simp [-v_rB]
    rw [v_rB]
    simp [-v_rB, n8]
    rw [v_rB]
    simp [n6, hp']
    have e : ((nz (hf2 wide) x : Int) - (nz (hf2 wide) y : Int)) % (hf2 wide : Int) = (((nz (hf2 wide) x + hf2 wide - nz (hf2 wide) y) % hf2 wide : Nat) : Int) := by
      have hy : nz (hf2 wide) y < hf2 wide := by unfold nz; split <;> omega
      rw [Int.natCast_emod, show ((nz (hf2 wide) x + hf2 wide - nz (hf2 wide) y : Nat) : Int) = (nz (hf2 wide) x : Int) - (nz (hf2 wide) y : Int) + (hf2 wide : Int) by omega, Int.add_emod_right]
    rw [e]
    exact someQ_i q
  · simp at q
    simp [-v_rB, n9]
    rw [v_rB]
    simp [-v_rB]
    refine num_L (by omega) S (by omega) hw2 ?_
    try simp [-v_rB]
    refine num_L (by omega) S (by omega) hw2 ?_
    try simp [-v_rB]
    rw [v_rB]
    by_cases z : nz (hf2 wide) x < nz (hf2 wide) y
    · simp [z, n8] at q ⊢
      exact someQ_i q
    · simp [z, n8] at q ⊢
      exact someQ_i q
  · simp at q
    by_cases z : x = y
    · simp [z, n9] at q ⊢
      exact someQ_i q
    · have z' : ¬ (x : Int) = (y : Int) := by omega
      simp [z, z', n9] at q ⊢
      exact someQ_i q
theorem v1_L (hL : 4 ≤ L) (S : SK P) (hw : 2 ≤ wide) (hw2 : wide ≤ 100) {s : Nm} (hs : Un s) {x : Nat} {cs : Cs} (gx : Gv (hf2 wide) cs x) (q : Q (.int (uval (hf2 wide) cs s x)) h) : wC P L "value_of_one" [tD wide lights pl many cells rows, .str (nm s), .int x, .tup (csD cs)] h Q X := by
  obtain ⟨n, rfl⟩ : ∃ n, L = n + 4 := ⟨L - 4, by omega⟩
  refine wC_i S.v1 rfl ?_
  unfold uval at q
  rcases hs.h with rfl | rfl | rfl
  · simp [-v_rB, c_value_of_one, List.replicate, tD, n3]
    refine isr_L (by omega) S.ce (by omega) hw2 ?_
    by_cases z : x < hf2 wide
    · have z' : ¬ hf2 wide ≤ x := by omega
      simp [z, z'] at q ⊢
      exact someQ_i q
    · have z' : hf2 wide ≤ x := by omega
      simp [z, z'] at q ⊢
      exact someQ_i q
  · simp [-v_rB, c_value_of_one, List.replicate, tD, n3]
    rw [v_rB]
    simp [-v_rB]
    refine isr_L (by omega) S.ce (by omega) hw2 ?_
    by_cases z : x < hf2 wide
    · have z' : ¬ hf2 wide ≤ x := by omega
      simp [z, z'] at q ⊢
      exact someQ_i q
    · have z' : hf2 wide ≤ x := by omega
      obtain ⟨h3, h4⟩ := gx z'
      obtain ⟨c, d, e1, e2⟩ := cell_pair h3 h4
      simp [-v_rB, z']
      rw [v_rB]
      simp [-v_rB]
      refine cell_of_i S.ce.co S.ce.half S.ce.p2 (by omega) (by omega) z' ?_
      simp [z, n4, n5, e2, ix_first, q_idx]
      rw [e1] at q
      exact someQ_i (by simpa [z, gn] using q)
  · simp [-v_rB, c_value_of_one, List.replicate, tD, n3]
    rw [v_rB]
    simp [-v_rB]
    refine isr_L (by omega) S.ce (by omega) hw2 ?_
    by_cases z : x < hf2 wide
    · have z' : ¬ hf2 wide ≤ x := by omega
      simp [z, z'] at q ⊢
      exact someQ_i q
    · have z' : hf2 wide ≤ x := by omega
      obtain ⟨h3, h4⟩ := gx z'
      obtain ⟨c, d, e1, e2⟩ := cell_pair h3 h4
      simp [-v_rB, z']
      rw [v_rB]
      simp [-v_rB]
      refine cell_of_i S.ce.co S.ce.half S.ce.p2 (by omega) (by omega) z' ?_
      simp [z, n4, n5, e2, ix_second, q_idx]
      rw [e1] at q
      exact someQ_i (by simpa [z, gn] using q)
/-- a row of two values -/
theorem stk_bi (hL : 7 ≤ L) (S : SK P) (hw : 2 ≤ wide) (hw2 : wide ≤ 100) {a heard : Nat} {s2 s1 s0 vs : List Nat} {cs : Cs} {ls : List Nat} {x y : Nat} {s : Nm} (hs : Bn s) (hr : rows[a]? = some (s, none)) (e1 : s2 = s1 ++ [y]) (e0 : s1 = s0 ++ [x]) (hst : s2.length ≤ 10000)
    (q : Q (SS.mk (a + 1) (s0 ++ [bval (hf2 wide) s x y]) vs cs ls).d h) : wC P L "step_of_stack" [tD wide lights pl many cells rows, (SS.mk a s2 vs cs ls).d, .int heard] h Q X := by
  have l0 : s0.length + 1 ≤ 16777216 := by rw [e1, e0] at hst; simp at hst; omega
  obtain ⟨n, rfl⟩ : ∃ n, L = n + 1 := ⟨L - 1, by omega⟩
  obtain ⟨n2, rfl⟩ : ∃ n2, n = n2 + 1 := ⟨n - 1, by omega⟩
  have ra := row_at hr
  have hlt := (List.getElem?_eq_some_iff.mp hr).1
  have nlt : ¬ rows.length ≤ a := by omega
  refine wC_i S.ss rfl ?_
  simp [-v_rB, c_step_of_stack, List.replicate]
  rw [v_rB]
  simp [-v_rB, tD, nlt]
  rw [v_rB]
  simp [-v_rB, ra, rw1]
  rw [v_rB]
  have i2 : ∀ h, cmpD .inn (.v (.str (nm s))) (.v twoN) h = some true := fun h => by
    unfold twoN
    rw [in_nm (by simp)]
    rcases hs.h with rfl | rfl | rfl | rfl <;> simp
  simp [-v_rB, S.g2, i2]
  refine wC_i S.s2 rfl ?_
  simp [-v_rB, c_step_of_two, List.replicate]
  rw [v_rB]
  simp [-v_rB]
  refine taken_L (by omega) S e1 ?_
  simp [-v_rB]
  rw [v_rB]
  simp [-v_rB]
  refine taken_L (by omega) S e0 ?_
  simp [-v_rB]
  rw [v_rB]
  simp [-v_rB]
  refine v2_L (lights := lights) (pl := pl) (many := many) (cells := cells) (rows := rows) (by omega) S hw hw2 hs ?_
  simp [l0]
  refine someQ_i (someQ_i ?_)
  simpa [SS.d, nL] using q
/-- a row of one value -/
theorem stk_un (hL : 7 ≤ L) (S : SK P) (hw : 2 ≤ wide) (hw2 : wide ≤ 100) {a heard : Nat} {s2 s0 vs : List Nat} {cs : Cs} {ls : List Nat} {x : Nat} {s : Nm} (hs : Un s) (hr : rows[a]? = some (s, none)) (e0 : s2 = s0 ++ [x]) (gx : Gv (hf2 wide) cs x) (hst : s2.length ≤ 10000)
    (q : Q (SS.mk (a + 1) (s0 ++ [uval (hf2 wide) cs s x]) vs cs ls).d h) : wC P L "step_of_stack" [tD wide lights pl many cells rows, (SS.mk a s2 vs cs ls).d, .int heard] h Q X := by
  have l0 : s0.length + 1 ≤ 16777216 := by rw [e0] at hst; simp at hst; omega
  obtain ⟨n, rfl⟩ : ∃ n, L = n + 1 := ⟨L - 1, by omega⟩
  obtain ⟨n2, rfl⟩ : ∃ n2, n = n2 + 1 := ⟨n - 1, by omega⟩
  have ra := row_at hr
  have hlt := (List.getElem?_eq_some_iff.mp hr).1
  have nlt : ¬ rows.length ≤ a := by omega
  refine wC_i S.ss rfl ?_
  simp [-v_rB, c_step_of_stack, List.replicate]
  rw [v_rB]
  simp [-v_rB, tD, nlt]
  rw [v_rB]
  simp [-v_rB, ra, rw1]
  rw [v_rB]
  have i2 : ∀ h, cmpD .inn (.v (.str (nm s))) (.v twoN) h = some false := fun h => by
    unfold twoN
    rw [in_nm (by simp)]
    rcases hs.h with rfl | rfl | rfl <;> simp
  simp [-v_rB, S.g2, i2]
  rw [v_rB]
  have i1 : ∀ h, cmpD .inn (.v (.str (nm s))) (.v oneN) h = some true := fun h => by
    unfold oneN
    rw [in_nm (by simp)]
    rcases hs.h with rfl | rfl | rfl <;> simp
  simp [-v_rB, S.g1, i1]
  refine wC_i S.s1 rfl ?_
  simp [-v_rB, c_step_of_one, List.replicate]
  rw [v_rB]
  simp [-v_rB]
  refine taken_L (by omega) S e0 ?_
  simp [-v_rB]
  rw [v_rB]
  simp [-v_rB]
  refine v1_L (lights := lights) (pl := pl) (many := many) (cells := cells) (rows := rows) (by omega) S hw hw2 hs gx ?_
  simp [l0]
  refine someQ_i (someQ_i ?_)
  simpa [SS.d, nL] using q
theorem stk_push (hL : 7 ≤ L) (S : SK P) (hw : 2 ≤ wide) (hw2 : wide ≤ 100) {a heard : Nat} {st vs : List Nat} {cs : Cs} {ls : List Nat} {m : Nat} (hr : rows[a]? = some (.push, some m)) (hst : st.length < pl) (hpl : pl ≤ 10000)
    (q : Q (SS.mk (a + 1) (st ++ [m]) vs cs ls).d h) : wC P L "step_of_stack" [tD wide lights pl many cells rows, (SS.mk a st vs cs ls).d, .int heard] h Q X := by
  obtain ⟨n, rfl⟩ : ∃ n, L = n + 1 := ⟨L - 1, by omega⟩
  obtain ⟨n2, rfl⟩ : ∃ n2, n = n2 + 1 := ⟨n - 1, by omega⟩
  have ra := row_at hr
  have hlt := (List.getElem?_eq_some_iff.mp hr).1
  have nlt : ¬ rows.length ≤ a := by omega
  refine wC_i S.ss rfl ?_
  simp [-v_rB, c_step_of_stack, List.replicate]
  rw [v_rB]
  simp [-v_rB, tD, nlt]
  rw [v_rB]
  simp [-v_rB, ra, rw1]
  rw [v_rB]
  have i2 : ∀ h, cmpD .inn (.v (.str (nm .push))) (.v twoN) h = some false := fun h => by
    unfold twoN
    rw [in_nm (by simp)]
    simp
  simp [-v_rB, S.g2, i2]
  rw [v_rB]
  have i1 : ∀ h, cmpD .inn (.v (.str (nm .push))) (.v oneN) h = some false := fun h => by
    unfold oneN
    rw [in_nm (by simp)]
    simp
  simp [-v_rB, S.g1, i1]
  rw [v_rB]
  have ip : ∀ h, cmpD .inn (.v (.str (nm .push))) (.v putN) h = some true := fun h => by
    unfold putN
    rw [in_nm (by simp)]
    simp
  simp [-v_rB, S.gp, ip]
  refine wC_i S.vp rfl ?_
  simp [-v_rB, c_value_put, List.replicate, n17]
  refine someQ_i ?_
  try simp [-v_rB]
  refine wC_i S.pos rfl ?_
  simp [-v_rB, c_put_on_stack, List.replicate]
  rw [v_rB]
  have z1 : ¬ (st.length : Int) = (pl : Int) := by omega
  simp [-v_rB, z1]
  have l0 : st.length + 1 ≤ 16777216 := by omega
  have ec : cut [D.int (a : Int), .tup (nL st), .tup (nL vs), .tup (csD cs), .tup (nL ls)] (some 2) none = [.tup (nL vs), .tup (csD cs), .tup (nL ls)] := cut_drop (xs := [D.int (a : Int), .tup (nL st), .tup (nL vs), .tup (csD cs), .tup (nL ls)]) (k := 2) (by simp)
  simp [l0, SS.d, ec]
  refine someQ_i (someQ_i ?_)
  simpa [SS.d, nL] using q
theorem stk_load (hL : 7 ≤ L) (S : SK P) (hw : 2 ≤ wide) (hw2 : wide ≤ 100) {a heard : Nat} {st vs : List Nat} {cs : Cs} {ls : List Nat} {m : Nat} (hr : rows[a]? = some (.load, some m)) (hm : m < vs.length) (hst : st.length < pl) (hpl : pl ≤ 10000)
    (q : Q (SS.mk (a + 1) (st ++ [gn vs m]) vs cs ls).d h) : wC P L "step_of_stack" [tD wide lights pl many cells rows, (SS.mk a st vs cs ls).d, .int heard] h Q X := by
  obtain ⟨n, rfl⟩ : ∃ n, L = n + 1 := ⟨L - 1, by omega⟩
  obtain ⟨n2, rfl⟩ : ∃ n2, n = n2 + 1 := ⟨n - 1, by omega⟩
  have ra := row_at hr
  have hlt := (List.getElem?_eq_some_iff.mp hr).1
  have nlt : ¬ rows.length ≤ a := by omega
  refine wC_i S.ss rfl ?_
  simp [-v_rB, c_step_of_stack, List.replicate]
  rw [v_rB]
  simp [-v_rB, tD, nlt]
  rw [v_rB]
  simp [-v_rB, ra, rw1]
  rw [v_rB]
  have i2 : ∀ h, cmpD .inn (.v (.str (nm .load))) (.v twoN) h = some false := fun h => by
    unfold twoN
    rw [in_nm (by simp)]
    simp
  simp [-v_rB, S.g2, i2]
  rw [v_rB]
  have i1 : ∀ h, cmpD .inn (.v (.str (nm .load))) (.v oneN) h = some false := fun h => by
    unfold oneN
    rw [in_nm (by simp)]
    simp
  simp [-v_rB, S.g1, i1]
  rw [v_rB]
  have ip : ∀ h, cmpD .inn (.v (.str (nm .load))) (.v putN) h = some true := fun h => by
    unfold putN
    rw [in_nm (by simp)]
    simp
  simp [-v_rB, S.gp, ip]
  refine wC_i S.vp rfl ?_
  simp [-v_rB, c_value_put, List.replicate, n17]
  rw [v_rB]
  simp [-v_rB, n18, nL_at hm]
  refine someQ_i ?_
  try simp [-v_rB]
  refine wC_i S.pos rfl ?_
  simp [-v_rB, c_put_on_stack, List.replicate]
  rw [v_rB]
  have z1 : ¬ (st.length : Int) = (pl : Int) := by omega
  simp [-v_rB, z1]
  have l0 : st.length + 1 ≤ 16777216 := by omega
  have ec : cut [D.int (a : Int), .tup (nL st), .tup (nL vs), .tup (csD cs), .tup (nL ls)] (some 2) none = [.tup (nL vs), .tup (csD cs), .tup (nL ls)] := cut_drop (xs := [D.int (a : Int), .tup (nL st), .tup (nL vs), .tup (csD cs), .tup (nL ls)]) (k := 2) (by simp)
  simp [l0, SS.d, ec]
  refine someQ_i (someQ_i ?_)
  simpa [SS.d, nL] using q
theorem stk_hear (hL : 7 ≤ L) (S : SK P) (hw : 2 ≤ wide) (hw2 : wide ≤ 100) {a heard : Nat} {st vs : List Nat} {cs : Cs} {ls : List Nat} (hr : rows[a]? = some (.hear, none)) (hst : st.length < pl) (hpl : pl ≤ 10000)
    (q : Q (SS.mk (a + 1) (st ++ [heard % hf2 wide]) vs cs ls).d h) : wC P L "step_of_stack" [tD wide lights pl many cells rows, (SS.mk a st vs cs ls).d, .int heard] h Q X := by
  obtain ⟨n, rfl⟩ : ∃ n, L = n + 1 := ⟨L - 1, by omega⟩
  obtain ⟨n2, rfl⟩ : ∃ n2, n = n2 + 1 := ⟨n - 1, by omega⟩
  have ra := row_at hr
  have hlt := (List.getElem?_eq_some_iff.mp hr).1
  have nlt : ¬ rows.length ≤ a := by omega
  refine wC_i S.ss rfl ?_
  simp [-v_rB, c_step_of_stack, List.replicate]
  rw [v_rB]
  simp [-v_rB, tD, nlt]
  rw [v_rB]
  simp [-v_rB, ra, rw1]
  rw [v_rB]
  have i2 : ∀ h, cmpD .inn (.v (.str (nm .hear))) (.v twoN) h = some false := fun h => by
    unfold twoN
    rw [in_nm (by simp)]
    simp
  simp [-v_rB, S.g2, i2]
  rw [v_rB]
  have i1 : ∀ h, cmpD .inn (.v (.str (nm .hear))) (.v oneN) h = some false := fun h => by
    unfold oneN
    rw [in_nm (by simp)]
    simp
  simp [-v_rB, S.g1, i1]
  rw [v_rB]
  have ip : ∀ h, cmpD .inn (.v (.str (nm .hear))) (.v putN) h = some true := fun h => by
    unfold putN
    rw [in_nm (by simp)]
    simp
  simp [-v_rB, S.gp, ip]
  refine wC_i S.vp rfl ?_
  simp [-v_rB, c_value_put, List.replicate, n17]
  rw [v_rB]
  simp [-v_rB, n18]
  refine heard_L (by omega) S (by omega) hw2 ?_
  try simp [-v_rB]
  refine someQ_i ?_
  try simp [-v_rB]
  refine wC_i S.pos rfl ?_
  simp [-v_rB, c_put_on_stack, List.replicate]
  rw [v_rB]
  have z1 : ¬ (st.length : Int) = (pl : Int) := by omega
  simp [-v_rB, z1]
  have l0 : st.length + 1 ≤ 16777216 := by omega
  have ec : cut [D.int (a : Int), .tup (nL st), .tup (nL vs), .tup (csD cs), .tup (nL ls)] (some 2) none = [.tup (nL vs), .tup (csD cs), .tup (nL ls)] := cut_drop (xs := [D.int (a : Int), .tup (nL st), .tup (nL vs), .tup (csD cs), .tup (nL ls)]) (k := 2) (by simp)
  simp [l0, SS.d, ec]
  refine someQ_i (someQ_i ?_)
  simpa [SS.d, nL] using q
theorem stk_keep (hL : 7 ≤ L) (S : SK P) (hw : 2 ≤ wide) (hw2 : wide ≤ 100) {a heard : Nat} {s2 s0 vs : List Nat} {cs : Cs} {ls : List Nat} {x v : Nat} (hr : rows[a]? = some (.keep, some v)) (e0 : s2 = s0 ++ [x]) (hv : v < vs.length) (hl : vs.length ≤ 10000)
    (q : Q (SS.mk (a + 1) s0 (vs.set v x) cs ls).d h) : wC P L "step_of_stack" [tD wide lights pl many cells rows, (SS.mk a s2 vs cs ls).d, .int heard] h Q X := by
  obtain ⟨n, rfl⟩ : ∃ n, L = n + 1 := ⟨L - 1, by omega⟩
  obtain ⟨n2, rfl⟩ : ∃ n2, n = n2 + 1 := ⟨n - 1, by omega⟩
  have ra := row_at hr
  have hlt := (List.getElem?_eq_some_iff.mp hr).1
  have nlt : ¬ rows.length ≤ a := by omega
  refine wC_i S.ss rfl ?_
  simp [-v_rB, c_step_of_stack, List.replicate]
  rw [v_rB]
  simp [-v_rB, tD, nlt]
  rw [v_rB]
  simp [-v_rB, ra, rw1]
  rw [v_rB]
  have i2 : ∀ h, cmpD .inn (.v (.str (nm .keep))) (.v twoN) h = some false := fun h => by
    unfold twoN
    rw [in_nm (by simp)]
    simp
  simp [-v_rB, S.g2, i2]
  rw [v_rB]
  have i1 : ∀ h, cmpD .inn (.v (.str (nm .keep))) (.v oneN) h = some false := fun h => by
    unfold oneN
    rw [in_nm (by simp)]
    simp
  simp [-v_rB, S.g1, i1]
  rw [v_rB]
  have ip : ∀ h, cmpD .inn (.v (.str (nm .keep))) (.v putN) h = some false := fun h => by
    unfold putN
    rw [in_nm (by simp)]
    simp
  simp [-v_rB, S.gp, ip]
  rw [v_rB]
  simp [-v_rB, n12]
  rw [v_rB]
  simp [-v_rB, n11, n19, n21, n23]
  refine wC_i S.st rfl ?_
  simp [-v_rB, c_step_of_taking, List.replicate]
  rw [v_rB]
  simp [-v_rB]
  refine taken_L (by omega) S e0 ?_
  simp [-v_rB]
  rw [v_rB]
  have l1 := cut_len (nL vs) none (some (v : Int))
  have l2 := cut_len (nL vs) (some ((v : Int) + 1)) none
  rw [nL_len] at l1 l2
  have l3 : (cut (nL vs) none (some (v : Int))).length + 1 ≤ 16777216 := by omega
  have l4 : (cut (nL vs) none (some (v : Int))).length + ((cut (nL vs) (some ((v : Int) + 1)) none).length + 1) ≤ 16777216 := by omega
  have l5 : (cut (nL vs) none (some (v : Int))).length + 1 + (cut (nL vs) (some ((v : Int) + 1)) none).length ≤ 16777216 := by omega
  simp [n19, l3, l4, l5]
  rw [put_e (by rw [nL_len]; exact hv), nL_set]
  refine someQ_i (someQ_i ?_)
  simpa [SS.d, nL] using q
theorem stk_show (hL : 7 ≤ L) (S : SK P) (hw : 2 ≤ wide) (hw2 : wide ≤ 100) {a heard : Nat} {s2 s0 vs : List Nat} {cs : Cs} {ls : List Nat} {x : Nat} (hr : rows[a]? = some (.show, none)) (e0 : s2 = s0 ++ [x]) (hl : lights ≤ 10000)
    (q : Q (SS.mk (a + 1) s0 vs cs (lbits (hf2 wide) lights x)).d h) : wC P L "step_of_stack" [tD wide lights pl many cells rows, (SS.mk a s2 vs cs ls).d, .int heard] h Q X := by
  obtain ⟨n, rfl⟩ : ∃ n, L = n + 1 := ⟨L - 1, by omega⟩
  obtain ⟨n2, rfl⟩ : ∃ n2, n = n2 + 1 := ⟨n - 1, by omega⟩
  have ra := row_at hr
  have hlt := (List.getElem?_eq_some_iff.mp hr).1
  have nlt : ¬ rows.length ≤ a := by omega
  refine wC_i S.ss rfl ?_
  simp [-v_rB, c_step_of_stack, List.replicate]
  rw [v_rB]
  simp [-v_rB, tD, nlt]
  rw [v_rB]
  simp [-v_rB, ra, rw1]
  rw [v_rB]
  have i2 : ∀ h, cmpD .inn (.v (.str (nm .show))) (.v twoN) h = some false := fun h => by
    unfold twoN
    rw [in_nm (by simp)]
    simp
  simp [-v_rB, S.g2, i2]
  rw [v_rB]
  have i1 : ∀ h, cmpD .inn (.v (.str (nm .show))) (.v oneN) h = some false := fun h => by
    unfold oneN
    rw [in_nm (by simp)]
    simp
  simp [-v_rB, S.g1, i1]
  rw [v_rB]
  have ip : ∀ h, cmpD .inn (.v (.str (nm .show))) (.v putN) h = some false := fun h => by
    unfold putN
    rw [in_nm (by simp)]
    simp
  simp [-v_rB, S.gp, ip]
  rw [v_rB]
  simp [-v_rB, n12]
  rw [v_rB]
  simp [-v_rB, n11, n19, n21, n23]
  refine wC_i S.st rfl ?_
  simp [-v_rB, c_step_of_taking, List.replicate]
  rw [v_rB]
  simp [-v_rB]
  refine taken_L (by omega) S e0 ?_
  simp [-v_rB]
  rw [v_rB]
  simp [-v_rB, n19]
  rw [v_rB]
  simp [-v_rB, n11]
  refine num_L (by omega) S (by omega) hw2 ?_
  try simp [-v_rB]
  refine shown_L (by omega) S hl ?_
  try simp [-v_rB]
  refine someQ_i (someQ_i ?_)
  simpa [SS.d, nL, lbits] using q
theorem stk_unless (hL : 7 ≤ L) (S : SK P) (hw : 2 ≤ wide) (hw2 : wide ≤ 100) {a heard : Nat} {s2 s0 vs : List Nat} {cs : Cs} {ls : List Nat} {x t : Nat} (hr : rows[a]? = some (.unless, some t)) (e0 : s2 = s0 ++ [x])
    (q : Q (SS.mk (if x = 0 then t else a + 1) s0 vs cs ls).d h) : wC P L "step_of_stack" [tD wide lights pl many cells rows, (SS.mk a s2 vs cs ls).d, .int heard] h Q X := by
  obtain ⟨n, rfl⟩ : ∃ n, L = n + 1 := ⟨L - 1, by omega⟩
  obtain ⟨n2, rfl⟩ : ∃ n2, n = n2 + 1 := ⟨n - 1, by omega⟩
  have ra := row_at hr
  have hlt := (List.getElem?_eq_some_iff.mp hr).1
  have nlt : ¬ rows.length ≤ a := by omega
  refine wC_i S.ss rfl ?_
  simp [-v_rB, c_step_of_stack, List.replicate]
  rw [v_rB]
  simp [-v_rB, tD, nlt]
  rw [v_rB]
  simp [-v_rB, ra, rw1]
  rw [v_rB]
  have i2 : ∀ h, cmpD .inn (.v (.str (nm .unless))) (.v twoN) h = some false := fun h => by
    unfold twoN
    rw [in_nm (by simp)]
    simp
  simp [-v_rB, S.g2, i2]
  rw [v_rB]
  have i1 : ∀ h, cmpD .inn (.v (.str (nm .unless))) (.v oneN) h = some false := fun h => by
    unfold oneN
    rw [in_nm (by simp)]
    simp
  simp [-v_rB, S.g1, i1]
  rw [v_rB]
  have ip : ∀ h, cmpD .inn (.v (.str (nm .unless))) (.v putN) h = some false := fun h => by
    unfold putN
    rw [in_nm (by simp)]
    simp
  simp [-v_rB, S.gp, ip]
  rw [v_rB]
  simp [-v_rB, n12]
  rw [v_rB]
  simp [-v_rB, n11, n19, n21, n23]
  refine wC_i S.st rfl ?_
  simp [-v_rB, c_step_of_taking, List.replicate]
  rw [v_rB]
  simp [-v_rB]
  refine taken_L (by omega) S e0 ?_
  simp [-v_rB]
  rw [v_rB]
  simp [-v_rB, n19]
  rw [v_rB]
  simp [-v_rB, n11]
  rw [v_rB]
  by_cases z : x = 0
  · subst z
    simp [n21] at q ⊢
    refine someQ_i (someQ_i ?_)
    simpa [SS.d, nL] using q
  · simp [n21, z] at q ⊢
    refine someQ_i (someQ_i ?_)
    simpa [SS.d, nL] using q
theorem stk_jump (hL : 7 ≤ L) (S : SK P) (hw : 2 ≤ wide) (hw2 : wide ≤ 100) {a heard : Nat} {st vs : List Nat} {cs : Cs} {ls : List Nat} {t : Nat} (hr : rows[a]? = some (.jump, some t))
    (q : Q (SS.mk t st vs cs ls).d h) : wC P L "step_of_stack" [tD wide lights pl many cells rows, (SS.mk a st vs cs ls).d, .int heard] h Q X := by
  obtain ⟨n, rfl⟩ : ∃ n, L = n + 1 := ⟨L - 1, by omega⟩
  obtain ⟨n2, rfl⟩ : ∃ n2, n = n2 + 1 := ⟨n - 1, by omega⟩
  have ra := row_at hr
  have hlt := (List.getElem?_eq_some_iff.mp hr).1
  have nlt : ¬ rows.length ≤ a := by omega
  refine wC_i S.ss rfl ?_
  simp [-v_rB, c_step_of_stack, List.replicate]
  rw [v_rB]
  simp [-v_rB, tD, nlt]
  rw [v_rB]
  simp [-v_rB, ra, rw1]
  rw [v_rB]
  have i2 : ∀ h, cmpD .inn (.v (.str (nm .jump))) (.v twoN) h = some false := fun h => by
    unfold twoN
    rw [in_nm (by simp)]
    simp
  simp [-v_rB, S.g2, i2]
  rw [v_rB]
  have i1 : ∀ h, cmpD .inn (.v (.str (nm .jump))) (.v oneN) h = some false := fun h => by
    unfold oneN
    rw [in_nm (by simp)]
    simp
  simp [-v_rB, S.g1, i1]
  rw [v_rB]
  have ip : ∀ h, cmpD .inn (.v (.str (nm .jump))) (.v putN) h = some false := fun h => by
    unfold putN
    rw [in_nm (by simp)]
    simp
  simp [-v_rB, S.gp, ip]
  rw [v_rB]
  simp [-v_rB, n12]
  rw [v_rB]
  simp [-v_rB, n11, n19, n21, n23]
  rw [v_rB]
  simp [-v_rB]
  refine wC_i S.sg rfl ?_
  have ec : cut [D.int (a : Int), .tup (nL st), .tup (nL vs), .tup (csD cs), .tup (nL ls)] (some 1) none = [.tup (nL st), .tup (nL vs), .tup (csD cs), .tup (nL ls)] := cut_drop (xs := [D.int (a : Int), .tup (nL st), .tup (nL vs), .tup (csD cs), .tup (nL ls)]) (k := 1) (by simp)
  simp [c_step_of_going, List.replicate, n20, SS.d, ec]
  refine someQ_i (someQ_i ?_)
  simpa [SS.d, nL] using q
theorem stk_halt (hL : 7 ≤ L) (S : SK P) (hw : 2 ≤ wide) (hw2 : wide ≤ 100) {a heard : Nat} {st vs : List Nat} {cs : Cs} {ls : List Nat} (hr : rows[a]? = some (.halt, none))
    (q : Q (SS.mk a st vs cs ls).d h) : wC P L "step_of_stack" [tD wide lights pl many cells rows, (SS.mk a st vs cs ls).d, .int heard] h Q X := by
  obtain ⟨n, rfl⟩ : ∃ n, L = n + 1 := ⟨L - 1, by omega⟩
  obtain ⟨n2, rfl⟩ : ∃ n2, n = n2 + 1 := ⟨n - 1, by omega⟩
  have ra := row_at hr
  have hlt := (List.getElem?_eq_some_iff.mp hr).1
  have nlt : ¬ rows.length ≤ a := by omega
  refine wC_i S.ss rfl ?_
  simp [-v_rB, c_step_of_stack, List.replicate]
  rw [v_rB]
  simp [-v_rB, tD, nlt]
  rw [v_rB]
  simp [-v_rB, ra, rw1]
  rw [v_rB]
  have i2 : ∀ h, cmpD .inn (.v (.str (nm .halt))) (.v twoN) h = some false := fun h => by
    unfold twoN
    rw [in_nm (by simp)]
    simp
  simp [-v_rB, S.g2, i2]
  rw [v_rB]
  have i1 : ∀ h, cmpD .inn (.v (.str (nm .halt))) (.v oneN) h = some false := fun h => by
    unfold oneN
    rw [in_nm (by simp)]
    simp
  simp [-v_rB, S.g1, i1]
  rw [v_rB]
  have ip : ∀ h, cmpD .inn (.v (.str (nm .halt))) (.v putN) h = some false := fun h => by
    unfold putN
    rw [in_nm (by simp)]
    simp
  simp [-v_rB, S.gp, ip]
  rw [v_rB]
  simp [-v_rB, n12]
  rw [v_rB]
  simp [-v_rB, n11, n19, n21, n23]
  rw [v_rB]
  simp [-v_rB]
  refine wC_i S.sg rfl ?_
  simp [c_step_of_going, List.replicate, n20, n22, n24]
  exact someQ_i (someQ_i q)
theorem stk_end (hL : 1 ≤ L) (S : SK P) {a heard : Nat} {st vs : List Nat} {cs : Cs} {ls : List Nat} (hr : rows.length ≤ a)
    (q : Q (SS.mk a st vs cs ls).d h) : wC P L "step_of_stack" [tD wide lights pl many cells rows, (SS.mk a st vs cs ls).d, .int heard] h Q X := by
  obtain ⟨n, rfl⟩ : ∃ n, L = n + 1 := ⟨L - 1, by omega⟩
  refine wC_i S.ss rfl ?_
  simp [-v_rB, c_step_of_stack, List.replicate]
  rw [v_rB]
  simp [-v_rB, tD, hr]
  exact someQ_i q
end
end Cor
end Py
namespace Py
open PySem (Str)
namespace Cor
theorem fcv_some {cs : Cs} {j : Nat} (e : fidx cs = some j) : fcv cs = .int j := by
  unfold fcv
  rw [idx_fidx, e]
theorem fcv_none {cs : Cs} (e : fidx cs = none) : fcv cs = .non := by
  unfold fcv
  rw [idx_fidx, e]
section
variable {P : Prog} {L : Nat} {h : AH} {Q : D → AH → Prop} {X : Xc} {half wide many k lights pl cells : Nat} {rows : List Row}
theorem fc_L (hL : 1 ≤ L) (S : SK P) {cs : Cs} (q : Q (fcv cs) h) : wC P L "free_cell" [.tup (csD cs)] h Q X := by
  obtain ⟨n, rfl⟩ : ∃ n, L = n + 1 := ⟨L - 1, by omega⟩
  exact free_g S.fc q
theorem roots_L (hL : 1 ≤ L) (S : SK P) {s : SS} (h1 : s.st.length ≤ 500) (h2 : s.vs.length ≤ 500) (q : Q (.tup (nL (s.st ++ s.vs))) h) : wC P L "roots_of_stack" [s.d] h Q X := by
  obtain ⟨n, rfl⟩ : ∃ n, L = n + 1 := ⟨L - 1, by omega⟩
  have l : s.st.length + s.vs.length ≤ 16777216 := by omega
  refine wC_i S.rs rfl ?_
  simp [c_roots_of_stack, List.replicate, l]
  exact someQ_i (by simpa [nL] using q)
theorem all_L (hL : 7 ≤ L) (S : SK P) (hw : 2 ≤ wide) (hw2 : wide ≤ 100) {s : SS} (h1 : s.st.length ≤ 500) (h2 : s.vs.length ≤ 500) (W : Wc (hf2 wide) s.cs (s.st ++ s.vs)) (q : Q (.bl (decide ((fin (hf2 wide) s.cs (s.st ++ s.vs)).length = s.cs.length))) h) : wC P L "are_all_come_to" [tD wide lights pl many cells rows, s.d] h Q X := by
  obtain ⟨n, rfl⟩ : ∃ n, L = n + 7 := ⟨L - 7, by omega⟩
  refine wC_i S.ac rfl ?_
  simp [c_are_all_come_to, List.replicate, tD]
  refine roots_L (by omega) S h1 h2 ?_
  try simp
  refine cells_come_to_i S.ce (by omega) (by omega) W ?_
  have e0 : (iL (sortI ((fin (hf2 wide) s.cs (s.st ++ s.vs)).map fun (x : Nat) => (x : Int)))).length = (fin (hf2 wide) s.cs (s.st ++ s.vs)).length := by rw [iL_len, sortI_len, List.length_map]
  have e : (((fin (hf2 wide) s.cs (s.st ++ s.vs)).length : Int) = (s.cs.length : Int)) ↔ (fin (hf2 wide) s.cs (s.st ++ s.vs)).length = s.cs.length := by omega
  simp [e0, e]
  exact someQ_i q
theorem stk_pair (hL : 11 ≤ L) (S : SK P) (hw : 2 ≤ wide) (hw2 : wide ≤ 100) {a heard : Nat} {s2 s1 s0 vs : List Nat} {cs : Cs} {ls : List Nat} {x y j : Nat} (hr : rows[a]? = some (.pair, none)) (e1 : s2 = s1 ++ [y]) (e0 : s1 = s0 ++ [x]) (hst : s2.length ≤ 500) (hj : fidx cs = some j) (hc : cs.length ≤ 1000)
    (q : Q (SS.mk (a + 1) (s0 ++ [hf2 wide + j]) vs (cs.set j (some (x, y))) ls).d h) : wC P L "step_of_stack" [tD wide lights pl many cells rows, (SS.mk a s2 vs cs ls).d, .int heard] h Q X := by
  obtain ⟨n, rfl⟩ : ∃ n, L = n + 1 := ⟨L - 1, by omega⟩
  obtain ⟨n2, rfl⟩ : ∃ n2, n = n2 + 1 := ⟨n - 1, by omega⟩
  have ra := row_at hr
  have hlt := (List.getElem?_eq_some_iff.mp hr).1
  have nlt : ¬ rows.length ≤ a := by omega
  refine wC_i S.ss rfl ?_
  simp [-v_rB, c_step_of_stack, List.replicate]
  rw [v_rB]
  simp [-v_rB, tD, nlt]
  rw [v_rB]
  simp [-v_rB, ra, rw1]
  rw [v_rB]
  have i2 : ∀ h, cmpD .inn (.v (.str (nm .pair))) (.v twoN) h = some false := fun h => by
    unfold twoN
    rw [in_nm (by simp)]
    simp
  simp [-v_rB, S.g2, i2]
  rw [v_rB]
  have i1 : ∀ h, cmpD .inn (.v (.str (nm .pair))) (.v oneN) h = some false := fun h => by
    unfold oneN
    rw [in_nm (by simp)]
    simp
  simp [-v_rB, S.g1, i1]
  rw [v_rB]
  have ip : ∀ h, cmpD .inn (.v (.str (nm .pair))) (.v putN) h = some false := fun h => by
    unfold putN
    rw [in_nm (by simp)]
    simp
  simp [-v_rB, S.gp, ip]
  rw [v_rB]
  simp [-v_rB, n12]
  have l0 : s0.length + 1 ≤ 16777216 := by rw [e1, e0] at hst; simp at hst; omega
  obtain ⟨j1, j2, j3⟩ := fidx_some hj
  refine wC_i S.sp rfl ?_
  simp [-v_rB, c_step_of_pair, List.replicate]
  rw [v_rB]
  simp [-v_rB]
  refine fc_L (by omega) S ?_
  rw [v_rB]
  simp [-v_rB, fcv_some hj]
  rw [v_rB]
  simp [-v_rB]
  refine taken_L (by omega) S e1 ?_
  simp [-v_rB]
  rw [v_rB]
  simp [-v_rB]
  refine taken_L (by omega) S e0 ?_
  simp [-v_rB]
  rw [v_rB]
  have l1 := cut_len (csD cs) none (some (j : Int))
  have l2 := cut_len (csD cs) (some ((j : Int) + 1)) none
  rw [csD_len] at l1 l2
  have l3 : (cut (csD cs) none (some (j : Int))).length + 1 ≤ 16777216 := by omega
  have l4 : (cut (csD cs) none (some (j : Int))).length + ((cut (csD cs) (some ((j : Int) + 1)) none).length + 1) ≤ 16777216 := by omega
  have l5 : (cut (csD cs) none (some (j : Int))).length + 1 + (cut (csD cs) (some ((j : Int) + 1)) none).length ≤ 16777216 := by omega
  simp [-v_rB, l3, l4, l5]
  rw [put_e (by rw [csD_len]; exact j1), cs_setD]
  rw [v_rB]
  simp [-v_rB]
  refine ref_L (by omega) S (by omega) hw2 ?_
  simp [l0]
  refine someQ_i (someQ_i ?_)
  simpa [SS.d, nL] using q
theorem stk_full (hL : 11 ≤ L) (S : SK P) (hw : 2 ≤ wide) (hw2 : wide ≤ 100) {a heard : Nat} {s2 s1 s0 vs : List Nat} {cs : Cs} {ls : List Nat} (hr : rows[a]? = some (.pair, none)) (hst : s2.length ≤ 500) (hvs : vs.length ≤ 500) (hj : fidx cs = none) (W : Wc (hf2 wide) cs (s2 ++ vs)) (hf : (fin (hf2 wide) cs (s2 ++ vs)).length = cs.length)
    (q : Q (SS.mk (rows.length + 1) s2 vs cs ls).d h) : wC P L "step_of_stack" [tD wide lights pl many cells rows, (SS.mk a s2 vs cs ls).d, .int heard] h Q X := by
  obtain ⟨n, rfl⟩ : ∃ n, L = n + 1 := ⟨L - 1, by omega⟩
  obtain ⟨n2, rfl⟩ : ∃ n2, n = n2 + 1 := ⟨n - 1, by omega⟩
  have ra := row_at hr
  have hlt := (List.getElem?_eq_some_iff.mp hr).1
  have nlt : ¬ rows.length ≤ a := by omega
  refine wC_i S.ss rfl ?_
  simp [-v_rB, c_step_of_stack, List.replicate]
  rw [v_rB]
  simp [-v_rB, tD, nlt]
  rw [v_rB]
  simp [-v_rB, ra, rw1]
  rw [v_rB]
  have i2 : ∀ h, cmpD .inn (.v (.str (nm .pair))) (.v twoN) h = some false := fun h => by
    unfold twoN
    rw [in_nm (by simp)]
    simp
  simp [-v_rB, S.g2, i2]
  rw [v_rB]
  have i1 : ∀ h, cmpD .inn (.v (.str (nm .pair))) (.v oneN) h = some false := fun h => by
    unfold oneN
    rw [in_nm (by simp)]
    simp
  simp [-v_rB, S.g1, i1]
  rw [v_rB]
  have ip : ∀ h, cmpD .inn (.v (.str (nm .pair))) (.v putN) h = some false := fun h => by
    unfold putN
    rw [in_nm (by simp)]
    simp
  simp [-v_rB, S.gp, ip]
  rw [v_rB]
  simp [-v_rB, n12]
  refine wC_i S.sp rfl ?_
  simp [-v_rB, c_step_of_pair, List.replicate]
  rw [v_rB]
  simp [-v_rB]
  refine fc_L (by omega) S ?_
  rw [v_rB]
  simp [-v_rB, fcv_none hj]
  refine all_L (s := SS.mk a s2 vs cs ls) (lights := lights) (pl := pl) (many := many) (cells := cells) (rows := rows) (by omega) S hw hw2 hst hvs W ?_
  simp [-v_rB, hf]
  obtain ⟨n3, rfl⟩ : ∃ n3, n2 = n3 + 1 := ⟨n2 - 1, by omega⟩
  refine wC_i S.fs rfl ?_
  have ec : cut [D.int (a : Int), .tup (nL s2), .tup (nL vs), .tup (csD cs), .tup (nL ls)] (some 1) none = [.tup (nL s2), .tup (nL vs), .tup (csD cs), .tup (nL ls)] := cut_drop (xs := [D.int (a : Int), .tup (nL s2), .tup (nL vs), .tup (csD cs), .tup (nL ls)]) (k := 1) (by simp)
  simp [c_full_state, List.replicate, SS.d, ec]
  refine someQ_i (someQ_i (someQ_i ?_))
  simpa [SS.d, nL] using q
theorem stk_coll (hL : 11 ≤ L) (S : SK P) (hw : 2 ≤ wide) (hw2 : wide ≤ 100) {a heard : Nat} {s2 s1 s0 vs : List Nat} {cs : Cs} {ls : List Nat} (hr : rows[a]? = some (.pair, none)) (hst : s2.length ≤ 500) (hvs : vs.length ≤ 500) (hj : fidx cs = none) (W : Wc (hf2 wide) cs (s2 ++ vs)) (hf : ¬ (fin (hf2 wide) cs (s2 ++ vs)).length = cs.length)
    (q : Q (SS.mk a s2 vs (left (hf2 wide) cs (s2 ++ vs)) ls).d h) : wC P L "step_of_stack" [tD wide lights pl many cells rows, (SS.mk a s2 vs cs ls).d, .int heard] h Q X := by
  obtain ⟨n, rfl⟩ : ∃ n, L = n + 1 := ⟨L - 1, by omega⟩
  obtain ⟨n2, rfl⟩ : ∃ n2, n = n2 + 1 := ⟨n - 1, by omega⟩
  have ra := row_at hr
  have hlt := (List.getElem?_eq_some_iff.mp hr).1
  have nlt : ¬ rows.length ≤ a := by omega
  refine wC_i S.ss rfl ?_
  simp [-v_rB, c_step_of_stack, List.replicate]
  rw [v_rB]
  simp [-v_rB, tD, nlt]
  rw [v_rB]
  simp [-v_rB, ra, rw1]
  rw [v_rB]
  have i2 : ∀ h, cmpD .inn (.v (.str (nm .pair))) (.v twoN) h = some false := fun h => by
    unfold twoN
    rw [in_nm (by simp)]
    simp
  simp [-v_rB, S.g2, i2]
  rw [v_rB]
  have i1 : ∀ h, cmpD .inn (.v (.str (nm .pair))) (.v oneN) h = some false := fun h => by
    unfold oneN
    rw [in_nm (by simp)]
    simp
  simp [-v_rB, S.g1, i1]
  rw [v_rB]
  have ip : ∀ h, cmpD .inn (.v (.str (nm .pair))) (.v putN) h = some false := fun h => by
    unfold putN
    rw [in_nm (by simp)]
    simp
  simp [-v_rB, S.gp, ip]
  rw [v_rB]
  simp [-v_rB, n12]
  refine wC_i S.sp rfl ?_
  simp [-v_rB, c_step_of_pair, List.replicate]
  rw [v_rB]
  simp [-v_rB]
  refine fc_L (by omega) S ?_
  rw [v_rB]
  simp [-v_rB, fcv_none hj]
  refine all_L (s := SS.mk a s2 vs cs ls) (lights := lights) (pl := pl) (many := many) (cells := cells) (rows := rows) (by omega) S hw hw2 hst hvs W ?_
  simp [-v_rB, hf]
  rw [v_rB]
  simp [-v_rB]
  refine roots_L (s := SS.mk a s2 vs cs ls) (by omega) S hst hvs ?_
  obtain ⟨n3, rfl⟩ : ∃ n3, n2 = n3 + 7 := ⟨n2 - 7, by omega⟩
  try simp [-v_rB]
  refine collected_g S.ce S.cc (by omega) (by omega) W ?_
  try simp
  refine someQ_i (someQ_i ?_)
  simpa [SS.d, nL] using q
end
end Cor
end Py
namespace Py
open PySem (Str)
namespace Cor
/-! ### where a row stands -/
theorem flat_at {α β : Type} (f : α → List β) : ∀ {xs : List α} {i w : Nat} {x : α} {y : β}, xs[i]? = some x → (f x)[w]? = some y → (xs.flatMap f)[((xs.take i).map fun a => (f a).length).sum + w]? = some y
  | [], i, w, x, y, h1, h2 => by simp at h1
  | a :: r, 0, w, x, y, h1, h2 => by
    have hw := (List.getElem?_eq_some_iff.mp h2).1
    simp at h1
    subst h1
    simp
    rw [List.getElem?_append_left hw]
    exact h2
  | a :: r, i + 1, w, x, y, h1, h2 => by
    have ih := flat_at f (xs := r) (i := i) h1 h2
    simp only [List.take_succ_cons, List.map_cons, List.sum_cons, List.flatMap_cons]
    rw [Nat.add_assoc, List.getElem?_append_right (by omega)]
    rw [Nat.add_sub_cancel_left]
    exact ih
theorem block_at {bs : List Blk} {ad : Nat → Nat} {b w : Nat} {blk : Blk} {r : Row} (h1 : bs[b]? = some blk) (h2 : (bRows ad blk)[w]? = some r) : (pRows bs ad)[addr bs b + w]? = some r := by
  have := flat_at (bRows ad) h1 h2
  have e : (bs.take b).map (fun a => (bRows ad a).length) = (bs.take b).map bLen := List.map_congr_left fun a _ => brows_len
  rw [e] at this
  exact this
theorem lens_take {blk : Blk} {i : Nat} (h : i ≤ blk.1.length) : (lens blk).take i = (blk.1.take i).map fun c => c.rows.length := by
  unfold lens
  rw [List.take_append_of_le_length (by simpa using h), List.map_take]
theorem cmd_at {bs : List Blk} {ad : Nat → Nat} {b i w : Nat} {blk : Blk} {c : Cmd} {r : Row} (h1 : bs[b]? = some blk) (h2 : blk.1[i]? = some c) (h3 : c.rows[w]? = some r) : (pRows bs ad)[addr bs b + ((lens blk).take i).sum + w]? = some r := by
  have hi := (List.getElem?_eq_some_iff.mp h2).1
  rw [Nat.add_assoc]
  refine block_at h1 ?_
  have := flat_at Cmd.rows h2 h3
  rw [lens_take (by omega)]
  unfold bRows
  rw [List.getElem?_append_left (List.getElem?_eq_some_iff.mp this).1]
  exact this
theorem jmp_at {bs : List Blk} {ad : Nat → Nat} {b w : Nat} {blk : Blk} {r : Row} (h1 : bs[b]? = some blk) (h3 : (blk.2.rows ad)[w]? = some r) : (pRows bs ad)[addr bs b + ((lens blk).take blk.1.length).sum + w]? = some r := by
  rw [Nat.add_assoc]
  refine block_at h1 ?_
  rw [lens_take (Nat.le_refl _), List.take_length]
  unfold bRows
  have e : (blk.1.map fun c => c.rows.length).sum = (blk.1.flatMap Cmd.rows).length := by simp [List.length_flatMap]
  rw [e, List.getElem?_append_right (by omega), Nat.add_sub_cancel_left]
  exact h3
/-! ### rows of expressions on a stack -/
def ex (half : Nat) (vs : List Nat) (cs : Cs) (st : List Nat) (r : Row) : List Nat := match r.2 with
  | some n => if r.1 = .push then st ++ [n] else st ++ [gn vs n]
  | none => if r.1 = .paired ∨ r.1 = .first ∨ r.1 = .second then st.dropLast ++ [uval half cs r.1 (st.getLast?.getD 0)] else st.dropLast.dropLast ++ [bval half r.1 (st.dropLast.getLast?.getD 0) (st.getLast?.getD 0)]
inductive Good (half pl : Nat) (vs : List Nat) (cs : Cs) : List Nat → Row → List Nat → Prop
  | push (st : List Nat) (n : Nat) : st.length < pl → Good half pl vs cs st (.push, some n) (st ++ [n])
  | load (st : List Nat) (v : Nat) : v < vs.length → st.length < pl → Good half pl vs cs st (.load, some v) (st ++ [gn vs v])
  | un (st : List Nat) (s : Nm) (x : Nat) : Un s → Gv half cs x → st.length + 1 ≤ pl → Good half pl vs cs (st ++ [x]) (s, none) (st ++ [uval half cs s x])
  | bi (st : List Nat) (s : Nm) (x y : Nat) : Bn s → st.length + 2 ≤ pl → Good half pl vs cs (st ++ [x] ++ [y]) (s, none) (st ++ [bval half s x y])
section
variable {half many pl : Nat} {vs : List Nat} {cs : Cs}
theorem ex_un {s : Nm} (hs : Un s) {st : List Nat} {x : Nat} : ex half vs cs (st ++ [x]) (s, none) = st ++ [uval half cs s x] := by
  unfold ex
  simp [hs.h]
theorem ex_bi {s : Nm} (hs : Bn s) {st : List Nat} {x y : Nat} : ex half vs cs (st ++ [x] ++ [y]) (s, none) = st ++ [bval half s x y] := by
  have e3 : ¬ (s = .paired ∨ s = .first ∨ s = .second) := by rcases hs.h with rfl | rfl | rfl | rfl <;> decide
  unfold ex
  simp only [e3, if_false, List.dropLast_concat, List.getLast?_concat, Option.getD_some]
theorem fold_val : ∀ (e : CE) (b : List Nat), e.Ok half many → e.rows.foldl (ex half vs cs) b = b ++ [val half vs cs e]
  | .num n, b, ok => by simp [CE.rows, ex, val]
  | .of v, b, ok => by simp [CE.rows, ex, val]
  | .un s a, b, ok => by
    rw [CE.rows, List.foldl_append, fold_val a b ok.2, List.foldl_cons, List.foldl_nil, ex_un ok.1]
    rfl
  | .bi s a c, b, ok => by
    rw [CE.rows, List.foldl_append, List.foldl_append, fold_val a b ok.2.1, fold_val c _ ok.2.2, List.foldl_cons, List.foldl_nil, ex_bi ok.1]
    rfl
theorem good_app {R T : List Row} {b : List Nat} {w : Nat} {r : Row} (h1 : ∀ w r, R[w]? = some r → Good half pl vs cs ((R.take w).foldl (ex half vs cs) b) r (((R.take (w + 1)).foldl (ex half vs cs) b)))
    (h2 : ∀ w r, T[w]? = some r → Good half pl vs cs ((T.take w).foldl (ex half vs cs) (R.foldl (ex half vs cs) b)) r (((T.take (w + 1)).foldl (ex half vs cs) (R.foldl (ex half vs cs) b)))) (hr : (R ++ T)[w]? = some r) : Good half pl vs cs (((R ++ T).take w).foldl (ex half vs cs) b) r ((((R ++ T).take (w + 1)).foldl (ex half vs cs) b)) := by
  by_cases z : w < R.length
  · rw [List.getElem?_append_left z] at hr
    rw [List.take_append_of_le_length (by omega), List.take_append_of_le_length (by omega)]
    exact h1 w r hr
  · obtain ⟨j, rfl⟩ : ∃ j, w = R.length + j := ⟨w - R.length, by omega⟩
    rw [List.getElem?_append_right (by omega), Nat.add_sub_cancel_left] at hr
    rw [List.take_length_add_append, Nat.add_assoc, List.take_length_add_append, List.foldl_append, List.foldl_append]
    exact h2 j r hr
theorem good_one {b b' : List Nat} {x : Row} (h : Good half pl vs cs b x (ex half vs cs b x)) : ∀ w r, [x][w]? = some r → Good half pl vs cs (([x].take w).foldl (ex half vs cs) b) r ((([x].take (w + 1)).foldl (ex half vs cs) b)) := by
  intro w r hr
  cases w with
  | zero => simp at hr; subst hr; exact h
  | succ w => simp at hr
theorem good_at (h2 : 2 ≤ half) (g : Gs half vs cs) (hv : many = vs.length) : ∀ (e : CE) (b : List Nat), e.Ok half many → b.length + e.pl ≤ pl → ∀ (w : Nat) (r : Row), e.rows[w]? = some r →
    Good half pl vs cs ((e.rows.take w).foldl (ex half vs cs) b) r ((e.rows.take (w + 1)).foldl (ex half vs cs) b)
  | .num n, b, ok, hb, w, r, hr => good_one (b' := b) (.push b n (by simp only [CE.pl] at hb; omega)) w r hr
  | .of v, b, ok, hb, w, r, hr => good_one (b' := b) (.load b v (by simp only [CE.Ok] at ok; omega) (by simp only [CE.pl] at hb; omega)) w r hr
  | .un s a, b, ok, hb, w, r, hr => by
    refine good_app (fun w r => good_at h2 g hv a b ok.2 hb w r) ?_ hr
    rw [fold_val a b ok.2]
    refine good_one (b' := b) ?_
    rw [ex_un ok.1]
    have := pl_pos a
    exact .un b s _ ok.1 (val_g h2 g hv a ok.2) (by simp only [CE.pl] at hb; omega)
  | .bi s a c, b, ok, hb, w, r, hr => by
    simp only [CE.pl] at hb
    have p1 := pl_pos c
    have h1 : b.length + a.pl ≤ pl := by omega
    have h3 : b.length + 1 + c.pl ≤ pl := by omega
    refine good_app (fun w r hr => good_app (fun w r => good_at h2 g hv a b ok.2.1 h1 w r) (fun w r => ?_) hr) ?_ hr
    · rw [fold_val a b ok.2.1]
      exact good_at h2 g hv c _ ok.2.2 (by simp; omega) w r
    · rw [List.foldl_append, fold_val a b ok.2.1, fold_val c _ ok.2.2]
      refine good_one (b' := b) ?_
      rw [ex_bi ok.1]
      exact .bi b s _ _ ok.1 (by omega)
/-! ### what is come to -/
theorem val_come (h2 : 2 ≤ half) (W : Wc half cs vs) (g : Gs half vs cs) (hv : many = vs.length) : ∀ e : CE, e.Ok half many → half ≤ val half vs cs e → val half vs cs e - half ∈ fin half cs vs
  | .num n, ok, h => by simp only [CE.Ok] at ok; simp only [val] at h; omega
  | .of v, ok, h => by
    simp only [CE.Ok] at ok
    refine fin_refs W _ ?_
    unfold refs
    rw [List.mem_filterMap]
    exact ⟨gn vs v, by rw [gn_get (by omega)]; exact List.getElem_mem _, by simp [val] at h ⊢; exact h⟩
  | .un s a, ok, h => by
    have ih := val_come h2 W g hv a ok.2
    have gx := val_g h2 g hv a ok.2
    simp only [val] at h ⊢
    generalize val half vs cs a = x at *
    unfold uval at h ⊢
    by_cases z : x < half
    · simp only [z, if_true] at h
      split at h
      · omega
      · split at h <;> omega
    · have c1 := ih (by omega)
      obtain ⟨h3, h4⟩ := gx (by omega)
      obtain ⟨u, v, e1, e2⟩ := itms_two h4
      have cl := fin_closed W c1
      rw [e2] at cl
      have key : ∀ y, y ∈ [u, v] → half ≤ y → y - half ∈ fin half cs vs := fun y hy hh => cl _ (by unfold refs; rw [List.mem_filterMap]; exact ⟨y, hy, by simp [hh]⟩)
      simp only [z, if_false, e2] at h ⊢
      rcases ok.1.h with rfl | rfl | rfl
      · simp at h; omega
      · simp at h ⊢
        exact key _ (by simp [gn]) h
      · simp at h ⊢
        exact key _ (by simp [gn]) h
  | .bi s a b, ok, h => by
    have := bval_lt (half := half) (s := s) (x := val half vs cs a) (y := val half vs cs b) h2
    simp only [val] at h
    omega
theorem val_left (h2 : 2 ≤ half) (W : Wc half cs vs) (g : Gs half vs cs) (hv : many = vs.length) : ∀ e : CE, e.Ok half many → val half vs (left half cs vs) e = val half vs cs e
  | .num n, ok => rfl
  | .of v, ok => rfl
  | .un s a, ok => by
    have ih := val_left h2 W g hv a ok.2
    have c1 := val_come h2 W g hv a ok.2
    simp only [val]
    rw [ih]
    generalize val half vs cs a = x at *
    unfold uval
    by_cases z : x < half
    · simp [z]
    · rw [left_itms W (c1 (by omega))]
  | .bi s a b, ok => by
    simp only [val]
    rw [val_left h2 W g hv a ok.2.1, val_left h2 W g hv b ok.2.2]
theorem refs_app {xs ys : List Nat} : refs half (xs ++ ys) = refs half xs ++ refs half ys := by simp [refs]
theorem roots_W (W : Wc half cs vs) {st : List Nat} (hs : ∀ r ∈ refs half st, r ∈ fin half cs vs) (hl : st.length + vs.length ≤ 1000) : Wc half cs (st ++ vs) := by
  refine ⟨fun c hc => ?_, W.c, by simp; omega, W.lc⟩
  rw [refs_app] at hc
  rcases List.mem_append.mp hc
      with hc | hc
  · exact fin_ok W c (hs c hc)
  · exact W.v c hc
theorem roots_fin (W : Wc half cs vs) {st : List Nat} (hs : ∀ r ∈ refs half st, r ∈ fin half cs vs) (hl : st.length + vs.length ≤ 1000) : ∀ c, c ∈ fin half cs (st ++ vs) ↔ c ∈ fin half cs vs := by
  have W2 := roots_W W hs hl
  intro c
  constructor
  · refine fin_least (fun r hr => ?_) (fun c hc => fin_closed W hc) c
    rw [refs_app] at hr
    rcases List.mem_append.mp hr
        with hr | hr
    · exact hs r hr
    · exact fin_refs W r hr
  · exact fin_least (fun r hr => fin_refs W2 r (by rw [refs_app]; exact List.mem_append_right _ hr)) (fun c hc => fin_closed W2 hc) c
theorem roots_len (W : Wc half cs vs) {st : List Nat} (hs : ∀ r ∈ refs half st, r ∈ fin half cs vs) (hl : st.length + vs.length ≤ 1000) : (fin half cs (st ++ vs)).length = (fin half cs vs).length := by
  have e := roots_fin W hs hl
  have W2 := roots_W W hs hl
  have e1 := List.Nodup.length_le_of_subset (fin_nd W2) (fun c hc => (e c).mp hc)
  have e2 := List.Nodup.length_le_of_subset (fin_nd W) (fun c hc => (e c).mpr hc)
  omega
theorem roots_left (W : Wc half cs vs) {st : List Nat} (hs : ∀ r ∈ refs half st, r ∈ fin half cs vs) (hl : st.length + vs.length ≤ 1000) : left half cs (st ++ vs) = left half cs vs := by
  have e := roots_fin W hs hl
  unfold left
  refine List.map_congr_left fun c _ => ?_
  by_cases z : c ∈ fin half cs vs
  · rw [if_pos z, if_pos ((e c).mpr z)]
  · rw [if_neg z, if_neg (fun h => z ((e c).mp h))]
end
end Cor
end Py
namespace Py
open PySem (Str)
namespace Cor
/-! ### the stack machine within a core program -/
def Cmd.ers : Cmd → List Row
  | .hear _ => []
  | .shw e => e.rows
  | .set _ e => e.rows
  | .pair _ e f => e.rows ++ f.rows
def Jmp.ers : Jmp → List Row
  | .test e _ _ => e.rows
  | _ => []
def Cmd.kp : Cmd → Option Nat
  | .hear v => some v
  | .pair v _ _ => some v
  | _ => none
def erow (blk : Blk) (p : Nat) : List Row := match blk.1[p]? with
  | some c => c.ers
  | none => blk.2.ers
structure Ms where
  s : Stt
  w : Nat
  st : List Nat
  k : Option (List Nat)
def doneC (half : Nat) (s s2 : Stt) (st : List Nat) (w heard : Nat) : Cmd → Ms
  | .hear v => ⟨s2, 0, [heard % half], some s.vs⟩
  | .pair v e f => match fidx s.cs with
    | some j => ⟨s2, 0, [half + j], some s.vs⟩
    | none => ⟨s2, w, st, none⟩
  | _ => ⟨s2, 0, [], none⟩
def doneJ (half : Nat) (s s2 : Stt) (m : Ms) : Jmp → Ms
  | .halt => m
  | .goto _ => ⟨s2, 0, [], none⟩
  | .test e b c => if m.w = e.rows.length then (if val half s.vs s.cs e = 0 then ⟨s2, 0, [], none⟩ else ⟨s, m.w + 1, [], none⟩) else ⟨s2, 0, [], none⟩
def nextM (half : Nat) (p : Pgm) (m : Ms) (heard : Nat) : Ms := match p.bs[m.s.b]? with
  | none => m
  | some blk => match m.k with
    | some _ => ⟨m.s, 0, [], none⟩
    | none => match (erow blk m.s.p)[m.w]? with
      | some r => ⟨m.s, m.w + 1, ex half m.s.vs m.s.cs m.st r, none⟩
      | none => match blk.1[m.s.p]? with
        | some c => doneC half m.s (stepS half p m.s heard) m.st m.w heard c
        | none => doneJ half m.s (stepS half p m.s heard) m blk.2
def jleft (half : Nat) (s : Stt) : Jmp → Nat
  | .test e b c => e.rows.length + (if val half s.vs s.cs e = 0 then 0 else 1)
  | _ => 0
def pleft (half : Nat) (s : Stt) (blk : Blk) : Nat := match blk.1[s.p]? with
  | some c => c.ers.length
  | none => jleft half s blk.2
def leftM (half : Nat) (p : Pgm) (m : Ms) : Nat := match p.bs[m.s.b]? with
  | none => 0
  | some blk => (if m.k.isSome then 1 else 0) + (pleft half m.s blk - m.w)
inductive Phase (half : Nat) (p : Pgm) (blk : Blk) (m : Ms) : Prop
  | inn (hk : m.k = none) (hw : m.w ≤ (erow blk m.s.p).length) (hst : m.st = ((erow blk m.s.p).take m.w).foldl (ex half m.s.vs m.s.cs) [])
  | jmp (hk : m.k = none) (e : CE) (b c : Nat) (hp : m.s.p = blk.1.length) (hj : blk.2 = .test e b c) (hw : m.w = e.rows.length + 1) (hst : m.st = []) (hv : val half m.s.vs m.s.cs e ≠ 0)
  | pend (p0 v x : Nat) (c : Cmd) (ov : List Nat) (hk : m.k = some ov) (hw : m.w = 0) (hp : m.s.p = p0 + 1) (hc : blk.1[p0]? = some c) (hkp : c.kp = some v) (hst : m.st = [x]) (hol : ov.length = p.many) (hv : v < p.many) (hvs : m.s.vs = ov.set v x)
structure MOk (half k : Nat) (p : Pgm) (m : Ms) : Prop where
  s : SOk half k p m.s
  ph : ∀ blk, p.bs[m.s.b]? = some blk → m.s.p ≤ blk.1.length ∧ Phase half p blk m
  fu : p.bs[m.s.b]? = none → m.s.b = p.bs.length ∧ m.k = none
section
variable {half k : Nat} {p : Pgm} {m : Ms}
theorem stepS_cmd {s : Stt} {blk : Blk} {heard : Nat} {c : Cmd} (h : p.bs[s.b]? = some blk) (hc : blk.1[s.p]? = some c) : stepS half p s heard = cmdS half p.bs.length s heard c := by
  unfold stepS
  rw [h]
  simp only
  rw [hc]
theorem stepS_jmp {s : Stt} {blk : Blk} {heard : Nat} (h : p.bs[s.b]? = some blk) (hc : blk.1[s.p]? = none) : stepS half p s heard = jmpS half s blk.2 := by
  unfold stepS
  rw [h]
  simp only
  rw [hc]
theorem next_end {heard : Nat} (h : p.bs[m.s.b]? = none) : nextM half p m heard = m := by
  unfold nextM
  rw [h]
theorem next_pend {heard : Nat} {blk : Blk} {ov : List Nat} (h : p.bs[m.s.b]? = some blk) (hk : m.k = some ov) : nextM half p m heard = ⟨m.s, 0, [], none⟩ := by
  unfold nextM
  rw [h, hk]
theorem next_row {heard : Nat} {blk : Blk} {r : Row} (h : p.bs[m.s.b]? = some blk) (hk : m.k = none) (hr : (erow blk m.s.p)[m.w]? = some r) : nextM half p m heard = ⟨m.s, m.w + 1, ex half m.s.vs m.s.cs m.st r, none⟩ := by
  unfold nextM
  rw [h, hk]
  simp only
  rw [hr]
theorem next_cmd {heard : Nat} {blk : Blk} {c : Cmd} (h : p.bs[m.s.b]? = some blk) (hk : m.k = none) (hr : (erow blk m.s.p)[m.w]? = none) (hc : blk.1[m.s.p]? = some c) : nextM half p m heard = doneC half m.s (stepS half p m.s heard) m.st m.w heard c := by
  unfold nextM
  rw [h, hk]
  simp only
  rw [hr]
  simp only
  rw [hc]
theorem next_jmp {heard : Nat} {blk : Blk} (h : p.bs[m.s.b]? = some blk) (hk : m.k = none) (hr : (erow blk m.s.p)[m.w]? = none) (hc : blk.1[m.s.p]? = none) : nextM half p m heard = doneJ half m.s (stepS half p m.s heard) m blk.2 := by
  unfold nextM
  rw [h, hk]
  simp only
  rw [hr]
  simp only
  rw [hc]
theorem left_end (h : p.bs[m.s.b]? = none) : leftM half p m = 0 := by
  unfold leftM
  rw [h]
theorem left_none {blk : Blk} (h : p.bs[m.s.b]? = some blk) (hk : m.k = none) : leftM half p m = pleft half m.s blk - m.w := by
  unfold leftM
  rw [h, hk]
  simp
theorem left_some {blk : Blk} {ov : List Nat} (h : p.bs[m.s.b]? = some blk) (hk : m.k = some ov) : leftM half p m = 1 + (pleft half m.s blk - m.w) := by
  unfold leftM
  rw [h, hk]
  simp
theorem stepS_end {s : Stt} {heard : Nat} (h : p.bs[s.b]? = none) : stepS half p s heard = s := by
  unfold stepS
  rw [h]
theorem erow_cmd {blk : Blk} {q : Nat} {c : Cmd} (h : blk.1[q]? = some c) : erow blk q = c.ers := by unfold erow; rw [h]
theorem erow_jmp {blk : Blk} {q : Nat} (h : blk.1[q]? = none) : erow blk q = blk.2.ers := by unfold erow; rw [h]
theorem jers_len {s : Stt} {j : Jmp} : j.ers.length ≤ jleft half s j := by
  cases j with
  | test e b c => simp [Jmp.ers, jleft]
  | _ => simp [Jmp.ers, jleft]
theorem erow_left {blk : Blk} {s : Stt} : (erow blk s.p).length ≤ pleft half s blk := by
  unfold erow pleft
  cases blk.1[s.p]? with
  | some c => exact Nat.le_refl _
  | none => exact jers_len
theorem pleft_cmd {s : Stt} {blk : Blk} {c : Cmd} (hc : blk.1[s.p]? = some c) : pleft half s blk = c.ers.length := by unfold pleft; rw [hc]
theorem pleft_jmp {s : Stt} {blk : Blk} (hc : blk.1[s.p]? = none) : pleft half s blk = jleft half s blk.2 := by unfold pleft; rw [hc]
/-- it goes the core's step exactly where nothing is left, otherwise left falls by one -/
theorem next_left (ok : MOk half k p m) (heard : Nat) : (leftM half p m = 0 → (nextM half p m heard).s = stepS half p m.s heard) ∧ (leftM half p m ≠ 0 → (nextM half p m heard).s = m.s ∧ leftM half p (nextM half p m heard) + 1 = leftM half p m) := by
  cases eb : p.bs[m.s.b]? with
  | none => rw [left_end eb, next_end eb]; exact ⟨fun _ => (stepS_end eb).symm, fun z => absurd rfl z⟩
  | some blk =>
    obtain ⟨hp, ph⟩ := ok.ph blk eb
    cases ph with
    | pend p0 v x c ov hk hw hp0 hc hkp hst hol hvv hvs =>
      rw [left_some eb hk, next_pend eb hk]
      refine ⟨fun z => absurd z (by omega), fun _ => ⟨rfl, ?_⟩⟩
      rw [left_none (m := ⟨m.s, 0, [], none⟩) eb rfl, hw]
      show pleft half m.s blk - 0 + 1 = 1 + (pleft half m.s blk - 0)
      omega
    | jmp hk e b c hp0 hj hw hst hv =>
      have ec : blk.1[m.s.p]? = none := List.getElem?_eq_none (by omega)
      have er : (erow blk m.s.p)[m.w]? = none := by rw [erow_jmp ec, hj]; exact List.getElem?_eq_none (by simp [Jmp.ers, hw])
      rw [left_none eb hk, next_jmp eb hk er ec, pleft_jmp ec, hj, hw]
      refine ⟨fun _ => ?_, fun z => absurd (by simp [jleft, hv]) z⟩
      simp [doneJ, hw]
    | inn hk hw hst =>
      have hl := erow_left (half := half) (blk := blk) (s := m.s)
      rw [left_none eb hk]
      cases er : (erow blk m.s.p)[m.w]? with
      | some r =>
        have hlt := (List.getElem?_eq_some_iff.mp er).1
        rw [next_row eb hk er]
        refine ⟨fun z => absurd z (by omega), fun _ => ⟨rfl, ?_⟩⟩
        rw [left_none (m := ⟨m.s, m.w + 1, _, none⟩) eb rfl]
        simp only
        omega
      | none =>
        have hge := List.getElem?_eq_none_iff.mp er
        cases ec : blk.1[m.s.p]? with
        | some c =>
          rw [erow_cmd ec] at hw hge
          rw [next_cmd eb hk er ec, pleft_cmd ec]
          refine ⟨fun _ => ?_, fun z => absurd (by omega) z⟩
          cases c with
          | pair v e f => simp only [doneC]; cases fidx m.s.cs <;> rfl
          | _ => rfl
        | none =>
          rw [erow_jmp ec] at hw hge
          rw [next_jmp eb hk er ec, pleft_jmp ec, stepS_jmp eb ec]
          cases ej : blk.2 with
          | halt => exact ⟨fun _ => rfl, fun z => absurd (by simp [jleft]) z⟩
          | goto b => exact ⟨fun _ => rfl, fun z => absurd (by simp [jleft]) z⟩
          | test e b c =>
            rw [ej] at hw hge
            simp only [Jmp.ers] at hw hge
            have hw2 : m.w = e.rows.length := by omega
            simp only [doneJ, hw2, if_true]
            by_cases zv : val half m.s.vs m.s.cs e = 0
            · rw [if_pos zv]
              exact ⟨fun _ => rfl, fun z => absurd (by simp [jleft, zv]) z⟩
            · rw [if_neg zv]
              refine ⟨fun z => absurd z (by simp [jleft, zv]), fun _ => ⟨rfl, ?_⟩⟩
              rw [left_none (m := ⟨m.s, e.rows.length + 1, [], none⟩) eb rfl, pleft_jmp ec, ej]
              simp [jleft, zv]
end
end Cor
end Py
namespace Py
open PySem (Str)
namespace Cor
section
variable {half k : Nat} {p : Pgm} {m : Ms}
theorem phase0 {blk : Blk} {s : Stt} : Phase half p blk ⟨s, 0, [], none⟩ := .inn rfl (Nat.zero_le _) (by simp)
theorem ers_val {many : Nat} {vs : List Nat} {cs : Cs} {c : Cmd} (ok : c.Ok half many k) : c.ers.foldl (ex half vs cs) [] = match c with
    | .hear _ => []
    | .shw e => [val half vs cs e]
    | .set _ e => [val half vs cs e]
    | .pair _ e f => [val half vs cs e, val half vs cs f] := by
  cases c with
  | hear v => rfl
  | shw e => simp only [Cmd.ers]; rw [fold_val e [] ok.1]; rfl
  | set v e => simp only [Cmd.ers]; rw [fold_val e [] ok.2.1]; rfl
  | pair v e f => simp only [Cmd.ers]; rw [List.foldl_append, fold_val e [] ok.2.1.1, fold_val f _ ok.2.2.1]; rfl
/-- the whole of a block's place -/
theorem okp {half k : Nat} {p : Pgm} {m : Ms} (s : SOk half k p m.s) (ph : ∀ blk, p.bs[m.s.b]? = some blk → m.s.p ≤ blk.1.length ∧ Phase half p blk m) (hk : p.bs[m.s.b]? = none → m.k = none) : MOk half k p m := ⟨s, ph, fun h => ⟨by have := s.b; have := List.getElem?_eq_none_iff.mp h; omega, hk h⟩⟩
theorem cmd_p {N : Nat} {s : Stt} {heard : Nat} {c : Cmd} (h : (cmdS half N s heard c).b = s.b) (hp : ∀ v e f, c = .pair v e f → fidx s.cs ≠ none) : (cmdS half N s heard c).p = s.p + 1 := by
  cases c with
  | pair v e f =>
    simp only [cmdS, pairS] at h ⊢
    cases ef : fidx s.cs with
    | some j => rfl
    | none => exact absurd ef (hp v e f rfl)
  | _ => rfl
theorem next_ok (okP : POk half k p) (h2 : 2 ≤ half) (ok : MOk half k p m) (heard : Nat) : MOk half k p (nextM half p m heard) := by
  have so2 := step_ok okP h2 ok.s heard
  have hm := ok.s.vl
  cases eb : p.bs[m.s.b]? with
  | none => rw [next_end eb]; exact ok
  | some blk =>
    obtain ⟨hp, ph⟩ := ok.ph blk eb
    have bo := okP.b blk (List.mem_of_getElem? eb)
    have ub : ∀ b, p.bs[m.s.b]? = some b → blk = b := fun b h => Option.some.inj (eb.symm.trans h)
    have nb : ¬ p.bs[m.s.b]? = none := by rw [eb]; simp
    cases ph with
    | pend p0 v x c ov hk hw hp0 hc hkp hst hol hvv hvs =>
      rw [next_pend eb hk]
      exact okp ok.s (fun b h => by obtain rfl := ub _ h; exact ⟨hp, phase0⟩) (fun _ => rfl)
    | jmp hk e b c hp0 hj hw hst hv =>
      have ec : blk.1[m.s.p]? = none := List.getElem?_eq_none (by omega)
      have er : (erow blk m.s.p)[m.w]? = none := by rw [erow_jmp ec, hj]; exact List.getElem?_eq_none (by simp [Jmp.ers, hw])
      rw [next_jmp eb hk er ec, hj]
      have e1 : doneJ half m.s (stepS half p m.s heard) m (.test e b c) = ⟨stepS half p m.s heard, 0, [], none⟩ := by simp [doneJ, hw]
      rw [e1]
      have es : (stepS half p m.s heard).p = 0 := by rw [stepS_jmp eb ec, hj]; rfl
      exact okp so2 (fun b h => ⟨by show (stepS half p m.s heard).p ≤ _; rw [es]; exact Nat.zero_le _, phase0⟩) (fun _ => rfl)
    | inn hk hw hst =>
      cases er : (erow blk m.s.p)[m.w]? with
      | some r =>
        have hlt := (List.getElem?_eq_some_iff.mp er).1
        rw [next_row eb hk er]
        refine okp ok.s (fun b h => ?_) (fun _ => rfl)
        obtain rfl := ub _ h
        refine ⟨hp, .inn rfl (by show m.w + 1 ≤ (erow blk m.s.p).length; omega) ?_⟩
        show ex half m.s.vs m.s.cs m.st r = ((erow blk m.s.p).take (m.w + 1)).foldl _ []
        rw [take_snoc er, List.foldl_append, ← hst]
        rfl
      | none =>
        have hge := List.getElem?_eq_none_iff.mp er
        have hw2 : m.w = (erow blk m.s.p).length := by omega
        cases ec : blk.1[m.s.p]? with
        | some c =>
          have hlt := (List.getElem?_eq_some_iff.mp ec).1
          have co := bo.c c (List.mem_of_getElem? ec)
          rw [next_cmd eb hk er ec, stepS_cmd eb ec]
          rw [stepS_cmd eb ec] at so2
          cases c with
          | hear v =>
            simp only [Cmd.Ok] at co
            refine okp so2 (fun b h => ?_) (fun h => absurd h nb)
            obtain rfl := ub b h
            exact ⟨hlt, .pend m.s.p v (heard % half) (.hear v) m.s.vs rfl rfl rfl ec rfl rfl (by omega) co rfl⟩
          | shw e =>
            refine okp so2 (fun b h => ?_) (fun _ => rfl)
            obtain rfl := ub b h
            exact ⟨hlt, phase0⟩
          | set v e =>
            refine okp so2 (fun b h => ?_) (fun _ => rfl)
            obtain rfl := ub b h
            exact ⟨hlt, phase0⟩
          | pair v e f =>
            have c1 := co.2.1.1
            have c2 := co.2.2.1
            simp only [cmdS] at so2 ⊢
            simp only [doneC]
            unfold pairS at so2 ⊢
            cases ef : fidx m.s.cs with
            | some j =>
              simp only [ef] at so2 ⊢
              refine okp so2 (fun b h => ?_) (fun h => absurd h nb)
              obtain rfl := ub _ h
              exact ⟨hlt, .pend m.s.p v (half + j) (.pair v e f) m.s.vs rfl rfl rfl ec rfl rfl (by omega) co.1 rfl⟩
            | none =>
              simp only [ef] at so2 ⊢
              have W := ok.s.g.W (by rw [hm]; exact ok.s.ml) ok.s.cl
              by_cases z : (fin half m.s.cs m.s.vs).length = m.s.cs.length
              · simp only [z, if_true] at so2 ⊢
                refine okp so2 (fun b h => ?_) (fun _ => rfl)
                simp at h
              · simp only [z, if_false] at so2 ⊢
                refine okp so2 (fun b h => ?_) (fun _ => rfl)
                obtain rfl := ub _ h
                refine ⟨hp, .inn rfl hw ?_⟩
                show m.st = ((erow blk m.s.p).take m.w).foldl (ex half m.s.vs (left half m.s.cs m.s.vs)) []
                rw [hst, hw2, List.take_length, erow_cmd ec, ers_val co, ers_val co]
                simp only
                rw [val_left h2 W ok.s.g hm.symm e c1, val_left h2 W ok.s.g hm.symm f c2]
        | none =>
          have hpl : m.s.p = blk.1.length := by have := List.getElem?_eq_none_iff.mp ec; omega
          rw [next_jmp eb hk er ec]
          have so3 := so2
          rw [stepS_jmp eb ec] at so2 ⊢
          cases ej : blk.2 with
          | halt => exact ok
          | goto b =>
            rw [ej] at so2
            exact okp so2 (fun b h => ⟨Nat.zero_le _, phase0⟩) (fun _ => rfl)
          | test e b c =>
            rw [ej] at so2
            rw [erow_jmp ec, ej] at hw2
            simp only [Jmp.ers] at hw2
            simp only [doneJ, hw2, if_true]
            by_cases zv : val half m.s.vs m.s.cs e = 0
            · rw [if_pos zv]
              exact okp so2 (fun b h => ⟨Nat.zero_le _, phase0⟩) (fun _ => rfl)
            · rw [if_neg zv]
              refine okp ok.s (fun b' h => ?_) (fun _ => rfl)
              obtain rfl := ub _ h
              exact ⟨hp, .jmp rfl e b c hpl ej rfl rfl zv⟩
end
end Cor
end Py
namespace Py
open PySem (Str)
namespace Cor
def Cmd.tl : Cmd → List Row
  | .hear v => [(.hear, none), (.keep, some v)]
  | .shw _ => [(.show, none)]
  | .set v _ => [(.keep, some v)]
  | .pair v _ _ => [(.pair, none), (.keep, some v)]
def Jmp.tl (ad : Nat → Nat) : Jmp → List Row
  | .goto b => [(.jump, some (ad b))]
  | .halt => [(.halt, none)]
  | .test _ b c => [(.unless, some (ad c)), (.jump, some (ad b))]
theorem crows_tl (c : Cmd) : c.rows = c.ers ++ c.tl := by cases c <;> simp [Cmd.rows, Cmd.ers, Cmd.tl]
theorem jrows_tl (ad : Nat → Nat) (j : Jmp) : j.rows ad = j.ers ++ j.tl ad := by cases j <;> simp [Jmp.rows, Jmp.ers, Jmp.tl]
theorem app_tl {R T : List Row} {j : Nat} {r : Row} (h : T[j]? = some r) : (R ++ T)[R.length + j]? = some r := by
  rw [List.getElem?_append_right (by omega), Nat.add_sub_cancel_left]
  exact h
theorem mx_mem {x : Nat} {xs : List Nat} (h : x ∈ xs) : x ≤ mxN xs := by
  induction xs with
  | nil => cases h
  | cons y r ih =>
    rw [mxN_cons]
    rcases List.mem_cons.mp h
        with rfl | h
    · omega
    · have := ih h; omega
theorem bpl_le {p : Pgm} {blk : Blk} (h : blk ∈ p.bs) : bPl blk ≤ p.pl := mx_mem (List.mem_map_of_mem h)
theorem cpl_le {blk : Blk} {c : Cmd} (h : c ∈ blk.1) : c.pl ≤ bPl blk := mx_mem (List.mem_append_left _ (List.mem_map_of_mem h))
theorem jpl_le {blk : Blk} : blk.2.pl ≤ bPl blk := mx_mem (List.mem_append_right _ (by simp))
def mAt (p : Pgm) (m : Ms) : Nat := match p.bs[m.s.b]? with
  | none => (pRows p.bs (addr p.bs)).length + 1
  | some blk => addr p.bs m.s.b + ((lens blk).take m.s.p).sum + m.w - (if m.k.isSome then 1 else 0)
def msS (p : Pgm) (m : Ms) : SS := ⟨mAt p m, m.st, m.k.getD m.s.vs, m.s.cs, m.s.ls⟩
section
variable {half k : Nat} {p : Pgm} {m : Ms}
theorem mAt_none {blk : Blk} (h : p.bs[m.s.b]? = some blk) (hk : m.k = none) : mAt p m = addr p.bs m.s.b + ((lens blk).take m.s.p).sum + m.w := by
  unfold mAt
  rw [h, hk]
  simp
theorem mAt_some {blk : Blk} {ov : List Nat} (h : p.bs[m.s.b]? = some blk) (hk : m.k = some ov) : mAt p m = addr p.bs m.s.b + ((lens blk).take m.s.p).sum + m.w - 1 := by
  unfold mAt
  rw [h, hk]
  simp
theorem mAt_end (h : p.bs[m.s.b]? = none) : mAt p m = (pRows p.bs (addr p.bs)).length + 1 := by
  unfold mAt
  rw [h]
/-- a row of the command, or of the jump -/
theorem row_cmd {blk : Blk} {c : Cmd} {j : Nat} {r : Row} (h : p.bs[m.s.b]? = some blk) (hk : m.k = none) (hc : blk.1[m.s.p]? = some c) (hw : m.w = c.ers.length + j) (hr : c.tl[j]? = some r) : (pRows p.bs (addr p.bs))[mAt p m]? = some r := by
  rw [mAt_none h hk]
  refine cmd_at h hc ?_
  rw [crows_tl, hw]
  exact app_tl hr
theorem row_jmp {blk : Blk} {j : Nat} {r : Row} (h : p.bs[m.s.b]? = some blk) (hk : m.k = none) (hp : m.s.p = blk.1.length) (hw : m.w = blk.2.ers.length + j) (hr : (blk.2.tl (addr p.bs))[j]? = some r) : (pRows p.bs (addr p.bs))[mAt p m]? = some r := by
  rw [mAt_none h hk, hp]
  refine jmp_at h ?_
  rw [jrows_tl, hw]
  exact app_tl hr
theorem row_ers {blk : Blk} {r : Row} (h : p.bs[m.s.b]? = some blk) (hk : m.k = none) (hp : m.s.p ≤ blk.1.length) (hr : (erow blk m.s.p)[m.w]? = some r) : (pRows p.bs (addr p.bs))[mAt p m]? = some r := by
  rw [mAt_none h hk]
  have hlt := (List.getElem?_eq_some_iff.mp hr).1
  cases ec : blk.1[m.s.p]? with
  | some c =>
    rw [erow_cmd ec] at hr hlt
    refine cmd_at h ec ?_
    rw [crows_tl, List.getElem?_append_left hlt]
    exact hr
  | none =>
    rw [erow_jmp ec] at hr hlt
    have : m.s.p = blk.1.length := by have := List.getElem?_eq_none_iff.mp ec; omega
    rw [this]
    refine jmp_at h ?_
    rw [jrows_tl, List.getElem?_append_left hlt]
    exact hr
theorem good_ers (okP : POk half k p) (h2 : 2 ≤ half) (ok : MOk half k p m) {blk : Blk} {r : Row} (h : p.bs[m.s.b]? = some blk) (hr : (erow blk m.s.p)[m.w]? = some r) :
    Good half p.pl m.s.vs m.s.cs (((erow blk m.s.p).take m.w).foldl (ex half m.s.vs m.s.cs) []) r (((erow blk m.s.p).take (m.w + 1)).foldl (ex half m.s.vs m.s.cs) []) := by
  have bm := List.mem_of_getElem? h
  have bo := okP.b blk bm
  have hb := bpl_le (p := p) bm
  have g := ok.s.g
  have vl := ok.s.vl.symm
  cases ec : blk.1[m.s.p]? with
  | some c =>
    have cm := List.mem_of_getElem? ec
    have co := bo.c c cm
    have hc := cpl_le cm
    rw [erow_cmd ec] at hr ⊢
    cases c with
    | hear v => simp [Cmd.ers] at hr
    | shw e => simp only [Cmd.pl] at hc; exact good_at h2 g vl e [] co.1 (by simp; omega) m.w r hr
    | set v e => simp only [Cmd.pl] at hc; exact good_at h2 g vl e [] co.2.1 (by simp; omega) m.w r hr
    | pair v e f =>
      simp only [Cmd.pl] at hc
      refine good_app (fun w r hr => good_at h2 g vl e [] co.2.1.1 (by simp; omega) w r hr) (fun w r hr => ?_) hr
      rw [fold_val e [] co.2.1.1] 
      exact good_at h2 g vl f _ co.2.2.1 (by simp; omega) w r hr
  | none =>
    rw [erow_jmp ec] at hr ⊢
    have hj := jpl_le (blk := blk)
    have jo := bo.j
    cases ej : blk.2 with
    | halt => rw [ej] at hr; simp [Jmp.ers] at hr
    | goto b => rw [ej] at hr; simp [Jmp.ers] at hr
    | test e b c =>
      rw [ej] at hr hj jo
      simp only [Jmp.pl] at hj
      exact good_at h2 g vl e [] jo.1.1 (by simp; omega) m.w r hr
theorem lens_s {blk : Blk} {i : Nat} {c : Cmd} (h : blk.1[i]? = some c) : ((lens blk).take (i + 1)).sum = ((lens blk).take i).sum + c.rows.length := by
  have hi := (List.getElem?_eq_some_iff.mp h).1
  rw [lens_take (by omega), lens_take (by omega), take_snoc h, List.map_append, List.sum_append]
  simp
theorem kp_rows {c : Cmd} {v : Nat} (h : c.kp = some v) : c.rows.length = c.ers.length + 2 ∧ c.tl[1]? = some (.keep, some v) := by
  cases c with
  | hear w => simp only [Cmd.kp, Option.some.injEq] at h; subst h; exact ⟨rfl, rfl⟩
  | pair w e f => simp only [Cmd.kp, Option.some.injEq] at h; subst h; exact ⟨by simp [Cmd.rows, Cmd.ers]; omega, rfl⟩
  | shw e => cases h
  | set w e => cases h
theorem ls_len {s : Stt} {heard : Nat} : (stepS half p s heard).ls.length = s.ls.length := by
  unfold stepS
  cases p.bs[s.b]? with
  | none => rfl
  | some blk =>
    simp only
    cases blk.1[s.p]? with
    | none => cases blk.2 <;> rfl
    | some c =>
      cases c with
      | hear v => rfl
      | set v e => rfl
      | shw e => simp [cmdS, lbits]
      | pair v e f =>
        simp only [cmdS, pairS]
        cases fidx s.cs with
        | some j => rfl
        | none => simp only; split <;> rfl
theorem next_ls {heard : Nat} : (nextM half p m heard).s = m.s ∨ (nextM half p m heard).s = stepS half p m.s heard := by
  cases eb : p.bs[m.s.b]? with
  | none => exact .inl (by rw [next_end eb])
  | some blk =>
    cases hk : m.k with
    | some ov => exact .inl (by rw [next_pend eb hk])
    | none =>
      cases er : (erow blk m.s.p)[m.w]? with
      | some r => exact .inl (by rw [next_row eb hk er])
      | none =>
        cases ec : blk.1[m.s.p]? with
        | some c =>
          right
          rw [next_cmd eb hk er ec]
          cases c with
          | pair v e f => simp only [doneC]; cases fidx m.s.cs <;> rfl
          | _ => rfl
        | none =>
          rw [next_jmp eb hk er ec]
          cases blk.2 with
          | halt => exact .inl rfl
          | goto b => exact .inr rfl
          | test e b c =>
            simp only [doneJ]
            split
            · split
              · exact .inr rfl
              · exact .inl rfl
            · exact .inr rfl
end
end Cor
end Py
namespace Py
open PySem (Str)
namespace Cor
section
variable {P : Prog} {L : Nat} {h : AH} {Q : D → AH → Prop} {X : Xc} {wide k lights cells : Nat} {p : Pgm} {m : Ms}
theorem Good.same {half pl : Nat} {vs : List Nat} {cs : Cs} {st st' : List Nat} {r : Row} (g : Good half pl vs cs st r st') : st' = ex half vs cs st r := by
  cases g with
  | push n h => simp [ex]
  | load v h1 h2 => simp [ex]
  | un st s x hs gx hl => rw [ex_un hs]
  | bi st s x y hs hl => rw [ex_bi hs]
theorem pl_bound {half : Nat} (okP : POk half k p) : p.pl ≤ 10000 := by
  have hk := okP.k
  have key : ∀ xs : List Nat, (∀ x ∈ xs, x ≤ 10000) → mxN xs ≤ 10000 := by
    intro xs
    induction xs with
    | nil => intro _; simp [mxN]
    | cons x r ih =>
      intro h
      rw [mxN_cons]
      have h1 := h x (by simp)
      have h2 := ih fun y hy => h y (List.mem_cons_of_mem _ hy)
      omega
  have ple : ∀ e : CE, e.pl ≤ e.dep := by
    intro e
    induction e with
    | num n => exact Nat.le_refl _
    | of v => exact Nat.le_refl _
    | un s a ih => simp only [CE.pl, CE.dep]; omega
    | bi s a b iha ihb => simp only [CE.pl, CE.dep]; omega
  refine key _ fun x hx => ?_
  obtain ⟨b, hb, rfl⟩ :=
      List.mem_map.mp hx
  have bo := okP.b b hb
  refine key _ fun x hx => ?_
  rcases List.mem_append.mp hx
      with hx | hx
  · obtain ⟨c, hc, rfl⟩ := List.mem_map.mp hx
    have co := bo.c c hc
    cases c with
    | hear v => show 1 ≤ _; omega
    | shw e => have := ple e; have := co.2; show e.pl ≤ _; omega
    | set v e => have := ple e; have := co.2.2; show e.pl ≤ _; omega
    | pair v e f => have := ple e; have := ple f; have := co.2.1.2; have := co.2.2.2; show max e.pl (1 + f.pl) ≤ _; omega
  · rw [List.mem_singleton.mp hx]
    have jo := bo.j
    cases ej : b.2 with
    | halt => show 1 ≤ _; omega
    | goto b => show 1 ≤ _; omega
    | test e b c => rw [ej] at jo; have := ple e; have := jo.1.2; show e.pl ≤ _; omega
theorem at_block {s : Stt} {m : Ms} (hb : m.s.b < p.bs.length) (hp : m.s.p = 0) (hw : m.w = 0) (hk : m.k = none) : mAt p m = addr p.bs m.s.b := by
  rw [mAt_none (List.getElem?_eq_getElem hb) hk, hp, hw]
  simp
theorem mstep_i (hL : 11 ≤ L) (S : SK P) (hw : 2 ≤ wide) (hw2 : wide ≤ 100) (okP : POk (hf2 wide) k p) (ok : MOk (hf2 wide) k p m) (hl : m.s.ls.length = lights) {heard : Nat} (q : Q (msS p (nextM (hf2 wide) p m heard)).d h) :
    wC P L "step_of_stack" [tD wide lights p.pl p.many cells (pRows p.bs (addr p.bs)), (msS p m).d, .int heard] h Q X := by
  have h2 : 2 ≤ hf2 wide := by
    unfold hf2
    have : 2 ^ 1 ≤ 2 ^ (wide - 1) := Nat.pow_le_pow_right (by decide) (by omega)
    omega
  have vl := ok.s.vl
  have ml := ok.s.ml
  have cl := ok.s.cl
  have ll := ok.s.ll
  have plb := pl_bound okP
  cases eb : p.bs[m.s.b]? with
  | none =>
    rw [next_end eb] at q
    have ha := mAt_end eb
    exact stk_end (by omega) S (by rw [ha]; omega) q
  | some blk =>
    obtain ⟨hp, ph⟩ := ok.ph blk eb
    have bo := okP.b blk (List.mem_of_getElem? eb)
    cases ph with
    | pend p0 v x c ov hk hw0 hp0 hc hkp hst hol hvv hvs =>
      obtain ⟨r1, r2⟩ := kp_rows hkp
      have ls := lens_s hc
      have ha := mAt_some eb hk
      rw [hp0, ls, hw0] at ha
      have hr : (pRows p.bs (addr p.bs))[mAt p m]? = some (.keep, some v) := by
        have := cmd_at (ad := addr p.bs) eb hc (w := c.ers.length + 1) (by rw [crows_tl]; exact app_tl r2)
        rw [show mAt p m = addr p.bs m.s.b + ((lens blk).take p0).sum + (c.ers.length + 1) by omega]
        exact this
      rw [next_pend eb hk] at q
      have e : msS p ⟨m.s, 0, [], none⟩ = ⟨mAt p m + 1, [], ov.set v x, m.s.cs, m.s.ls⟩ := by
        have a2 := mAt_none (m := ⟨m.s, 0, [], none⟩) eb rfl
        unfold msS
        rw [a2]
        simp only [Option.getD_none, ← hvs]
        rw [hp0, ls]
        congr 1
        omega
      rw [e] at q
      have e0 : msS p m = ⟨mAt p m, [x], ov, m.s.cs, m.s.ls⟩ := by unfold msS; rw [hk, hst]; rfl
      rw [e0]
      exact stk_keep (s0 := []) (by omega) S hw hw2 hr rfl (by omega) (by omega) q
    | jmp hk e b c hp0 hj hw0 hst hv =>
      have ec : blk.1[m.s.p]? = none := List.getElem?_eq_none (by omega)
      have er : (erow blk m.s.p)[m.w]? = none := by rw [erow_jmp ec, hj]; exact List.getElem?_eq_none (by simp [Jmp.ers, hw0])
      have hr : (pRows p.bs (addr p.bs))[mAt p m]? = some (.jump, some (addr p.bs b)) := row_jmp (j := 1) eb hk hp0 (by rw [hj]; exact hw0) (by rw [hj]; rfl)
      have jo := bo.j
      rw [hj] at jo
      rw [next_jmp eb hk er ec, stepS_jmp eb ec, hj] at q
      have e1 : doneJ (hf2 wide) m.s (jmpS (hf2 wide) m.s (.test e b c)) m (.test e b c) = ⟨⟨b, 0, m.s.vs, m.s.cs, m.s.ls⟩, 0, [], none⟩ := by simp [doneJ, hw0, jmpS, hv]
      rw [e1] at q
      have e2 : msS p ⟨⟨b, 0, m.s.vs, m.s.cs, m.s.ls⟩, 0, [], none⟩ = ⟨addr p.bs b, [], m.s.vs, m.s.cs, m.s.ls⟩ := by
        unfold msS
        rw [at_block (s := m.s) jo.2.1 rfl rfl rfl]
        rfl
      rw [e2] at q
      have e0 : msS p m = ⟨mAt p m, [], m.s.vs, m.s.cs, m.s.ls⟩ := by unfold msS; rw [hk, hst]; rfl
      rw [e0]
      exact stk_jump (by omega) S hw hw2 hr q
    | inn hk hw0 hst =>
      have e0 : msS p m = ⟨mAt p m, m.st, m.s.vs, m.s.cs, m.s.ls⟩ := by unfold msS; rw [hk]; rfl
      rw [e0]
      cases er : (erow blk m.s.p)[m.w]? with
      | some r =>
        have hr := row_ers eb hk hp er
        have gd := good_ers okP h2 ok eb er
        have es := gd.same
        rw [next_row eb hk er] at q
        have e2 : msS p ⟨m.s, m.w + 1, ex (hf2 wide) m.s.vs m.s.cs m.st r, none⟩ = ⟨mAt p m + 1, ex (hf2 wide) m.s.vs m.s.cs m.st r, m.s.vs, m.s.cs, m.s.ls⟩ := by
          have a2 := mAt_none (m := ⟨m.s, m.w + 1, ex (hf2 wide) m.s.vs m.s.cs m.st r, none⟩) eb rfl
          have a1 := mAt_none eb hk
          unfold msS
          rw [a2, a1]
          rfl
        rw [e2] at q
        rw [← hst] at gd
        rw [es, ← hst] at gd
        generalize ex (hf2 wide) m.s.vs m.s.cs m.st r = st' at *
        generalize m.st = st at *
        cases gd with
        | push _ n hlt => exact stk_push (by omega) S hw hw2 hr hlt plb q
        | load _ v hv hlt => exact stk_load (by omega) S hw hw2 hr hv hlt plb q
        | un st s x hs gx hlt => exact stk_un (by omega) S hw hw2 hs hr rfl gx (by simp; omega) q
        | bi st s x y hs hlt => exact stk_bi (by omega) S hw hw2 hs hr rfl rfl (by simp; omega) q
      | none =>
        have hge := List.getElem?_eq_none_iff.mp er
        have hw2' : m.w = (erow blk m.s.p).length := by omega
        rw [hw2', List.take_length] at hst
        cases ec : blk.1[m.s.p]? with
        | some c =>
          have co := bo.c c (List.mem_of_getElem? ec)
          have ls := lens_s ec
          rw [erow_cmd ec] at hw2' hst
          rw [ers_val co] at hst
          rw [next_cmd eb hk er ec, stepS_cmd eb ec] at q
          have a1 := mAt_none eb hk
          have hrow : ∀ r, c.tl[0]? = some r → (pRows p.bs (addr p.bs))[mAt p m]? = some r := fun r h => row_cmd (j := 0) eb hk ec hw2' h
          cases c with
          | hear v =>
            simp only at hst
            simp only [doneC, cmdS] at q
            simp only [Cmd.ers, List.length_nil] at hw2'
            have e2 : ∀ vs2, msS p ⟨⟨m.s.b, m.s.p + 1, vs2, m.s.cs, m.s.ls⟩, 0, [heard % hf2 wide], some m.s.vs⟩ = ⟨mAt p m + 1, [heard % hf2 wide], m.s.vs, m.s.cs, m.s.ls⟩ := fun vs2 => by
              have a2 := mAt_some (m := ⟨⟨m.s.b, m.s.p + 1, vs2, m.s.cs, m.s.ls⟩, 0, [heard % hf2 wide], some m.s.vs⟩) eb rfl
              unfold msS
              rw [a2, a1]
              simp only [Option.getD_some]
              rw [ls]
              congr 1
              simp [Cmd.rows]
              omega
            rw [e2] at q
            rw [hst]
            have pp : 1 ≤ p.pl := by
              have h1 := bpl_le (p := p) (List.mem_of_getElem? eb)
              have h2 := cpl_le (List.mem_of_getElem? ec)
              have h3 : (Cmd.hear v).pl = 1 := rfl
              omega
            exact stk_hear (by omega) S hw hw2 (hrow _ rfl) (by simp; omega) plb q
          | shw e =>
            simp only at hst
            simp only [doneC, cmdS] at q
            simp only [Cmd.ers] at hw2'
            have e2 : ∀ l2, msS p ⟨⟨m.s.b, m.s.p + 1, m.s.vs, m.s.cs, l2⟩, 0, [], none⟩ = ⟨mAt p m + 1, [], m.s.vs, m.s.cs, l2⟩ := fun l2 => by
              have a2 := mAt_none (m := ⟨⟨m.s.b, m.s.p + 1, m.s.vs, m.s.cs, l2⟩, 0, [], none⟩) eb rfl
              unfold msS
              rw [a2, a1]
              simp only [Option.getD_none]
              rw [ls]
              congr 1
              simp [Cmd.rows]
              omega
            rw [e2, hl] at q
            rw [hst]
            exact stk_show (s0 := []) (by omega) S hw hw2 (hrow _ rfl) rfl (by omega) q
          | set v e =>
            simp only at hst
            simp only [doneC, cmdS] at q
            simp only [Cmd.ers] at hw2'
            have e2 : ∀ vs2, msS p ⟨⟨m.s.b, m.s.p + 1, vs2, m.s.cs, m.s.ls⟩, 0, [], none⟩ = ⟨mAt p m + 1, [], vs2, m.s.cs, m.s.ls⟩ := fun vs2 => by
              have a2 := mAt_none (m := ⟨⟨m.s.b, m.s.p + 1, vs2, m.s.cs, m.s.ls⟩, 0, [], none⟩) eb rfl
              unfold msS
              rw [a2, a1]
              simp only [Option.getD_none]
              rw [ls]
              congr 1
              simp [Cmd.rows]
              omega
            rw [e2] at q
            rw [hst]
            exact stk_keep (s0 := []) (by omega) S hw hw2 (hrow _ rfl) rfl (by have := co.1; omega) (by omega) q
          | pair v e f =>
            simp only at hst
            simp only [doneC, cmdS] at q
            simp only [Cmd.ers, List.length_append] at hw2'
            unfold pairS at q
            have W := ok.s.g.W (by rw [vl]; exact ml) cl
            have c1 := co.2.1.1
            have c2 := co.2.2.1
            have hs : ∀ r ∈ refs (hf2 wide) [val (hf2 wide) m.s.vs m.s.cs e, val (hf2 wide) m.s.vs m.s.cs f], r ∈ fin (hf2 wide) m.s.cs m.s.vs := fun r hr => by
              unfold refs at hr
              rw [List.mem_filterMap] at hr
              obtain ⟨x, hx, ex⟩ := hr
              split at ex
              · injection ex with ex
                subst ex
                simp at hx
                rcases hx with rfl | rfl
                · exact val_come h2 W ok.s.g vl.symm e c1 (by assumption)
                · exact val_come h2 W ok.s.g vl.symm f c2 (by assumption)
              · cases ex
            have hln : [val (hf2 wide) m.s.vs m.s.cs e, val (hf2 wide) m.s.vs m.s.cs f].length + m.s.vs.length ≤ 1000 := by simp; omega
            have W2 := roots_W W hs hln
            rw [hst]
            cases ef : fidx m.s.cs with
            | some j =>
              simp only [ef] at q
              have e2 : ∀ vs2 cs2, msS p ⟨⟨m.s.b, m.s.p + 1, vs2, cs2, m.s.ls⟩, 0, [hf2 wide + j], some m.s.vs⟩ = ⟨mAt p m + 1, [hf2 wide + j], m.s.vs, cs2, m.s.ls⟩ := fun vs2 cs2 => by
                have a2 := mAt_some (m := ⟨⟨m.s.b, m.s.p + 1, vs2, cs2, m.s.ls⟩, 0, [hf2 wide + j], some m.s.vs⟩) eb rfl
                unfold msS
                rw [a2, a1]
                simp only [Option.getD_some]
                rw [ls]
                congr 1
                simp [Cmd.rows]
                omega
              rw [e2] at q
              exact stk_pair (s0 := []) (s1 := [val (hf2 wide) m.s.vs m.s.cs e]) hL S hw hw2 (hrow _ rfl) rfl rfl (by simp) ef (by omega) q
            | none =>
              simp only [ef] at q
              by_cases z : (fin (hf2 wide) m.s.cs m.s.vs).length = m.s.cs.length
              · simp only [z, if_true] at q
                have a2 := mAt_end (p := p) (m := ⟨⟨p.bs.length, 0, m.s.vs, m.s.cs, m.s.ls⟩, m.w, m.st, none⟩) (by simp)
                unfold msS at q
                rw [a2, hst] at q
                exact stk_full (s0 := []) (s1 := []) hL S hw hw2 (hrow _ rfl) (by simp) (by omega) ef W2 (by rw [roots_len W hs hln]; exact z) q
              · simp only [z, if_false] at q
                have a2 := mAt_none (m := ⟨⟨m.s.b, m.s.p, m.s.vs, left (hf2 wide) m.s.cs m.s.vs, m.s.ls⟩, m.w, m.st, none⟩) eb rfl
                unfold msS at q
                rw [a2, hst] at q
                have a3 : mAt p m = addr p.bs m.s.b + ((lens blk).take m.s.p).sum + m.w := a1
                refine stk_coll (s0 := []) (s1 := []) hL S hw hw2 (hrow _ rfl) (by simp) (by omega) ef W2 (by rw [roots_len W hs hln]; exact z) ?_
                rw [roots_left W hs hln, a3]
                exact q
        | none =>
          have hpl : m.s.p = blk.1.length := by have := List.getElem?_eq_none_iff.mp ec; omega
          rw [next_jmp eb hk er ec, stepS_jmp eb ec] at q
          rw [erow_jmp ec] at hw2' hst
          have hrow : ∀ r, (blk.2.tl (addr p.bs))[0]? = some r → (pRows p.bs (addr p.bs))[mAt p m]? = some r := fun r h => row_jmp (j := 0) eb hk hpl hw2' h
          have jo := bo.j
          cases ej : blk.2 with
          | halt =>
            rw [ej] at q hrow
            simp only [doneJ] at q
            rw [e0] at q
            exact stk_halt (by omega) S hw hw2 (hrow _ rfl) q
          | goto b =>
            rw [ej] at q hrow jo hst
            simp only [doneJ, jmpS] at q
            simp only [Jmp.Ok] at jo
            simp only [Jmp.ers, List.foldl_nil] at hst
            have e2 : msS p ⟨⟨b, 0, m.s.vs, m.s.cs, m.s.ls⟩, 0, [], none⟩ = ⟨addr p.bs b, [], m.s.vs, m.s.cs, m.s.ls⟩ := by
              unfold msS
              rw [at_block (s := m.s) jo rfl rfl rfl]
              rfl
            rw [e2] at q
            rw [hst]
            exact stk_jump (by omega) S hw hw2 (hrow _ rfl) q
          | test e b c =>
            rw [ej] at q hrow jo hst hw2'
            simp only [Jmp.ers] at hst hw2'
            rw [fold_val e [] jo.1.1, List.nil_append] at hst
            simp only [doneJ, hw2', if_true, jmpS] at q
            rw [hst]
            refine stk_unless (s0 := []) (by omega) S hw hw2 (hrow _ rfl) rfl ?_
            by_cases zv : val (hf2 wide) m.s.vs m.s.cs e = 0
            · simp only [zv, if_true] at q ⊢
              have e2 : msS p ⟨⟨c, 0, m.s.vs, m.s.cs, m.s.ls⟩, 0, [], none⟩ = ⟨addr p.bs c, [], m.s.vs, m.s.cs, m.s.ls⟩ := by
                unfold msS
                rw [at_block (s := m.s) jo.2.2 rfl rfl rfl]
                rfl
              rw [e2] at q
              exact q
            · simp only [zv, if_false] at q ⊢
              have a1 := mAt_none eb hk
              have a2 := mAt_none (m := ⟨m.s, e.rows.length + 1, [], none⟩) eb rfl
              unfold msS at q
              rw [a2] at q
              rw [a1, hw2']
              exact q
end
end Cor
end Py
namespace Py
open PySem (Str)
namespace Cor
def c_place_of_row_in_core : Fn := ⟨2, 9, (.cons (.asg (.nm 2) (.call "core_block_addresses" (.cons (.var 0) .nil))) (.cons (.asg (.nm 3) (.b1 .len (.compi (.nm 8) (.seq (.sl (.var 2) (.so (.lit (.int 1))) .no)) [7, 8] (.cmp .le (.var 8) (.var 1)) (.var 8)))) (.cons (.asg (.nm 4) (.bin .sub (.var 1) (.ix (.var 2) (.var 3)))) (.cons (.asg (.nm 5) (.call "lengths_in_block" (.cons (.ix (.ix (.var 0) (.lit (.int 1))) (.var 3)) .nil))) (.cons (.asg (.nm 6) (.lit (.int 0))) (.cons (.whl (.cmp .ge (.var 4) (.ix (.var 5) (.var 6))) (.cons (.aug 4 .sub (.ix (.var 5) (.var 6))) (.cons (.aug 6 .add (.lit (.int 1))) .nil))) (.cons (.ret (.tup (.cons (.var 3) (.cons (.var 6) (.cons (.var 4) .nil))))) .nil)))))))⟩
def c_is_kept_alone : Fn := ⟨4, 5, (.cons (.asg (.nm 4) (.ix (.ix (.ix (.var 0) (.lit (.int 1))) (.var 1)) (.lit (.int 0)))) (.cons (.ifs (.or (.cmp .eq (.var 2) (.b1 .len (.var 4))) (.cmp .nin (.ix (.ix (.var 4) (.var 2)) (.lit (.int 0))) (.tup (.cons (.lit (.str "hear")) (.cons (.lit (.str "pair")) .nil))))) (.cons (.ret (.lit (.bl false))) .nil) .nil) (.cons (.ret (.cmp .eq (.var 3) (.bin .sub (.b1 .len (.call "core_command_rows" (.cons (.ix (.var 4) (.var 2)) .nil))) (.lit (.int 1))))) .nil)))⟩
def c_seen_core : Fn := ⟨3, 11, (.cons (.asg (.tp (.cons (.nm 3) (.cons (.nm 4) (.cons (.nm 5) (.cons (.nm 6) (.cons (.nm 7) .nil)))))) (.var 2)) (.cons (.ifs (.cmp .gt (.var 3) (.ix (.call "core_block_addresses" (.cons (.var 0) .nil)) (.neg (.lit (.int 1))))) (.cons (.ret (.tup (.cons (.b1 .len (.ix (.var 0) (.lit (.int 1)))) (.cons (.lit (.int 0)) (.cons (.var 5) (.cons (.var 6) (.cons (.var 7) .nil))))))) .nil) .nil) (.cons (.asg (.tp (.cons (.nm 8) (.cons (.nm 9) (.cons (.nm 10) .nil)))) (.call "place_of_row_in_core" (.cons (.var 0) (.cons (.var 3) .nil)))) (.cons (.ifs (.call "is_kept_alone" (.cons (.var 0) (.cons (.var 8) (.cons (.var 9) (.cons (.var 10) .nil))))) (.cons (.asg (.nm 5) (.call "with_item_at" (.cons (.var 5) (.cons (.ix (.ix (.ix (.ix (.ix (.var 0) (.lit (.int 1))) (.var 8)) (.lit (.int 0))) (.var 9)) (.lit (.int 1))) (.cons (.ix (.var 4) (.neg (.lit (.int 1)))) .nil))))) (.cons (.aug 9 .add (.lit (.int 1))) .nil)) .nil) (.cons (.ret (.tup (.cons (.var 8) (.cons (.var 9) (.cons (.var 5) (.cons (.var 6) (.cons (.var 7) .nil))))))) .nil)))))⟩
def c_left_at_place : Fn := ⟨4, 13, (.cons (.asg (.tp (.cons (.nm 4) (.cons (.nm 5) (.cons (.nm 6) (.cons (.nm 7) (.cons (.nm 8) .nil)))))) (.var 2)) (.cons (.asg (.tp (.cons (.nm 9) (.cons (.nm 10) .nil))) (.ix (.ix (.var 0) (.lit (.int 1))) (.var 4))) (.cons (.ifs (.cmp .lt (.var 5) (.b1 .len (.var 9))) (.cons (.asg (.nm 11) (.b1 .len (.call "core_command_rows" (.cons (.ix (.var 9) (.var 5)) .nil)))) (.cons (.ret (.bin .sub (.bin .sub (.var 11) (.ite (.cmp .inn (.ix (.ix (.var 9) (.var 5)) (.lit (.int 0))) (.tup (.cons (.lit (.str "hear")) (.cons (.lit (.str "pair")) .nil)))) (.lit (.int 2)) (.lit (.int 1)))) (.var 3))) .nil)) .nil) (.cons (.ifs (.cmp .ne (.ix (.var 10) (.lit (.int 0))) (.lit (.str "test"))) (.cons (.ret (.lit (.int 0))) .nil) .nil) (.cons (.asg (.nm 12) (.cmp .eq (.call "core_value" (.cons (.call "half_of" (.cons (.ix (.var 1) (.lit (.int 0))) .nil)) (.cons (.ix (.var 10) (.lit (.int 1))) (.cons (.var 6) (.cons (.var 7) .nil))))) (.lit (.int 0)))) (.cons (.asg (.nm 11) (.call "length_of_jump" (.cons (.var 10) .nil))) (.cons (.ret (.bin .sub (.bin .sub (.var 11) (.ite (.var 12) (.lit (.int 2)) (.lit (.int 1)))) (.var 3))) .nil)))))))⟩
def c_left_core : Fn := ⟨3, 7, (.cons (.asg (.nm 3) (.call "seen_core" (.cons (.var 0) (.cons (.var 1) (.cons (.var 2) .nil))))) (.cons (.ifs (.cmp .eq (.ix (.var 3) (.lit (.int 0))) (.b1 .len (.ix (.var 0) (.lit (.int 1))))) (.cons (.ret (.lit (.int 0))) .nil) .nil) (.cons (.asg (.tp (.cons (.nm 4) (.cons (.nm 5) (.cons (.nm 6) .nil)))) (.call "place_of_row_in_core" (.cons (.var 0) (.cons (.ix (.var 2) (.lit (.int 0))) .nil)))) (.cons (.ifs (.call "is_kept_alone" (.cons (.var 0) (.cons (.var 4) (.cons (.var 5) (.cons (.var 6) .nil))))) (.cons (.ret (.bin .add (.lit (.int 1)) (.call "left_at_place" (.cons (.var 0) (.cons (.var 1) (.cons (.var 3) (.cons (.lit (.int 0)) .nil))))))) .nil) .nil) (.cons (.ret (.call "left_at_place" (.cons (.var 0) (.cons (.var 1) (.cons (.var 3) (.cons (.var 6) .nil)))))) .nil)))))⟩
structure SN (P : Prog) : Prop where
  sv : SV P
  cc : CC P
  pr : P.fn "place_of_row_in_core" = some c_place_of_row_in_core
  ka : P.fn "is_kept_alone" = some c_is_kept_alone
  sn : P.fn "seen_core" = some c_seen_core
  lp : P.fn "left_at_place" = some c_left_at_place
  lc : P.fn "left_core" = some c_left_core
theorem addr_mono {bs : List Blk} {i : Nat} : ∀ j, addr bs i ≤ addr bs (i + j)
  | 0 => Nat.le_refl _
  | j + 1 => by
    have ih := addr_mono (bs := bs) (i := i) j
    cases e : bs[i + j]? with
    | some b =>
      have := addr_s e
      rw [show i + (j + 1) = i + j + 1 by omega]
      omega
    | none =>
      have h1 := List.getElem?_eq_none_iff.mp e
      have : addr bs (i + j + 1) = addr bs (i + j) := by unfold addr; rw [List.take_of_length_le (by omega), List.take_of_length_le h1]
      rw [show i + (j + 1) = i + j + 1 by omega]
      omega
theorem filt_le (f : Nat → Nat) (mono : ∀ i j, f i ≤ f (i + j)) {n b x : Nat} (hb : b ≤ n) (h1 : b = 0 ∨ f (b - 1) ≤ x) (h2 : b = n ∨ x < f b) : ((List.range n).filter fun j => decide (f j ≤ x)).length = b := by
  have e : (List.range n).filter (fun j => decide (f j ≤ x)) = List.range b := by
    obtain ⟨d, rfl⟩ : ∃ d, n = b + d := ⟨n - b, by omega⟩
    rw [List.range_add, List.filter_append]
    have e1 : (List.range b).filter (fun j => decide (f j ≤ x)) = List.range b := by
      rw [List.filter_eq_self]
      intro j hj
      rw [List.mem_range] at hj
      rcases h1 with h1 | h1
      · omega
      · have := mono j (b - 1 - j)
        rw [show j + (b - 1 - j) = b - 1 by omega] at this
        exact decide_eq_true
            (by omega)
    have e2 : ((List.range d).map (b + ·)).filter (fun j => decide (f j ≤ x)) = [] := by
      rw [List.filter_eq_nil_iff]
      intro j hj
      rw [List.mem_map] at hj
      obtain ⟨i, hi, rfl⟩ := hj
      rw [List.mem_range] at hi
      rcases h2 with h2 | h2
      · omega
      · have := mono b i
        simp
        omega
    rw [e1, e2, List.append_nil]
  rw [e, List.length_range]
section
variable {P : Prog} {L : Nat} {h : AH} {Q : D → AH → Prop} {X : Xc} {half wide k lights cells : Nat} {p : Pgm} {m : Ms}
theorem place_i (hL : k + 4 ≤ L) (C : SN P) (okP : POk half k p) {b i w : Nat} {blk : Blk} (hb : p.bs[b]? = some blk) (hi : i ≤ blk.1.length) (hw : w < gn (lens blk) i) {x : Nat} (hx : x = addr p.bs b + ((lens blk).take i).sum + w) (q : ∀ h', Sub h h' → Q (.tup [.int b, .int i, .int w]) h') : wC P L "place_of_row_in_core" [p.d, .int x] h Q X := by
  obtain ⟨n, rfl⟩ : ∃ n, L = n + 1 := ⟨L - 1, by omega⟩
  have hn := okP.n
  have hk := okP.k
  have hlt := (List.getElem?_eq_some_iff.mp hb).1
  have bo := okP.b blk (List.mem_of_getElem? hb)
  have ll := (blen_bound bo hk).2
  refine wC_i C.pr rfl ?_
  simp [-v_rB, c_place_of_row_in_core, List.replicate]
  refine addrs_i (by omega) C.cc okP fun a h1 s1 na ha => ?_
  rw [v_rB]
  have ec : cut (nL (adrs p.bs p.bs.length)) (some 1) none = nL ((List.range p.bs.length).map fun j => addr p.bs (j + 1)) := by
    have e1 : adrs p.bs p.bs.length = addr p.bs 0 :: (List.range p.bs.length).map fun j => addr p.bs (j + 1) := by
      unfold adrs
      rw [List.range_succ_eq_map,
          List.map_cons, List.map_map]
      rfl
    rw [e1]
    exact cut1
  simp [-v_rB, ha, ec]
  refine compi_m (fun y => decide ((dI y).toNat ≤ x)) (fun y => y) trivial (by simp; omega) (fun y hy kk hkk => ?_) ?_
  · obtain ⟨c, hc, rfl⟩ := nL_mem (by simpa using hy)
    simp only [dI_int, Int.toNat_natCast] at hkk
    simp [wipe]
    by_cases z : c ≤ x
    · simp [z] at hkk ⊢; exact hkk
    · simp [z] at hkk ⊢; exact hkk
  have ef : (((nL ((List.range p.bs.length).map fun j => addr p.bs (j + 1))).filter fun y => decide ((dI y).toNat ≤ x)).map fun y => y).length = b := by
    rw [List.length_map]
    unfold nL
    rw [List.map_map, List.filter_map, List.length_map]
    have := filt_le (fun j => addr p.bs (j + 1)) (fun i j => by rw [show i + j + 1 = i + 1 + j by omega]; exact addr_mono j) (n := p.bs.length) (b := b) (x := x) (by omega) (by
      rcases Nat.eq_zero_or_pos b with z | z
      · exact .inl z
      · right; rw [show b - 1 + 1 = b by omega]; omega) (by
      right
      have := addr_s hb
      have h3 : ((lens blk).take (i + 1)).sum ≤ (lens blk).sum := by
        have : (lens blk).sum = ((lens blk).take (i + 1)).sum + ((lens blk).drop (i + 1)).sum := by rw [← List.sum_append, List.take_append_drop]
        omega
      have gl : (lens blk)[i]? = some (gn (lens blk) i) := by rw [gn_get (by omega), List.getElem?_eq_getElem (by omega)]
      rw [take_snoc gl, List.sum_append] at h3
      simp at h3
      unfold bLen at this
      omega)
    rw [← this]
    rfl
  simp only [v_fixi, n_len_o, ef, gd_some, rv_v]
  rw [v_rB]
  have gb : gn (adrs p.bs p.bs.length) b = addr p.bs b := adrs_get (by omega)
  have e1 : (x : Int) - (addr p.bs b : Int) = ((((lens blk).take i).sum + w : Nat) : Int) := by omega
  simp [-v_rB, -Int.natCast_add, ha, nL_at (xs := adrs p.bs p.bs.length) (i := b) (by rw [adrs_len]; omega), gb, e1]
  rw [v_rB]
  have ea : atI (p.bs.map bD) (b : Int) = some (bD blk) := atN (by simp [hb])
  simp [-v_rB, -Int.natCast_add, ea]
  refine lens_i (by omega) C.cc bo hk fun c nc => ?_
  have hc : put h1 c (.lst (nL (lens blk))) c = some (.lst (nL (lens blk))) := put_self
  have s2 : Sub h (put h1 c (.lst (nL (lens blk)))) := s1.new nc
  generalize put h1 c (.lst (nL (lens blk))) = h2 at *
  rw [v_rB]
  simp [-v_rB, -Int.natCast_add]
  rw [v_rB]
  simp only [v_cons]
  refine whl_i (fun mm env h' => h' = h2 ∧ ∃ j, mm = i - j ∧ j ≤ i ∧ env = [some p.d, some (.int x), some (.loc a), some (.int b), some (.int ((((lens blk).drop j).take (i - j)).sum + w : Nat)), some (.loc c), some (.int j), none, none]) i ⟨rfl, 0, by omega, by omega, by simp⟩ ?_
  rintro mm env h' N ⟨rfl, j, rfl, hj, rfl⟩ hN
  have gj : gn (lens blk) j = gn (lens blk) j := rfl
  have aj := nL_at (xs := lens blk) (i := j) (by omega)
  by_cases z : j = i
  · subst z
    have nz : ¬ (gn (lens blk) j : Int) ≤ (w : Int) := by omega
    simp [hc, aj, nz]
    exact someQ_i (q _ s2)
  · have e2 : (lens blk).drop j = gn (lens blk) j :: (lens blk).drop (j + 1) := by rw [gn_get (by omega)]; exact List.drop_eq_getElem_cons (by omega)
    have e3 : (((lens blk).drop j).take (i - j)).sum = gn (lens blk) j + (((lens blk).drop (j + 1)).take (i - (j + 1))).sum := by
      rw [e2, show i - j = (i - (j + 1)) + 1 by omega, List.take_succ_cons, List.sum_cons]
    rw [e3]
    generalize hT : (((lens blk).drop (j + 1)).take (i - (j + 1))).sum = T at *
    have nz : (gn (lens blk) j : Int) ≤ ((gn (lens blk) j + T + w : Nat) : Int) := by omega
    have nz2 : gn (lens blk) j ≤ gn (lens blk) j + T + w := by omega
    have e4 : ((gn (lens blk) j + T + w : Nat) : Int) - (gn (lens blk) j : Int) = ((T + w : Nat) : Int) := by omega
    simp [-Int.natCast_add, hc, aj, nz, nz2, e4]
    refine hN (i - (j + 1)) _ _ (by omega) ⟨rfl, j + 1, rfl, by omega, ?_⟩
    simp [hT]
theorem nin_nm {a : Nm} {ys : List D} {h : AH} (hy : ys.all (pu 40) = true) : cmpD .nin (.v (.str (nm a))) (.v (.tup ys)) h = some (!(ys.any fun z => eqv z (.str (nm a)))) := by
  show (inD (.v (.str (nm a))) (.v (.tup ys)) h).map _ = _
  have := in_nm (a := a) (h := h) hy
  rw [k_inn] at this
  rw [this]
  rfl
def kept (blk : Blk) (i w : Nat) : Bool := match blk.1[i]? with
  | some c => c.kp.isSome && decide (w + 1 = c.rows.length)
  | none => false
theorem kept_i (hL : k + 2 ≤ L) (C : SN P) (okP : POk half k p) {b i w : Nat} {blk : Blk} (hb : p.bs[b]? = some blk) (hi : i ≤ blk.1.length) (q : Q (.bl (kept blk i w)) h) : wC P L "is_kept_alone" [p.d, .int b, .int i, .int w] h Q X := by
  obtain ⟨n, rfl⟩ : ∃ n, L = n + 1 := ⟨L - 1, by omega⟩
  have bo := okP.b blk (List.mem_of_getElem? hb)
  have ea : atI (p.bs.map bD) (b : Int) = some (bD blk) := atN (by simp [hb])
  refine wC_i C.ka rfl ?_
  simp [-v_rB, c_is_kept_alone, List.replicate, ea]
  rw [v_rB]
  unfold kept at q
  cases ec : blk.1[i]? with
  | none =>
    have e : i = blk.1.length := by have := List.getElem?_eq_none_iff.mp ec; omega
    rw [ec] at q
    simp [-v_rB, e]
    exact someQ_i q
  | some c =>
    have hlt := (List.getElem?_eq_some_iff.mp ec).1
    have co := bo.c c (List.mem_of_getElem? ec)
    have e : ¬ (i : Int) = (blk.1.length : Int) := by omega
    have e' : ¬ i = blk.1.length := by omega
    have ea2 : atI (blk.1.map Cmd.d) (i : Int) = some c.d := atN (by simp [ec])
    rw [ec] at q
    simp only at q
    cases c with
    | shw y =>
      simp [-v_rB, e, e', ea2, Cmd.d, n10, n12, nin_nm]
      exact someQ_i q
    | set v y =>
      simp [-v_rB, e, e', ea2, Cmd.d, n10, n12, nin_nm]
      exact someQ_i q
    | hear v =>
      have d0 : (Cmd.hear v).d = .tup [.str (nm .hear), .int v] := rfl
      simp [-v_rB, e, e', ea2, n10, n12, d0, nin_nm]
      rw [v_rB]
      simp [-v_rB, ea2]
      refine command_rows_L (k := k) (by omega) C.cc.cr C.cc.er co okP.k ?_
      simp
      refine someQ_i ?_
      have e1 : ((w : Int) = ((Cmd.hear v).rows.length : Int) - 1) ↔ w + 1 = (Cmd.hear v).rows.length := by omega
      simp only [Cmd.kp, Option.isSome_some, Bool.true_and] at q
      simp only [e1]
      exact q
    | pair v x y =>
      have d0 : (Cmd.pair v x y).d = .tup [.str (nm .pair), .int v, x.d, y.d] := rfl
      simp [-v_rB, e, e', ea2, n10, n12, d0, nin_nm]
      rw [v_rB]
      simp [-v_rB, ea2]
      refine command_rows_L (k := k) (by omega) C.cc.cr C.cc.er co okP.k ?_
      simp
      refine someQ_i ?_
      have e1 : ((w : Int) = ((Cmd.pair v x y).rows.length : Int) - 1) ↔ w + 1 = (Cmd.pair v x y).rows.length := by omega
      simp only [Cmd.kp, Option.isSome_some, Bool.true_and] at q
      simp only [e1]
      exact q
theorem rows_ers (c : Cmd) : c.rows.length = c.ers.length + (if c.kp.isSome then 2 else 1) := by cases c <;> simp [Cmd.rows, Cmd.ers, Cmd.kp]; omega
theorem lens_cmd {blk : Blk} {i : Nat} {c : Cmd} (h : blk.1[i]? = some c) : gn (lens blk) i = c.rows.length := by
  have hi := (List.getElem?_eq_some_iff.mp h).1
  unfold gn lens
  rw [List.getElem?_append_left (by simpa using hi), List.getElem?_map, h]
  rfl
theorem lens_jmp {blk : Blk} {i : Nat} (h : i = blk.1.length) : gn (lens blk) i = blk.2.len := by
  unfold gn lens
  rw [List.getElem?_append_right (by simp; omega)]
  simp [h]
theorem jlen_ers (j : Jmp) : j.ers.length < j.len := by cases j <;> simp [Jmp.ers, Jmp.len]
/-- where it is, within which command, and is it seen done already -/
theorem where_at (ok : MOk half k p m) {blk : Blk} (eb : p.bs[m.s.b]? = some blk) : ∃ i w, i ≤ blk.1.length ∧ w < gn (lens blk) i ∧ mAt p m = addr p.bs m.s.b + ((lens blk).take i).sum + w ∧
    ((m.k = none ∧ i = m.s.p ∧ w = m.w ∧ kept blk i w = false) ∨ (∃ c v x ov, m.k = some ov ∧ m.w = 0 ∧ m.s.p = i + 1 ∧ blk.1[i]? = some c ∧ c.kp = some v ∧ m.st = [x] ∧ v < ov.length ∧ m.s.vs = ov.set v x ∧ kept blk i w = true)) := by
  obtain ⟨hp, ph⟩ := ok.ph blk eb
  cases ph with
  | pend p0 v x c ov hk hw0 hp0 hc hkp hst hol hvv hvs =>
    have hlt := (List.getElem?_eq_some_iff.mp hc).1
    obtain ⟨r1, r2⟩ := kp_rows hkp
    have ls := lens_s hc
    have ha := mAt_some eb hk
    rw [hp0, ls, hw0] at ha
    refine ⟨p0, c.rows.length - 1, by omega, by rw [lens_cmd hc]; omega, by omega, .inr ⟨c, v, x, ov, hk, hw0, hp0, hc, hkp, hst, by omega, hvs, ?_⟩⟩
    unfold kept
    rw [hc]
    simp only
    rw [hkp]
    simp
    omega
  | jmp hk e b c hp0 hj hw0 hst hv =>
    refine ⟨m.s.p, m.w, hp, ?_, mAt_none eb hk, .inl ⟨hk, rfl, rfl, ?_⟩⟩
    · rw [lens_jmp hp0, hj, hw0]; simp [Jmp.len]
    · unfold kept; rw [List.getElem?_eq_none (by omega)]
  | inn hk hw0 hst =>
    cases ec : blk.1[m.s.p]? with
    | some c =>
      rw [erow_cmd ec] at hw0
      have r := rows_ers c
      refine ⟨m.s.p, m.w, hp, ?_, mAt_none eb hk, .inl ⟨hk, rfl, rfl, ?_⟩⟩
      · rw [lens_cmd ec]; split at r <;> omega
      · unfold kept
        rw [ec]
        simp only
        cases e : c.kp with
        | none => rfl
        | some v =>
          rw [e] at r
          simp at r
          simp
          omega
    | none =>
      rw [erow_jmp ec] at hw0
      have hpl : m.s.p = blk.1.length := by have := List.getElem?_eq_none_iff.mp ec; omega
      refine ⟨m.s.p, m.w, hp, ?_, mAt_none eb hk, .inl ⟨hk, rfl, rfl, ?_⟩⟩
      · rw [lens_jmp hpl]; have := jlen_ers blk.2; omega
      · unfold kept; rw [ec]
theorem seen_i {z : D} (hL : k + 5 ≤ L) (C : SN P) (okP : POk half k p) (ok : MOk half k p m) (h0 : p.bs[m.s.b]? = none → m.s.p = 0) (q : ∀ h', Sub h h' → Q m.s.d h') : wC P L "seen_core" [p.d, z, (msS p m).d] h Q X := by
  obtain ⟨n, rfl⟩ : ∃ n, L = n + 1 := ⟨L - 1, by omega⟩
  have ml := ok.s.ml
  have vl := ok.s.vl
  refine wC_i C.sn rfl ?_
  simp [-v_rB, c_seen_core, List.replicate]
  rw [v_rB]
  simp [-v_rB]
  refine addrs_i (by omega) C.cc okP fun a h1 s1 na ha => ?_
  have e0 : (msS p m).a = mAt p m := rfl
  have e1 : (msS p m).st = m.st := rfl
  have e2 : (msS p m).vs = m.k.getD m.s.vs := rfl
  have e3 : (msS p m).cs = m.s.cs := rfl
  have e4 : (msS p m).ls = m.s.ls := rfl
  have al : addr p.bs p.bs.length = (pRows p.bs (addr p.bs)).length := by rw [addr_all, prows_len]
  simp only [e0, e1, e2, e3, e4]
  simp [-v_rB, ha, adrs_last]
  cases eb : p.bs[m.s.b]? with
  | none =>
    obtain ⟨f1, f2⟩ := ok.fu eb
    have hat := mAt_end eb
    have lt : addr p.bs p.bs.length < mAt p m := by omega
    simp [-v_rB, lt, f2]
    refine someQ_i ?_
    have := q h1 s1
    unfold Stt.d at this
    rw [f1, h0 eb] at this
    exact this
  | some blk =>
    have hlt := (List.getElem?_eq_some_iff.mp eb).1
    obtain ⟨i, w, hi, hw, hat, hc⟩ := where_at ok eb
    have hsum : addr p.bs m.s.b + ((lens blk).take i).sum + w < addr p.bs (m.s.b + 1) := by
      have h3 : ((lens blk).take (i + 1)).sum ≤ (lens blk).sum := by
        have : (lens blk).sum = ((lens blk).take (i + 1)).sum + ((lens blk).drop (i + 1)).sum := by rw [← List.sum_append, List.take_append_drop]
        omega
      have gl : (lens blk)[i]? = some (gn (lens blk) i) := by
        unfold gn at hw ⊢
        cases e : (lens blk)[i]? with
        | none => rw [e] at hw; simp at hw
        | some y => rfl
      rw [take_snoc gl, List.sum_append] at h3
      simp at h3
      have := addr_s eb
      unfold bLen at this
      omega
    have mono := addr_mono (bs := p.bs) (i := m.s.b + 1) (p.bs.length - (m.s.b + 1))
    rw [show m.s.b + 1 + (p.bs.length - (m.s.b + 1)) = p.bs.length by omega] at mono
    have lt : ¬ addr p.bs p.bs.length < mAt p m := by omega
    simp [-v_rB, lt]
    rw [v_rB]
    simp [-v_rB]
    refine place_i (by omega) C okP eb hi hw hat fun h2 s2 => ?_
    simp [-v_rB]
    rw [v_rB]
    simp [-v_rB]
    refine kept_i (by omega) C okP eb hi ?_
    rcases hc with ⟨hk, rfl, rfl, hf⟩ | ⟨c, v, x, ov, hk, hw0, hp0, hcc, hkp, hst, hv, hvs, hf⟩
    · simp [hf, hk]
      exact someQ_i (q h2 (s1.trans s2))
    · have ea : atI (p.bs.map bD) (m.s.b : Int) = some (bD blk) := atN (by simp [eb])
      have ea2 : atI (blk.1.map Cmd.d) (i : Int) = some c.d := atN (by simp [hcc])
      have ea3 : ixD (.v c.d) (.v (.int 1)) h2 = some (.int v) := by
        cases c with
        | hear u => simp only [Cmd.kp, Option.some.injEq] at hkp; subst hkp; simp [Cmd.d]
        | pair u y z => simp only [Cmd.kp, Option.some.injEq] at hkp; subst hkp; simp [Cmd.d]
        | shw y => cases hkp
        | set u y => cases hkp
      have ea4 : atI (nL [x]) (-1) = some (.int x) := at_last [] (.int x)
      have ol : ov.length ≤ 100 := by
        have : m.s.vs.length = ov.length := by rw [hvs, List.length_set]
        omega
      simp [-v_rB, hf, hk, ea, ea2, ea3, hst, ea4]
      refine with_i (by omega) C.sv (by rw [nL_len]; exact hv) (by rw [nL_len]; omega) ?_
      rw [nL_set, ← hvs]
      try simp
      refine someQ_i ?_
      have := q h2 (s1.trans s2)
      unfold Stt.d at this
      rw [hp0] at this
      exact this
theorem leftp_i (hL : k + 3 ≤ L) (C : SN P) (hw : 2 ≤ wide) (hw2 : wide ≤ 100) (okP : POk (hf2 wide) k p) {s : Stt} (so : SOk (hf2 wide) k p s) {blk : Blk} (eb : p.bs[s.b]? = some blk) (hp : s.p ≤ blk.1.length) {w : Nat} (hwl : w ≤ pleft (hf2 wide) s blk) (q : Q (.int ((pleft (hf2 wide) s blk - w : Nat) : Int)) h) :
    wC P L "left_at_place" [p.d, szD wide cells lights, s.d, .int w] h Q X := by
  obtain ⟨n, rfl⟩ : ∃ n, L = n + 1 := ⟨L - 1, by omega⟩
  have h2 : 2 ≤ hf2 wide := by
    unfold hf2
    have : 2 ^ 1 ≤ 2 ^ (wide - 1) := Nat.pow_le_pow_right (by decide) (by omega)
    omega
  have bo := okP.b blk (List.mem_of_getElem? eb)
  have ea : atI (p.bs.map bD) (s.b : Int) = some (bD blk) := atN (by simp [eb])
  refine wC_i C.lp rfl ?_
  simp [-v_rB, c_left_at_place, List.replicate]
  rw [v_rB]
  simp [-v_rB, ea]
  rw [v_rB]
  cases ec : blk.1[s.p]? with
  | some c =>
    have hlt := (List.getElem?_eq_some_iff.mp ec).1
    have co := bo.c c (List.mem_of_getElem? ec)
    have ea2 : atI (blk.1.map Cmd.d) (s.p : Int) = some c.d := atN (by simp [ec])
    rw [pleft_cmd ec] at q hwl
    have r := rows_ers c
    simp [-v_rB, hlt]
    simp only [ea2, gd_some]
    refine command_rows_L (k := k) (by omega) C.cc.cr C.cc.er co okP.k ?_
    simp [-v_rB]
    rw [v_rB]
    cases c with
    | hear v =>
      have d0 : (Cmd.hear v).d = .tup [.str (nm .hear), .int v] := rfl
      have e : ((Cmd.hear v).rows.length : Int) - 2 - (w : Int) = (((Cmd.hear v).ers.length - w : Nat) : Int) := by simp [Cmd.kp] at r; omega
      simp [ea2, d0, n10, n12]
      rw [e]
      exact someQ_i q
    | pair v x y =>
      have d0 : (Cmd.pair v x y).d = .tup [.str (nm .pair), .int v, x.d, y.d] := rfl
      have e : ((Cmd.pair v x y).rows.length : Int) - 2 - (w : Int) = (((Cmd.pair v x y).ers.length - w : Nat) : Int) := by simp [Cmd.kp] at r; omega
      simp [ea2, d0, n10, n12]
      rw [e]
      exact someQ_i q
    | shw x =>
      have d0 : (Cmd.shw x).d = .tup [.str (nm .show), x.d] := rfl
      have e : ((Cmd.shw x).rows.length : Int) - 1 - (w : Int) = (((Cmd.shw x).ers.length - w : Nat) : Int) := by simp [Cmd.kp] at r; omega
      simp [ea2, d0, n10, n12]
      rw [e]
      exact someQ_i q
    | set v x =>
      have d0 : (Cmd.set v x).d = .tup [.str (nm .set), .int v, x.d] := rfl
      have e : ((Cmd.set v x).rows.length : Int) - 1 - (w : Int) = (((Cmd.set v x).ers.length - w : Nat) : Int) := by simp [Cmd.kp] at r; omega
      simp [ea2, d0, n10, n12]
      rw [e]
      exact someQ_i q
  | none =>
    have hpl : s.p = blk.1.length := by have := List.getElem?_eq_none_iff.mp ec; omega
    have nlt : ¬ s.p < blk.1.length := by omega
    rw [pleft_jmp ec] at q hwl
    simp [-v_rB, nlt]
    rw [v_rB]
    have jo := bo.j
    cases ej : blk.2 with
    | halt =>
      rw [ej] at q
      simp [Jmp.d, n16]
      exact someQ_i (by simpa [jleft] using q)
    | goto b =>
      rw [ej] at q
      simp [Jmp.d, n16]
      exact someQ_i (by simpa [jleft] using q)
    | test e b c =>
      rw [ej] at q jo hwl
      have d0 : (Jmp.test e b c).d = .tup [.str (nm .test), e.d, .int b, .int c] := rfl
      have dep := jo.1.2
      simp [-v_rB, d0, n16]
      rw [v_rB]
      simp [-v_rB, szD]
      refine half_of_i (by omega) C.sv (by omega) (by omega) ?_
      try simp [-v_rB]
      refine value_i C.sv h2 so.g so.vl.symm e jo.1.1 (by omega) ?_
      simp [-v_rB]
      rw [v_rB, ← d0]
      simp [-v_rB]
      refine len_jump_L (k := k) (by omega) C.cc.lj C.cc.er jo okP.k ?_
      rw [v_rB]
      have jl : (Jmp.test e b c).len = e.rows.length + 2 := rfl
      unfold jleft at q hwl
      by_cases zv : val (hf2 wide) s.vs s.cs e = 0
      · simp only [zv, if_true, Nat.add_zero] at q hwl
        have e5 : ((Jmp.test e b c).len : Int) - 2 - (w : Int) = ((e.rows.length - w : Nat) : Int) := by omega
        simp [zv, e5]
        exact someQ_i q
      · simp only [zv, if_false] at q hwl
        have e5 : ((Jmp.test e b c).len : Int) - 1 - (w : Int) = ((e.rows.length + 1 - w : Nat) : Int) := by omega
        simp [zv, e5]
        exact someQ_i q
theorem left_i (hL : k + 6 ≤ L) (C : SN P) (hw : 2 ≤ wide) (hw2 : wide ≤ 100) (okP : POk (hf2 wide) k p) (ok : MOk (hf2 wide) k p m) (h0 : p.bs[m.s.b]? = none → m.s.p = 0) (q : ∀ h', Sub h h' → Q (.int (leftM (hf2 wide) p m)) h') :
    wC P L "left_core" [p.d, szD wide cells lights, (msS p m).d] h Q X := by
  obtain ⟨n, rfl⟩ : ∃ n, L = n + 1 := ⟨L - 1, by omega⟩
  refine wC_i C.lc rfl ?_
  simp [-v_rB, c_left_core, List.replicate]
  refine seen_i (by omega) C okP ok h0 fun h1 s1 => ?_
  rw [v_rB]
  simp [-v_rB]
  rw [v_rB]
  cases eb : p.bs[m.s.b]? with
  | none =>
    obtain ⟨f1, f2⟩ := ok.fu eb
    have := q h1 s1
    rw [left_end eb] at this
    simp [f1]
    exact someQ_i this
  | some blk =>
    have hlt := (List.getElem?_eq_some_iff.mp eb).1
    have ne : ¬ m.s.b = p.bs.length := by omega
    have ne' : ¬ (m.s.b : Int) = (p.bs.length : Int) := by omega
    obtain ⟨hp, ph⟩ := ok.ph blk eb
    obtain ⟨i, w, hi, hwt, hat, hc⟩ := where_at ok eb
    have e0 : (msS p m).a = mAt p m := rfl
    simp [-v_rB, ne, ne', e0]
    refine place_i (by omega) C okP eb hi hwt hat fun h2 s2 => ?_
    simp [-v_rB]
    rw [v_rB]
    simp [-v_rB]
    refine kept_i (by omega) C okP eb hi ?_
    have q2 := q h2 (s1.trans s2)
    rcases hc with ⟨hk, rfl, rfl, hf⟩ | ⟨c, v, x, ov, hk, hw0, hp0, hcc, hkp, hst, hv, hvs, hf⟩
    · rw [left_none eb hk] at q2
      have hwl : m.w ≤ pleft (hf2 wide) m.s blk := by
        have hl := erow_left (half := hf2 wide) (blk := blk) (s := m.s)
        cases ph with
        | inn _ hw0 _ => omega
        | jmp _ e b c hp0 hj hw0 _ hv => 
          have ec : blk.1[m.s.p]? = none := List.getElem?_eq_none (by omega)
          rw [pleft_jmp ec, hj, hw0]
          simp [jleft, hv]
        | pend _ _ _ _ _ hk2 _ _ _ _ _ _ _ _ => rw [hk] at hk2; cases hk2
      simp [-v_rB, hf]
      rw [v_rB]
      simp [-v_rB]
      refine leftp_i (by omega) C hw hw2 okP ok.s eb hp hwl ?_
      exact someQ_i q2
    · rw [left_some eb hk, hw0, Nat.sub_zero] at q2
      simp [-v_rB, hf]
      refine leftp_i (w := 0) (by omega) C hw hw2 okP ok.s eb hp (Nat.zero_le _) ?_
      simp
      exact someQ_i (by simpa using q2)
end
end Cor
end Py
namespace Py
open PySem (Str)
namespace Cor
def c__law_thinned : Fn := ⟨1, 3, (.cons (.ret (.b1 .tup (.compi (.nm 2) (.rng1 (.b1 .len (.var 0))) [1, 2] (.or (.cmp .eq (.var 2) (.lit (.int 0))) (.cmp .ne (.ix (.var 0) (.var 2)) (.ix (.var 0) (.bin .sub (.var 2) (.lit (.int 1)))))) (.ix (.var 0) (.var 2))))) .nil)⟩
def c__law_goes : Fn := ⟨4, 10, (.cons (.asg (.nm 4) (.call "compiled_core" (.cons (.var 1) (.cons (.var 2) .nil)))) (.cons (.asg (.nm 5) (.call "begin_of_stack" (.cons (.var 4) .nil))) (.cons (.asg (.nm 6) (.call "_law_core_begin" (.cons (.var 1) (.cons (.var 2) .nil)))) (.cons (.asg (.nm 7) (.lst (.cons (.lst (.cons (.call "lights_of_stack" (.cons (.var 4) (.cons (.var 5) .nil))) .nil)) (.cons (.lst (.cons (.ix (.var 6) (.lit (.int 4))) .nil)) .nil)))) (.cons (.ifs (.not (.call "_law_same" (.cons (.call "seen_core" (.cons (.var 1) (.cons (.var 2) (.cons (.var 5) .nil)))) (.cons (.var 6) .nil)))) (.cons (.ret (.lit (.bl false))) .nil) .nil) (.cons (.for_ (.nm 8) (.seq (.call "_law_words" (.cons (.var 0) (.cons (.var 3) (.cons (.ix (.var 2) (.lit (.int 0))) .nil))))) (.cons (.asg (.nm 9) (.call "left_core" (.cons (.var 1) (.cons (.var 2) (.cons (.var 5) .nil))))) (.cons (.asg (.nm 5) (.call "step_of_stack" (.cons (.var 4) (.cons (.var 5) (.cons (.var 8) .nil))))) (.cons (.ifs (.or (.not (.b1 (.isa .int) (.var 9))) (.or (.b1 (.isa .bool) (.var 9)) (.cmp .lt (.var 9) (.lit (.int 0))))) (.cons (.ret (.lit (.bl false))) .nil) .nil) (.cons (.ifs (.cmp .eq (.var 9) (.lit (.int 0))) (.cons (.asg (.nm 6) (.call "_law_core_step" (.cons (.var 1) (.cons (.var 2) (.cons (.var 6) (.cons (.var 8) .nil)))))) .nil) (.cons (.ifs (.cmp .ne (.call "left_core" (.cons (.var 1) (.cons (.var 2) (.cons (.var 5) .nil)))) (.bin .sub (.var 9) (.lit (.int 1)))) (.cons (.ret (.lit (.bl false))) .nil) .nil) .nil)) (.cons (.ifs (.or (.not (.call "_law_same" (.cons (.call "seen_core" (.cons (.var 1) (.cons (.var 2) (.cons (.var 5) .nil)))) (.cons (.var 6) .nil)))) (.not (.call "_law_same" (.cons (.call "lights_of_stack" (.cons (.var 4) (.cons (.var 5) .nil))) (.cons (.ix (.var 6) (.lit (.int 4))) .nil))))) (.cons (.ret (.lit (.bl false))) .nil) .nil) (.cons (.expr (.mt .append (.ix (.var 7) (.lit (.int 0))) (.cons (.call "lights_of_stack" (.cons (.var 4) (.cons (.var 5) .nil))) .nil))) (.cons (.expr (.mt .append (.ix (.var 7) (.lit (.int 1))) (.cons (.ix (.var 6) (.lit (.int 4))) .nil))) .nil)))))))) (.cons (.ret (.cmp .eq (.call "_law_thinned" (.cons (.ix (.var 7) (.lit (.int 0))) .nil)) (.call "_law_thinned" (.cons (.ix (.var 7) (.lit (.int 1))) .nil)))) .nil)))))))⟩
theorem eqvs_self : ∀ {xs : List D}, (∀ x ∈ xs, eqv x x = true) → eqvs xs xs = true
  | [], _ => rfl
  | x :: r, h => by
    show (eqv x x && eqvs r r) = true
    rw [h x (by simp), eqvs_self fun y hy => h y (List.mem_cons_of_mem _ hy)]
    rfl
theorem nL_eqvs (xs ys : List Nat) : eqvs (nL xs) (nL ys) = decide (xs = ys) := by
  rw [← nL_iL, ← nL_iL, iL_eqvs]
  apply decide_eq_decide.mpr
  constructor
  · intro h
    exact List.map_inj_right (fun a b e => by omega) |>.mp h
  · intro h; rw [h]
theorem nL_pu {n : Nat} (xs : List Nat) : (nL xs).all (pu n) = true := by
  rw [List.all_eq_true]
  intro x hx
  obtain ⟨i, _, rfl⟩ := nL_mem hx
  cases n <;> rfl
theorem eq_nL (xs ys : List Nat) (h : AH) : cmpD .eq (.v (.tup (nL xs))) (.v (.tup (nL ys))) h = some (decide (xs = ys)) := by
  show eqD (.v (.tup (nL xs))) (.v (.tup (nL ys))) h = _
  unfold eqD
  simp only [nL_pu, nL_eqvs, Bool.and_self, if_true]
theorem ne_nL (xs ys : List Nat) (h : AH) : cmpD .ne (.v (.tup (nL xs))) (.v (.tup (nL ys))) h = some (!decide (xs = ys)) := by
  have := eq_nL xs ys h
  show (eqD (.v (.tup (nL xs))) (.v (.tup (nL ys))) h).map (!·) = _
  rw [show eqD (.v (.tup (nL xs))) (.v (.tup (nL ys))) h = some (decide (xs = ys)) from this]
  rfl
/-! ### rows of lights -/
def liL (ls : List (List Nat)) : List D := ls.map fun l => .tup (nL l)
theorem liL_len {ls : List (List Nat)} : (liL ls).length = ls.length := by simp [liL]
theorem liL_at {ls : List (List Nat)} {i : Nat} (h : i < ls.length) : atI (liL ls) (i : Int) = some (.tup (nL (ls[i]?.getD []))) := atN (by simp [liL, h])
def thinL (ls : List (List Nat)) : List (List Nat) := ((List.range ls.length).filter fun k => decide (k = 0) || !decide (ls[k]?.getD [] = ls[k - 1]?.getD [])).map fun k => ls[k]?.getD []
theorem liL_same (ls : List (List Nat)) (h : AH) : cmpD .eq (.v (.tup (liL ls))) (.v (.tup (liL ls))) h = some true := by
  show eqD (.v (.tup (liL ls))) (.v (.tup (liL ls))) h = _
  unfold eqD
  have e1 : (liL ls).all (pu 40) = true := by
    rw [List.all_eq_true]
    intro x hx
    simp only [liL, List.mem_map] at hx
    obtain ⟨l, _, rfl⟩ := hx
    show (nL l).all (pu 39) = true
    exact nL_pu l
  have e2 : eqvs (liL ls) (liL ls) = true := eqvs_self fun x hx => by
    simp only [liL, List.mem_map] at hx
    obtain ⟨l, _, rfl⟩ := hx
    show eqvs (nL l) (nL l) = true
    rw [nL_eqvs]
    simp
  simp only [e1, e2, Bool.and_self, if_true]
section
variable {P : Prog} {L : Nat} {h : AH} {Q : D → AH → Prop} {X : Xc} {half wide k lights cells : Nat} {p : Pgm} {m : Ms}
theorem thinned_i (hL : 1 ≤ L) (hf : P.fn "_law_thinned" = some c__law_thinned) {a : Nat} {ls : List (List Nat)} (ha : h a = some (.lst (liL ls))) (hl : ls.length ≤ 100000) (q : Q (.tup (liL (thinL ls))) h) : wC P L "_law_thinned" [.loc a] h Q X := by
  obtain ⟨n, rfl⟩ : ∃ n, L = n + 1 := ⟨L - 1, by omega⟩
  have s1 : small62 (ls.length : Int) = true := by simp [small62]; omega
  refine wC_i hf rfl ?_
  simp [-v_rB, c__law_thinned, List.replicate, ha, liL_len, s1]
  refine compi_m (fun y => decide ((dI y).toNat = 0) || !decide (ls[(dI y).toNat]?.getD [] = ls[(dI y).toNat - 1]?.getD [])) (fun y => .tup (nL (ls[(dI y).toNat]?.getD []))) trivial (by simp; omega) (fun y hy kk hkk => ?_) ?_
  · obtain ⟨c, hc, rfl⟩ := rngL_mem hy
    simp only [Int.zero_add, dI_int, Int.toNat_natCast] at hkk
    simp [wipe]
    by_cases z : c = 0
    · subst z
      have e0 : atI (liL ls) 0 = some (.tup (nL (ls[0]?.getD []))) := liL_at (i := 0) hc
      simp [ha, e0] at hkk ⊢
      exact hkk
    · have e : (c : Int) - 1 = ((c - 1 : Nat) : Int) := by omega
      simp [z, ha, liL_at hc, e, liL_at (ls := ls) (i := c - 1) (by omega), ne_nL] at hkk ⊢
      by_cases z2 : ls[c] = ls[c - 1]
      · simp [z2, hc, show c - 1 < ls.length by omega] at hkk ⊢; exact hkk
      · simp [z2, hc, show c - 1 < ls.length by omega] at hkk ⊢; exact hkk
  · have e : (((rngL 0 ls.length).filter fun y => decide ((dI y).toNat = 0) || !decide (ls[(dI y).toNat]?.getD [] = ls[(dI y).toNat - 1]?.getD [])).map fun y => D.tup (nL (ls[(dI y).toNat]?.getD []))) = liL (thinL ls) := by
      unfold rngL liL thinL
      rw [List.filter_map, List.map_map, List.map_map]
      simp [Function.comp_def]
      refine congrArg _ (List.filter_congr fun x _ => ?_)
      congr
    simp only [v_fixi, e, n_tup_o, gd_some, rv_v]
    exact someQ_i q
end
end Cor
end Py
namespace Py
open PySem (Str)
namespace Cor
def Fz (p : Pgm) (s : Stt) : Prop := p.bs[s.b]? = none → s.p = 0
theorem stepS_z {half : Nat} {p : Pgm} {s : Stt} {heard : Nat} (z : Fz p s) : Fz p (stepS half p s heard) := by
  intro h
  cases eb : p.bs[s.b]? with
  | none => rw [stepS_end eb]; exact z eb
  | some blk =>
    cases ec : blk.1[s.p]? with
    | none =>
      rw [stepS_jmp eb ec] at h ⊢
      cases ej : blk.2 with
      | halt => rw [ej] at h; simp only [jmpS] at h; rw [eb] at h; cases h
      | goto b => rfl
      | test e b c => rfl
    | some c =>
      rw [stepS_cmd eb ec] at h ⊢
      cases c with
      | hear v => exact absurd h (by show ¬ p.bs[s.b]? = none; rw [eb]; simp)
      | shw e => exact absurd h (by show ¬ p.bs[s.b]? = none; rw [eb]; simp)
      | set v e => exact absurd h (by show ¬ p.bs[s.b]? = none; rw [eb]; simp)
      | pair v e f =>
        simp only [cmdS] at h ⊢
        unfold pairS at h ⊢
        cases ef : fidx s.cs with
        | some j => rw [ef] at h; exact absurd h (by show ¬ p.bs[s.b]? = none; rw [eb]; simp)
        | none =>
          simp only [ef] at h ⊢
          split
          · rfl
          · rename_i hh
            rw [if_neg hh] at h
            exact absurd h (by show ¬ p.bs[s.b]? = none; rw [eb]; simp)
def msN (half : Nat) (p : Pgm) (m : Ms) (hs : List Nat) (i : Nat) : Ms := (hs.take i).foldl (nextM half p) m
def m0 (p : Pgm) (cells lights : Nat) : Ms := ⟨begS p cells lights, 0, [], none⟩
section
variable {half k : Nat} {p : Pgm} {m : Ms}
theorem msN_s {hs : List Nat} {i x : Nat} (hx : hs[i]? = some x) : msN half p m hs (i + 1) = nextM half p (msN half p m hs i) x := by
  unfold msN
  rw [take_snoc hx, List.foldl_append]
  rfl
structure Minv (half k lights : Nat) (p : Pgm) (m : Ms) : Prop where
  ok : MOk half k p m
  z : Fz p m.s
  l : m.s.ls.length = lights
theorem next_Minv {lights : Nat} (okP : POk half k p) (h2 : 2 ≤ half) (M : Minv half k lights p m) (heard : Nat) : Minv half k lights p (nextM half p m heard) := by
  refine ⟨next_ok okP h2 M.ok heard, ?_, ?_⟩
  · rcases next_ls (half := half) (p := p) (m := m) (heard := heard) with e | e
    · rw [e]; exact M.z
    · rw [e]; exact stepS_z M.z
  · rcases next_ls (half := half) (p := p) (m := m) (heard := heard) with e | e
    · rw [e]; exact M.l
    · rw [e, ls_len]; exact M.l
theorem m0_Minv {cells lights : Nat} (okP : POk half k p) (h2 : 2 ≤ half) (hm : p.many ≤ 100) (hc : cells ≤ 100) (hl : lights ≤ 100) : Minv half k lights p (m0 p cells lights) := by
  have hb : p.bs[(m0 p cells lights).s.b]? = some (p.bs[0]'okP.s) := List.getElem?_eq_getElem okP.s
  refine ⟨⟨begS_ok h2 hm hc hl, fun b h => ?_, (fun h => by rw [hb] at h; cases h)⟩, (fun h => by rw [hb] at h; cases h), by simp [m0, begS]⟩
  exact ⟨Nat.zero_le _, phase0⟩
theorem msN_Minv {lights : Nat} (okP : POk half k p) (h2 : 2 ≤ half) (M : Minv half k lights p m) (hs : List Nat) : ∀ i, Minv half k lights p (msN half p m hs i)
  | 0 => by simpa [msN] using M
  | i + 1 => by
    cases e : hs[i]? with
    | none =>
      have h1 := List.getElem?_eq_none_iff.mp e
      have : msN half p m hs (i + 1) = msN half p m hs i := by unfold msN; rw [List.take_of_length_le h1, List.take_of_length_le (by omega)]
      rw [this]
      exact msN_Minv okP h2 M hs i
    | some x => rw [msN_s e]; exact next_Minv okP h2 (msN_Minv okP h2 M hs i) x
end
def lsL (half : Nat) (p : Pgm) (m : Ms) (hs : List Nat) (i : Nat) : List (List Nat) := (List.range (i + 1)).map fun j => (msN half p m hs j).s.ls
theorem lsL_s {half : Nat} {p : Pgm} {m : Ms} {hs : List Nat} {i : Nat} : liL (lsL half p m hs (i + 1)) = liL (lsL half p m hs i) ++ [.tup (nL (msN half p m hs (i + 1)).s.ls)] := by
  simp [lsL, liL, List.range_succ]
theorem lsL_len {half : Nat} {p : Pgm} {m : Ms} {hs : List Nat} {i : Nat} : (lsL half p m hs i).length = i + 1 := by simp [lsL]
theorem _root_.Py.Kd.sub {h0 h h' : AH} {g : Nat} (k : Kd h0 g h) (s : Sub h h') : Kd h0 g h' := ⟨by obtain ⟨d, e⟩ := k.dr; exact ⟨d, s g _ e⟩, fun b o nb e => s b o (k.kp b o nb e)⟩
section
variable {P : Prog} {L : Nat} {h : AH} {Q : D → AH → Prop} {X : Xc} {half wide k lights cells : Nat} {p : Pgm} {m : Ms}
theorem sbegin_i (hL : 1 ≤ L) (S : SK P) (hm : p.many ≤ 100) (hc : cells ≤ 100) (hl : lights ≤ 100) (h0 : 0 < p.bs.length) {rows : List Row} {pl : Nat} (q : Q (msS p (m0 p cells lights)).d h) : wC P L "begin_of_stack" [tD wide lights pl p.many cells rows] h Q X := by
  obtain ⟨n, rfl⟩ : ∃ n, L = n + 1 := ⟨L - 1, by omega⟩
  have e1 : p.many ≤ 1000000 := by omega
  have e2 : cells ≤ 1000000 := by omega
  have e3 : lights ≤ 1000000 := by omega
  have hb : p.bs[(m0 p cells lights).s.b]? = some (p.bs[0]'h0) := List.getElem?_eq_getElem h0
  have ea : mAt p (m0 p cells lights) = 0 := by
    rw [mAt_none hb rfl]
    simp [m0, begS, addr]
  have e : (msS p (m0 p cells lights)).d = .tup [.int 0, .tup [], .tup (nL (List.replicate p.many 0)), .tup (csD (List.replicate cells none)), .tup (nL (List.replicate lights 0))] := by
    unfold msS SS.d
    rw [ea]
    rfl
  rw [e] at q
  refine wC_i S.bg rfl ?_
  simp [c_begin_of_stack, List.replicate, tD, o_rept e1, o_rept e2, o_rept e3, rept_non, rept_0]
  exact someQ_i q
theorem slights_i (hL : 1 ≤ L) (hf : P.fn "lights_of_stack" = some c_lights_of_stack) {z : D} (q : Q (.tup (nL m.s.ls)) h) : wC P L "lights_of_stack" [z, (msS p m).d] h Q X := by
  obtain ⟨n, rfl⟩ : ∃ n, L = n + 1 := ⟨L - 1, by omega⟩
  refine wC_i hf rfl ?_
  simp [c_lights_of_stack, List.replicate]
  exact someQ_i q
end
end Cor
end Py
namespace Py
open PySem (Str)
namespace Cor
/-! ### threads over empty blocks -/
def empB (bs : List Blk) (b : Nat) : Bool := match bs[b]? with
  | some ([], .goto _) => decide (b ≠ 0)
  | _ => false
def nxB (bs : List Blk) (b : Nat) : Nat := match bs[b]? with
  | some (_, .goto c) => c
  | _ => 0
def itB (bs : List Blk) (b : Nat) : Nat → Nat
  | 0 => b
  | i + 1 => nxB bs (itB bs b i)
theorem itB_s (bs : List Blk) (b : Nat) : ∀ i, itB bs b (i + 1) = itB bs (nxB bs b) i
  | 0 => rfl
  | i + 1 => by
    show nxB bs (itB bs b (i + 1)) = nxB bs (itB bs (nxB bs b) i)
    rw [itB_s bs b i]
theorem itB_add (bs : List Blk) (b i : Nat) : ∀ j, itB bs b (i + j) = itB bs (itB bs b i) j
  | 0 => rfl
  | j + 1 => by
    show nxB bs (itB bs b (i + j)) = nxB bs (itB bs (itB bs b i) j)
    rw [itB_add bs b i j]
def goB (bs : List Blk) (b i : Nat) : List Nat := (List.range i).map (itB bs b)
theorem goB_s {bs : List Blk} {b i : Nat} : goB bs b (i + 1) = goB bs b i ++ [itB bs b i] := by simp [goB, List.range_succ]
theorem goB_mem {bs : List Blk} {b i x : Nat} : x ∈ goB bs b i ↔ ∃ t, t < i ∧ itB bs b t = x := by simp [goB]
/-- targets are blocks -/
structure Nx (bs : List Blk) : Prop where
  lt : ∀ b, empB bs b = true → nxB bs b < bs.length
theorem emp_lt {bs : List Blk} {b : Nat} (h : empB bs b = true) : b < bs.length := by
  unfold empB at h
  cases e : bs[b]? with
  | none =>
      rw [e] at h; cases h
  | some x => exact (List.getElem?_eq_some_iff.mp e).1
/-- where it stops: at a block that is not empty, or one gone over already -/
structure Stop (bs : List Blk) (b i : Nat) : Prop where
  e : ∀ t, t < i → empB bs (itB bs b t) = true
  n : (goB bs b i).Nodup
  s : empB bs (itB bs b i) = false ∨ itB bs b i ∈ goB bs b i
section
variable {bs : List Blk} {b i j : Nat}
theorem Stop.len (s : Stop bs b i) : i ≤ bs.length := by
  have := nd_len (B := bs.length) s.n fun x hx => by
    obtain ⟨t, ht, rfl⟩ := goB_mem.mp hx
    exact emp_lt (s.e t ht)
  simpa [goB] using this
theorem Stop.uniq (s : Stop bs b i) (s2 : Stop bs b j) : i = j := by
  have key : ∀ {i j}, Stop bs b i → Stop bs b j → ¬ i < j := fun {i j} s s2 h => by
    rcases s.s with h1 | h1
    · rw [s2.e i h] at h1; cases h1
    · obtain ⟨t, ht, et⟩ := goB_mem.mp h1
      have h2 := s2.n
      unfold goB at h2
      have h3 := List.pairwise_iff_getElem.mp h2 t i (by simp; omega) (by simpa using h) ht
      simp at h3
      exact h3 et
  have h1 := key s s2
  have h2 := key s2 s
  omega
/-- it stops -/
theorem stop_ex (b : Nat) : ∃ i, Stop bs b i := by
  have key : ∀ k, (∃ i, Stop bs b i) ∨ ((∀ t, t < k → empB bs (itB bs b t) = true) ∧ (goB bs b k).Nodup) := by
    intro k
    induction k with
    | zero => exact .inr ⟨fun t h => by omega, List.nodup_nil⟩
    | succ k ih =>
      rcases ih with h | ⟨h1, h2⟩
      · exact .inl h
      · by_cases h3 : empB bs (itB bs b k) = true
        · by_cases h4 : itB bs b k ∈ goB bs b k
          · exact .inl ⟨k, h1, h2, .inr h4⟩
          · refine .inr ⟨fun t ht => ?_, ?_⟩
            · rcases Nat.lt_succ_iff_lt_or_eq.mp ht with h | rfl
              · exact h1 t h
              · exact h3
            · rw [goB_s, List.nodup_append]
              exact ⟨h2, by simp, fun a ha c hc e => by rw [List.mem_singleton.mp hc] at e; exact h4 (e ▸ ha)⟩
        · exact .inl ⟨k, h1, h2, .inl (by simpa using h3)⟩
  rcases key (bs.length + 1) with h | ⟨h1, h2⟩
  · exact h
  · have := nd_len (B := bs.length) h2 fun x hx => by
      obtain ⟨t, ht, rfl⟩ := goB_mem.mp hx
      exact emp_lt (h1 t ht)
    simp [goB] at this
    omega
def stp? (bs : List Blk) (b : Nat) : Nat := ((List.range (bs.length + 1)).find? fun i => !empB bs (itB bs b i) || decide (itB bs b i ∈ goB bs b i)).getD 0
theorem stp_ok (b : Nat) : Stop bs b (stp? bs b) := by
  obtain ⟨i, s⟩ := stop_ex (bs := bs) b
  have hl := s.len
  have e : (List.range (bs.length + 1)).find? (fun i => !empB bs (itB bs b i) || decide (itB bs b i ∈ goB bs b i)) = some i := by
    rw [List.find?_range_eq_some]
    refine ⟨?_, by rw [List.mem_range]; omega, fun j hj => ?_⟩
    · rcases s.s with h | h
      · simp [h]
      · simp [h]
    · have h1 := s.e j hj
      have h2 : itB bs b j ∉ goB bs b j := fun h => by
        have : Stop bs b j := ⟨fun t ht => s.e t (by omega), ?_, .inr h⟩
        · have := this.uniq s; omega
        · have h3 := s.n
          unfold goB at h3 ⊢
          exact List.Nodup.sublist ((List.range_sublist.mpr (by omega)).map _) h3
      simp [h1, h2]
  unfold stp?
  rw [e]
  exact s
end
/-- the least of numbers -/
def mnN : List Nat → Nat
  | [] => 0
  | [x] => x
  | x :: y :: r => min x (mnN (y :: r))
theorem mnN_mem : ∀ {xs : List Nat}, xs ≠ [] → mnN xs ∈ xs
  | [], h => absurd rfl h
  | [x], _ => by simp [mnN]
  | x :: y :: r, _ => by
    have ih := mnN_mem (xs := y :: r) (by simp)
    simp only [mnN]
    rcases Nat.le_total x (mnN (y :: r)) with h | h
    · rw [Nat.min_eq_left h]; simp
    · rw [Nat.min_eq_right h]; exact List.mem_cons_of_mem _ ih
theorem mnN_le : ∀ {xs : List Nat} {y : Nat}, y ∈ xs → mnN xs ≤ y
  | [x], y, h => by simp at h; simp [mnN, h]
  | x :: z :: r, y, h => by
    simp only [mnN]
    rcases List.mem_cons.mp h
        with rfl | h
    · exact Nat.min_le_left _ _
    · exact Nat.le_trans (Nat.min_le_right _ _) (mnN_le h)
theorem mnN_eq {xs ys : List Nat} (h0 : xs ≠ []) (h : ∀ a, a ∈ xs ↔ a ∈ ys) : mnN xs = mnN ys := by
  have h1 : ys ≠ [] := fun e => by
    have := (h _).mp (mnN_mem h0)
    rw [e] at this
    cases this
  have a := mnN_le ((h _).mpr (mnN_mem h1))
  have b := mnN_le ((h _).mp (mnN_mem h0))
  omega
end Cor
end Py
namespace Py
open PySem (Str)
namespace Cor
def thr (bs : List Blk) (b : Nat) : Nat := if itB bs b (stp? bs b) ∈ goB bs b (stp? bs b) then mnN ((goB bs b (stp? bs b)).drop ((goB bs b (stp? bs b)).idxOf (itB bs b (stp? bs b)))) else itB bs b (stp? bs b)
def lft (bs : List Blk) (b : Nat) : Nat := if itB bs b (stp? bs b) ∈ goB bs b (stp? bs b) then (goB bs b (stp? bs b)).idxOf (itB bs b (stp? bs b)) else stp? bs b
/-- on and on over empty blocks -/
def Rng (bs : List Blk) (b : Nat) : Prop := ∀ i, empB bs (itB bs b i) = true
def Rg (bs : List Blk) (b y : Nat) : Prop := ∃ i, bs.length ≤ i ∧ itB bs b i = y
section
variable {bs : List Blk} {b i j : Nat}
theorem stop_halt (h1 : ∀ t, t < i → empB bs (itB bs b t) = true) (h2 : empB bs (itB bs b i) = false) : Stop bs b i := by
  refine ⟨h1, ?_, .inl h2⟩
  unfold goB
  rw [List.Nodup, List.pairwise_iff_getElem]
  intro s t hs ht hst e
  simp at hs ht e
  have : itB bs b (s + (i - t)) = itB bs b i := by
    rw [itB_add, e, ← itB_add]
    congr 1
    omega
  rw [← this] at h2
  rw [h1 _ (by omega)] at h2
  cases h2
theorem stp_eq (s : Stop bs b i) : stp? bs b = i := (stp_ok b).uniq s
theorem halt_thr (h1 : ∀ t, t < i → empB bs (itB bs b t) = true) (h2 : empB bs (itB bs b i) = false) : thr bs b = itB bs b i ∧ lft bs b = i := by
  have e := stp_eq (stop_halt h1 h2)
  have h3 : itB bs b i ∉ goB bs b i := fun h => by
    obtain ⟨t, ht, et⟩ := goB_mem.mp h
    have := h1 t ht
    rw [et, h2] at this
    cases this
  unfold thr lft
  rw [e, if_neg h3, if_neg h3]
  exact ⟨rfl, rfl⟩
theorem thr_not (h : empB bs b = false) : thr bs b = b ∧ lft bs b = 0 := halt_thr (i := 0) (fun t ht => by omega) h
/-- either it comes to a block that is not empty, or to a ring -/
theorem halt_or (b : Nat) : (∃ i, (∀ t, t < i → empB bs (itB bs b t) = true) ∧ empB bs (itB bs b i) = false) ∨ (∃ m j, Stop bs b m ∧ j < m ∧ itB bs b j = itB bs b m ∧ empB bs (itB bs b m) = true ∧ itB bs b m ∈ goB bs b m) := by
  have s := stp_ok (bs := bs) b
  by_cases h : empB bs (itB bs b (stp? bs b)) = true
  · right
    rcases s.s with h1 | h1
    · rw [h] at h1; cases h1
    · obtain ⟨t, ht, et⟩ := goB_mem.mp h1
      exact ⟨_, t, s, ht, et, h, h1⟩
  · exact .inl ⟨_, s.e, by simpa using h⟩
structure Ring (bs : List Blk) (b m j : Nat) : Prop where
  s : Stop bs b m
  jm : j < m
  e : itB bs b j = itB bs b m
theorem Ring.per (r : Ring bs b i j) : ∀ t, j ≤ t → itB bs b (t + (i - j)) = itB bs b t := fun t ht => by
  have h1 : itB bs b (t + (i - j)) = itB bs (itB bs b i) (t - j) := by rw [← itB_add]; congr 1; have := r.jm; omega
  rw [h1, ← r.e, ← itB_add]
  congr 1
  omega
theorem Ring.perk (r : Ring bs b i j) (t : Nat) (ht : j ≤ t) : ∀ k, itB bs b (t + (i - j) * k) = itB bs b t
  | 0 => rfl
  | k + 1 => by
    rw [Nat.mul_succ, ← Nat.add_assoc, r.per _ (by omega), r.perk t ht k]
theorem Ring.all (r : Ring bs b i j) : Rng bs b := fun t => by
  have jm := r.jm
  by_cases h : t < i
  · exact r.s.e t h
  · have e : itB bs b t = itB bs b (j + (t - j) % (i - j)) := by
      have h1 := r.perk (j + (t - j) % (i - j)) (by omega) ((t - j) / (i - j))
      rw [← h1]
      congr 1
      have := Nat.mod_add_div (t - j) (i - j)
      omega
    rw [e]
    have := Nat.mod_lt (t - j) (show 0 < i - j by omega)
    exact r.s.e _ (by omega)
theorem Ring.idx (r : Ring bs b i j) : (goB bs b i).idxOf (itB bs b i) = j := by
  have jm := r.jm
  have hn := r.s.n
  have hl : (goB bs b i).length = i := by simp [goB]
  have hj : (goB bs b i)[j]'(by omega) = itB bs b i := by simp [goB, r.e]
  rw [← hj]
  exact List.Nodup.idxOf_getElem hn j (by omega)
theorem Ring.mem (r : Ring bs b i j) {y : Nat} : y ∈ (goB bs b i).drop j ↔ Rg bs b y := by
  have jm := r.jm
  have il := r.s.len
  have hd : (goB bs b i).drop j = (List.range (i - j)).map fun t => itB bs b (j + t) := by
    apply List.ext_getElem
    · simp [goB]
    · intro n h1 h2
      simp [goB]
  rw [hd, List.mem_map]
  constructor
  · rintro ⟨t, ht, rfl⟩
    refine ⟨j + t + (i - j) * bs.length, ?_, r.perk _ (by omega) _⟩
    have : 1 * bs.length ≤ (i - j) * bs.length := Nat.mul_le_mul_right _ (by omega)
    omega
  · rintro ⟨t, ht, rfl⟩
    refine ⟨(t - j) % (i - j), ?_, ?_⟩
    · rw [List.mem_range]; exact Nat.mod_lt _ (by omega)
    · have h1 := r.perk (j + (t - j) % (i - j)) (by omega) ((t - j) / (i - j))
      rw [← h1]
      congr 1
      have := Nat.mod_add_div (t - j) (i - j)
      omega
theorem Ring.at (r : Ring bs b i j) (t : Nat) : Rg bs b (itB bs b t) ↔ j ≤ t := by
  have jm := r.jm
  constructor
  · intro h
    rw [← r.mem] at h
    rw [List.mem_iff_getElem] at h
    obtain ⟨s, hs, e⟩ := h
    simp [goB] at hs e
    by_cases c : j ≤ t
    · exact c
    · have := List.pairwise_iff_getElem.mp r.s.n t (j + s) (by simp [goB]; omega) (by simp [goB]; omega) (by omega)
      simp [goB] at this
      exact absurd e.symm this
  · intro h
    rw [← r.mem]
    by_cases c : t < i
    · rw [List.mem_iff_getElem]
      exact ⟨t - j, by simp [goB]; omega, by simp [goB, show j + (t - j) = t by omega]⟩
    · rw [r.mem]
      exact ⟨t + (i - j) * bs.length, by
        have : 1 * bs.length ≤ (i - j) * bs.length := Nat.mul_le_mul_right _ (by omega)
        omega, r.perk _ h _⟩
theorem Ring.thr (r : Ring bs b i j) : thr bs b = mnN ((goB bs b i).drop j) ∧ lft bs b = j := by
  have e := stp_eq r.s
  have h : itB bs b i ∈ goB bs b i := goB_mem.mpr ⟨j, r.jm, r.e⟩
  unfold Cor.thr lft
  rw [e, if_pos h, if_pos h, r.idx]
  exact ⟨rfl, rfl⟩
theorem Ring.ne (r : Ring bs b i j) : (goB bs b i).drop j ≠ [] := fun h => by
  have :=
      congrArg List.length h
  simp [goB] at this
  have := r.jm
  omega
theorem Ring.least (r : Ring bs b i j) : Rg bs b (Cor.thr bs b) ∧ ∀ y, Rg bs b y → Cor.thr bs b ≤ y := by
  rw [r.thr.1]
  exact ⟨r.mem.mp (mnN_mem r.ne), fun y hy => mnN_le (r.mem.mpr hy)⟩
theorem Ring.move (r : Ring bs b i j) (t : Nat) {y : Nat} : Rg bs (itB bs b t) y ↔ Rg bs b y := by
  have jm := r.jm
  have il := r.s.len
  constructor
  · rintro ⟨s, hs, rfl⟩
    exact ⟨t + s, by omega, itB_add _ _ _ _⟩
  · rintro ⟨s, hs, rfl⟩
    have : 1 * (t + bs.length) ≤ (i - j) * (t + bs.length) := Nat.mul_le_mul_right _ (by omega)
    refine ⟨s + (i - j) * (t + bs.length) - t, by omega, ?_⟩
    rw [← itB_add, show t + (s + (i - j) * (t + bs.length) - t) = s + (i - j) * (t + bs.length) by omega]
    exact r.perk s (by omega) _
theorem ring_or (b : Nat) : (∃ i, (∀ t, t < i → empB bs (itB bs b t) = true) ∧ empB bs (itB bs b i) = false) ∨ ∃ m j, Ring bs b m j := by
  rcases halt_or (bs := bs) b with h | ⟨m, j, s, jm, e, _, _⟩
  · exact .inl h
  · exact .inr ⟨m, j, s, jm, e⟩
theorem Ring.all_ring (h : Rng bs b) : ∃ m j, Ring bs b m j := by
  rcases ring_or (bs := bs) b with ⟨i, h1, h2⟩ | h3
  · rw [h i] at h2; cases h2
  · exact h3
theorem Ring.move_ring (r : Ring bs b i j) (t : Nat) : ∃ m k, Ring bs (itB bs b t) m k := Ring.all_ring fun s => by rw [← itB_add]; exact r.all _
theorem Ring.move_thr (r : Ring bs b i j) (t : Nat) : Cor.thr bs (itB bs b t) = Cor.thr bs b := by
  obtain ⟨m, k, r2⟩ := r.move_ring t
  obtain ⟨a1, a2⟩ := r.least
  obtain ⟨b1, b2⟩ := r2.least
  have h1 := a2 _ ((r.move t).mp b1)
  have h2 := b2 _ ((r.move t).mpr a1)
  omega
/-- the next block has the same thread -/
theorem thr_next (h : empB bs b = true) : thr bs (nxB bs b) = thr bs b ∧ (0 < lft bs b → lft bs (nxB bs b) + 1 = lft bs b) := by
  rcases ring_or (bs := bs) b with ⟨i, h1, h2⟩ | ⟨m, j, r⟩
  · obtain ⟨e1, e2⟩ := halt_thr h1 h2
    obtain ⟨k, rfl⟩ : ∃ k, i = k + 1 := by
      cases i with
      | zero => rw [show itB bs b 0 = b from rfl, h] at h2; cases h2
      | succ k => exact ⟨k, rfl⟩
    rw [itB_s] at h2
    obtain ⟨f1, f2⟩ := halt_thr (b := nxB bs b) (i := k) (fun t ht => by rw [← itB_s]; exact h1 (t + 1) (by omega)) h2
    rw [e1, e2, f1, f2, itB_s]
    exact ⟨rfl, fun _ => rfl⟩
  · refine ⟨r.move_thr 1, fun hp => ?_⟩
    obtain ⟨m2, k, r2⟩ := r.move_ring 1
    have e1 := r.thr.2
    have e2 : lft bs (nxB bs b) = k := r2.thr.2
    rw [e1] at hp
    rw [e1, e2]
    have c1 := r2.at k
    have c2 := r.at (k + 1)
    have c3 := r2.at (j - 1)
    have c4 := r.at j
    have i1 : itB bs (itB bs b 1) k = itB bs b (k + 1) := by rw [← itB_add]; congr 1; omega
    have i2 : itB bs (itB bs b 1) (j - 1) = itB bs b j := by rw [← itB_add]; congr 1; omega
    rw [i1, r.move 1] at c1
    rw [i2, r.move 1] at c3
    have d1 := c2.mp (c1.mpr (Nat.le_refl _))
    have d2 := c3.mp (c4.mpr (Nat.le_refl _))
    omega
theorem thr_it (b : Nat) : ∃ t, thr bs b = itB bs b t ∧ ∀ s, s < t → empB bs (itB bs b s) = true := by
  rcases ring_or (bs := bs) b with ⟨i, h1, h2⟩ | ⟨m, j, r⟩
  · exact ⟨i, (halt_thr h1 h2).1, h1⟩
  · obtain ⟨t, ht, e⟩ := r.least.1
    exact ⟨t, e.symm, fun s _ => r.all s⟩
theorem thr_thr (b : Nat) : thr bs (thr bs b) = thr bs b := by
  rcases ring_or (bs := bs) b with ⟨i, h1, h2⟩ | ⟨m, j, r⟩
  · rw [(halt_thr h1 h2).1]
    exact (thr_not h2).1
  · obtain ⟨t, ht, e⟩ := r.least.1
    have h1 := r.move_thr t
    rw [e] at h1
    exact h1
/-- on a ring nothing is left, and its least is empty -/
theorem thr_ring (h : empB bs b = true) (h0 : lft bs b = 0) : empB bs (thr bs b) = true := by
  rcases ring_or (bs := bs) b with ⟨i, h1, h2⟩ | ⟨m, j, r⟩
  · rw [(halt_thr h1 h2).2] at h0
    subst h0
    rw [show itB bs b 0 = b from rfl, h] at h2
    cases h2
  · obtain ⟨t, ht, e⟩ := r.least.1
    rw [← e]
    exact r.all t
end
theorem thr_lt {bs : List Blk} (nx : Nx bs) {b : Nat} (h : b < bs.length) : thr bs b < bs.length := by
  obtain ⟨t, e, h1⟩ := thr_it (bs := bs) b
  rw [e]
  cases t with
  | zero => exact h
  | succ t => exact nx.lt _ (h1 t (by omega))
end Cor
end Py
namespace Py
open PySem (Str)
namespace Cor
/-! ### the threaded program -/
def thJ (bs : List Blk) : Jmp → Jmp
  | .goto b => .goto (thr bs b)
  | .halt => .halt
  | .test e b c => .test e (thr bs b) (thr bs c)
def thB (bs : List Blk) (b : Blk) : Blk := (b.1, thJ bs b.2)
def thP (p : Pgm) : Pgm := ⟨p.many, p.bs.map (thB p.bs)⟩
theorem pok_nx {half k : Nat} {p : Pgm} (ok : POk half k p) : Nx p.bs := ⟨fun b h => by
  unfold empB at h
  unfold nxB
  cases e : p.bs[b]? with
  | none =>
      rw [e] at h; cases h
  | some x =>
    have bo := (ok.b x (List.mem_of_getElem? e)).j
    rw [e] at h
    obtain ⟨x1, x2⟩ := x
    cases x2 with
    | goto c => exact bo
    | halt => cases x1 <;> cases h
    | test e b c => cases x1 <;> cases h⟩
theorem thP_ok {half k : Nat} {p : Pgm} (ok : POk half k p) : POk half k (thP p) := by
  have nx := pok_nx ok
  refine ⟨fun b hb => ?_, by simpa [thP] using ok.s, by simpa [thP] using ok.n, ok.k⟩
  simp only [thP, List.mem_map] at hb
  obtain ⟨b0, h0, rfl⟩ := hb
  have bo := ok.b b0 h0
  have jo := bo.j
  refine ⟨bo.c, ?_, bo.n⟩
  simp only [thB]
  cases ej : b0.2 with
  | halt => trivial
  | goto c =>
    rw [ej] at jo
    simp only [Jmp.Ok] at jo
    simp only [thJ, Jmp.Ok, thP, List.length_map]
    exact thr_lt nx jo
  | test e b c =>
    rw [ej] at jo
    simp only [thJ, thP, List.length_map]
    exact ⟨jo.1, thr_lt nx jo.2.1, thr_lt nx jo.2.2⟩
theorem emp_th (p : Pgm) (b : Nat) : empB (thP p).bs b = empB p.bs b := by
  unfold empB thP
  simp only [List.getElem?_map]
  cases p.bs[b]? with
  | none => rfl
  | some x =>
    obtain ⟨x1, x2⟩ := x
    cases x1 <;> cases x2 <;> rfl
theorem nx_th {p : Pgm} {b : Nat} (h : empB p.bs b = true) : nxB (thP p).bs b = thr p.bs (nxB p.bs b) := by
  unfold empB at h
  unfold nxB
  simp only [thP, List.getElem?_map]
  cases e : p.bs[b]? with
  | none =>
      rw [e] at h; cases h
  | some x =>
    rw [e] at h
    obtain ⟨x1, x2⟩ := x
    cases x2 with
    | goto c => rfl
    | halt => cases x1 <;> cases h
    | test e b c => cases x1 <;> cases h
/-- threaded once more it stays -/
theorem thr_th (p : Pgm) (b : Nat) : thr (thP p).bs (thr p.bs b) = thr p.bs b := by
  by_cases h : empB p.bs (thr p.bs b) = true
  · have h1 : empB (thP p).bs (thr p.bs b) = true := by rw [emp_th]; exact h
    have h2 : nxB (thP p).bs (thr p.bs b) = thr p.bs b := by rw [nx_th h, (thr_next h).1, thr_thr]
    have h3 : ∀ i, itB (thP p).bs (thr p.bs b) i = thr p.bs b := by
      intro i
      induction i with
      | zero => rfl
      | succ i ih => show nxB _ (itB _ _ i) = _; rw [ih, h2]
    obtain ⟨m, j, r⟩ := Ring.all_ring (bs := (thP p).bs) (b := thr p.bs b) fun i => by rw [h3]; exact h1
    obtain ⟨t, ht, e⟩ := r.least.1
    rw [← e, h3]
  · exact (thr_not (by rw [emp_th]; simpa using h)).1
theorem thP_thP (p : Pgm) : thP (thP p) = thP p := by
  have key : ∀ b : Blk, thB (thP p).bs (thB p.bs b) = thB p.bs b := fun b => by
    obtain ⟨x1, x2⟩ := b
    cases x2 with
    | goto c => simp only [thB, thJ]; rw [thr_th]
    | halt => rfl
    | test e b c => simp only [thB, thJ]; rw [thr_th, thr_th]
  show (⟨p.many, (thP p).bs.map (thB (thP p).bs)⟩ : Pgm) = ⟨p.many, p.bs.map (thB p.bs)⟩
  congr 1
  show (p.bs.map (thB p.bs)).map _ = _
  rw [List.map_map]
  exact List.map_congr_left fun b _ => key b
/-! ### what is seen of it, and what is left -/
def seeS (p : Pgm) (s : Stt) : Stt := if empB p.bs s.b then ⟨thr p.bs s.b, s.p, s.vs, s.cs, s.ls⟩ else s
def lefS (p : Pgm) (s : Stt) : Nat := if s.b < p.bs.length then lft p.bs s.b else 0
theorem seeS_at (p : Pgm) (b q : Nat) (vs : List Nat) (cs : Cs) (ls : List Nat) : seeS p ⟨b, q, vs, cs, ls⟩ = ⟨thr p.bs b, q, vs, cs, ls⟩ := by
  unfold seeS
  by_cases h : empB p.bs b = true
  · rw [if_pos h]
  · rw [if_neg h, (thr_not (by simpa using h)).1]
theorem seeS_not {p : Pgm} {s : Stt} (h : empB p.bs s.b = false) : seeS p s = s := by unfold seeS; rw [h]; rfl
theorem emp_blk {bs : List Blk} {b : Nat} (h : empB bs b = true) : bs[b]? = some ([], .goto (nxB bs b)) := by
  unfold empB at h
  unfold nxB
  cases e : bs[b]? with
  | none =>
      rw [e] at h; cases h
  | some x =>
    rw [e] at h
    obtain ⟨x1, x2⟩ := x
    cases x2 with
    | goto c =>
      cases x1 with
      | nil => rfl
      | cons y r => cases h
    | halt => cases x1 <;> cases h
    | test e b c => cases x1 <;> cases h
theorem emp_end {bs : List Blk} {b : Nat} (h : bs.length ≤ b) : empB bs b = false := by
  unfold empB
  rw [List.getElem?_eq_none h]
theorem step_th {half : Nat} {p : Pgm} {s : Stt} {heard : Nat} (hp : empB p.bs s.b = true → s.p = 0) :
    seeS p (stepS half p s heard) = stepS half (thP p) (seeS p s) heard ∨ (seeS p (stepS half p s heard) = seeS p s ∧ lefS p (stepS half p s heard) < lefS p s) := by
  by_cases h : empB p.bs s.b = true
  · have eb := emp_blk h
    have e1 : stepS half p s heard = ⟨nxB p.bs s.b, 0, s.vs, s.cs, s.ls⟩ := by
      rw [stepS_jmp eb (by rw [hp h]; rfl)]
      rfl
    have e2 : seeS p s = ⟨thr p.bs s.b, 0, s.vs, s.cs, s.ls⟩ := by unfold seeS; rw [if_pos h, hp h]
    obtain ⟨t1, t2⟩ := thr_next h
    rw [e1, e2, seeS_at, t1]
    by_cases z : lft p.bs s.b = 0
    · left
      have h3 := thr_ring h z
      have h4 : empB (thP p).bs (thr p.bs s.b) = true := by rw [emp_th]; exact h3
      have eb2 := emp_blk h4
      rw [stepS_jmp (s := ⟨thr p.bs s.b, 0, s.vs, s.cs, s.ls⟩) eb2 rfl]
      have : nxB (thP p).bs (thr p.bs s.b) = thr p.bs s.b := by rw [nx_th h3, (thr_next h3).1, thr_thr]
      simp only [jmpS, this]
    · right
      refine ⟨rfl, ?_⟩
      have := t2 (by omega)
      have hl := emp_lt h
      unfold lefS
      rw [if_pos hl]
      simp only
      split <;> omega
  · left
    have h' : empB p.bs s.b = false := by simpa using h
    rw [seeS_not h']
    cases eb : p.bs[s.b]? with
    | none =>
      rw [stepS_end eb, stepS_end (by simp [thP, eb]), seeS_not h']
    | some blk =>
      have eb2 : (thP p).bs[s.b]? = some (thB p.bs blk) := by simp [thP, eb]
      have hn : (thP p).bs.length = p.bs.length := by simp [thP]
      cases ec : blk.1[s.p]? with
      | some c =>
        rw [stepS_cmd eb ec, stepS_cmd (blk := thB p.bs blk) eb2 ec, hn]
        refine seeS_not ?_
        cases c with
        | hear v => exact h'
        | shw e => exact h'
        | set v e => exact h'
        | pair v e f =>
          simp only [cmdS, pairS]
          cases fidx s.cs with
          | some j => exact h'
          | none =>
            simp only
            split
            · exact emp_end (Nat.le_refl _)
            · exact h'
      | none =>
        rw [stepS_jmp eb ec, stepS_jmp (blk := thB p.bs blk) eb2 ec]
        simp only [thB]
        cases ej : blk.2 with
        | halt => exact seeS_not h'
        | goto c => simp only [jmpS, thJ]; rw [seeS_at]
        | test e b c =>
          simp only [jmpS, thJ]
          rw [seeS_at]
          congr 1
          split <;> rfl
end Cor
end Py
namespace Py
open PySem (Str)
namespace Cor
def c_is_core_empty : Fn := ⟨2, 4, (.cons (.asg (.tp (.cons (.nm 2) (.cons (.nm 3) .nil))) (.ix (.ix (.var 0) (.lit (.int 1))) (.var 1))) (.cons (.ret (.and (.cmp .ne (.var 1) (.lit (.int 0))) (.and (.cmp .eq (.b1 .len (.var 2)) (.lit (.int 0))) (.cmp .eq (.ix (.var 3) (.lit (.int 0))) (.lit (.str "goto")))))) .nil))⟩
def c_way_over_empty : Fn := ⟨2, 3, (.cons (.asg (.nm 2) (.lst .nil)) (.cons (.whl (.and (.call "is_core_empty" (.cons (.var 0) (.cons (.var 1) .nil))) (.cmp .nin (.var 1) (.var 2))) (.cons (.expr (.mt .append (.var 2) (.cons (.var 1) .nil))) (.cons (.asg (.nm 1) (.ix (.ix (.ix (.ix (.var 0) (.lit (.int 1))) (.var 1)) (.lit (.int 1))) (.lit (.int 1)))) .nil))) (.cons (.ret (.tup (.cons (.var 2) (.cons (.var 1) .nil)))) .nil)))⟩
def c_core_thread : Fn := ⟨2, 4, (.cons (.asg (.tp (.cons (.nm 2) (.cons (.nm 3) .nil))) (.call "way_over_empty" (.cons (.var 0) (.cons (.var 1) .nil)))) (.cons (.ifs (.cmp .inn (.var 3) (.var 2)) (.cons (.ret (.b1 .min (.sl (.var 2) (.so (.mt .index (.var 2) (.cons (.var 3) .nil))) .no))) .nil) .nil) (.cons (.ret (.var 3)) .nil)))⟩
def c_threaded_jump : Fn := ⟨2, 5, (.cons (.asg (.nm 2) (.b1 .tup (.comp (.nm 4) (.seq (.call "core_goes_to" (.cons (.var 1) .nil))) [3, 4] (.call "core_thread" (.cons (.var 0) (.cons (.var 4) .nil)))))) (.cons (.ret (.bin .add (.sl (.var 1) .no (.so (.bin .sub (.b1 .len (.var 1)) (.b1 .len (.var 2))))) (.var 2))) .nil))⟩
def c_core_threaded : Fn := ⟨1, 4, (.cons (.ret (.tup (.cons (.ix (.var 0) (.lit (.int 0))) (.cons (.b1 .tup (.comp (.tp (.cons (.nm 2) (.cons (.nm 3) .nil))) (.seq (.ix (.var 0) (.lit (.int 1)))) [1, 2, 3] (.tup (.cons (.var 2) (.cons (.call "threaded_jump" (.cons (.var 0) (.cons (.var 3) .nil))) .nil))))) .nil)))) .nil)⟩
def c_seen_threaded : Fn := ⟨3, 4, (.cons (.asg (.nm 3) (.ix (.var 2) (.lit (.int 0)))) (.cons (.ifs (.or (.cmp .eq (.var 3) (.b1 .len (.ix (.var 0) (.lit (.int 1))))) (.not (.call "is_core_empty" (.cons (.var 0) (.cons (.var 3) .nil))))) (.cons (.ret (.var 2)) .nil) .nil) (.cons (.ret (.bin .add (.tup (.cons (.call "core_thread" (.cons (.var 0) (.cons (.var 3) .nil))) .nil)) (.sl (.var 2) (.so (.lit (.int 1))) .no))) .nil)))⟩
def c_left_threaded : Fn := ⟨3, 6, (.cons (.asg (.nm 3) (.ix (.var 2) (.lit (.int 0)))) (.cons (.ifs (.cmp .eq (.var 3) (.b1 .len (.ix (.var 0) (.lit (.int 1))))) (.cons (.ret (.lit (.int 0))) .nil) .nil) (.cons (.asg (.tp (.cons (.nm 4) (.cons (.nm 5) .nil))) (.call "way_over_empty" (.cons (.var 0) (.cons (.var 3) .nil)))) (.cons (.ret (.ite (.cmp .nin (.var 5) (.var 4)) (.b1 .len (.var 4)) (.mt .index (.var 4) (.cons (.var 5) .nil)))) .nil))))⟩
def c_core_reached : Fn := ⟨1, 4, (.cons (.asg (.nm 1) (.lst (.cons (.lit (.int 0)) .nil))) (.cons (.asg (.nm 2) (.lit (.int 0))) (.cons (.whl (.cmp .lt (.var 2) (.b1 .len (.var 1))) (.cons (.for_ (.nm 3) (.seq (.call "core_goes_to" (.cons (.ix (.ix (.ix (.var 0) (.lit (.int 1))) (.ix (.var 1) (.var 2))) (.lit (.int 1))) .nil))) (.cons (.ifs (.cmp .nin (.var 3) (.var 1)) (.cons (.expr (.mt .append (.var 1) (.cons (.var 3) .nil))) .nil) .nil) .nil)) (.cons (.aug 2 .add (.lit (.int 1))) .nil))) (.cons (.ret (.b1 .tup (.b1 .sorted (.var 1)))) .nil))))⟩
structure TH (P : Prog) : Prop where
  em : P.fn "is_core_empty" = some c_is_core_empty
  wy : P.fn "way_over_empty" = some c_way_over_empty
  th : P.fn "core_thread" = some c_core_thread
  gt : P.fn "core_goes_to" = some c_core_goes_to
  tj : P.fn "threaded_jump" = some c_threaded_jump
  td : P.fn "core_threaded" = some c_core_threaded
  sn : P.fn "seen_threaded" = some c_seen_threaded
  lf : P.fn "left_threaded" = some c_left_threaded
theorem Stop.go {bs : List Blk} {b i j : Nat} (s : Stop bs b i) (h : j < i) : empB bs (itB bs b j) = true ∧ itB bs b j ∉ goB bs b j := by
  refine ⟨s.e j h, fun hm => ?_⟩
  obtain ⟨t, ht, e⟩ := goB_mem.mp hm
  have := List.pairwise_iff_getElem.mp s.n t j (by simp [goB]; omega) (by simp [goB]; omega) ht
  simp [goB] at this
  exact this e
theorem itB_lt {bs : List Blk} (nx : Nx bs) {b : Nat} (hb : b < bs.length) : ∀ {i : Nat}, (∀ t, t < i → empB bs (itB bs b t) = true) → itB bs b i < bs.length
  | 0, _ => hb
  | i + 1, h => nx.lt _ (h i (by omega))
theorem idx_nL : ∀ {xs : List Nat} {x : Nat}, x ∈ xs → idx (nL xs) (.int x) = some (xs.idxOf x)
  | [], _, h => absurd h (by simp)
  | y :: r, x, h => by
    have e0 : ∀ z : Nat, eqv (.int (z : Int)) (.int (x : Int)) = decide (z = x) := fun z => by
      show ((z : Int) == (x : Int)) = _
      by_cases h : z = x
      · subst h; simp
      · have : ¬ (z : Int) = (x : Int) := by omega
        simp [h, this]
    unfold idx
    show List.findIdx? _ (D.int y :: nL r) = _
    rw [List.findIdx?_cons, e0, List.idxOf_cons]
    by_cases z : y = x
    · subst z; simp
    · have z2 : (y == x) = false := by simpa using z
      have h2 : x ∈ r := by
        rcases List.mem_cons.mp h with e | h2
        · exact absurd e.symm z
        · exact h2
      have ih := idx_nL h2
      unfold idx at ih
      simp only [z, decide_false, z2]
      rw [ih]
      rfl
theorem m_idxl {a : Nat} {xs : List Nat} {x : Nat} {h : AH} (ha : h a = some (.lst (nL xs))) (hx : x ∈ xs) : mtD .index (.v (.loc a)) [.int x] h = some (.v (.int (xs.idxOf x : Nat)), h) := by
  unfold mtD
  simp only [s_locV ha]
  have e : (nL xs).all (pu 40) = true := by rw [← nL_iL]; exact iL_pu _
  rw [e, idx_nL hx]
  rfl
theorem q_idxl {a : Nat} {xs : List D} {h : AH} (ha : h a = some (.lst xs)) : mtChk .index (.v (.loc a)) h = true := by simp [mtChk, s_locV ha]
theorem min_fold (x : Nat) : ∀ (r : List Nat), (r.map fun (x : Nat) => (x : Int)).foldl (fun a b => if b < a then b else a) (x : Int) = (mnN (x :: r) : Nat) := by
  intro r
  induction r generalizing x with
  | nil => rfl
  | cons y r ih =>
    rw [List.map_cons, List.foldl_cons]
    have e : (if (y : Int) < (x : Int) then (y : Int) else (x : Int)) = ((min x y : Nat) : Int) := by split <;> omega
    rw [e, ih]
    cases r with
    | nil => simp [mnN]
    | cons z r => simp only [mnN]; omega
theorem n_mino {x : Nat} {r : List Nat} {h : AH} : b1D .min (.o (.lst (nL (x :: r)))) h = some (.v (.int (mnN (x :: r)))) := by
  show ((intsL (nL (x :: r))).bind minI).map _ = _
  rw [← nL_iL, intsL_iL, Option.bind_some]
  show (some ((r.map fun (x : Nat) => (x : Int)).foldl _ (x : Int))).map _ = _
  rw [min_fold]
  rfl
section
variable {P : Prog} {L : Nat} {h : AH} {Q : D → AH → Prop} {X : Xc} {p : Pgm} {half k : Nat}
theorem blk_at {b : Nat} (hb : b < p.bs.length) : atI (p.bs.map bD) (b : Int) = some (bD p.bs[b]) := atN (by simp [List.getElem?_eq_getElem hb])
theorem empB_0 {bs : List Blk} : empB bs 0 = false := by
  unfold empB
  cases bs[0]? with
  | none => rfl
  | some x => obtain ⟨c, j⟩ := x; cases c <;> cases j <;> rfl
theorem empB_c {bs : List Blk} {b : Nat} {x : Cmd} {r : List Cmd} {j : Jmp} (e : bs[b]? = some (x :: r, j)) : empB bs b = false := by unfold empB; rw [e]
theorem empB_g {bs : List Blk} {b c : Nat} (e : bs[b]? = some ([], .goto c)) (z : b ≠ 0) : empB bs b = true := by unfold empB; rw [e]; simp [z]
theorem empB_h {bs : List Blk} {b : Nat} (e : bs[b]? = some ([], .halt)) : empB bs b = false := by unfold empB; rw [e]
theorem empB_t {bs : List Blk} {b c d : Nat} {x : CE} (e : bs[b]? = some ([], .test x c d)) : empB bs b = false := by unfold empB; rw [e]
theorem emp_i (hL : 1 ≤ L) (T : TH P) {b : Nat} (hb : b < p.bs.length) (q : Q (.bl (empB p.bs b)) h) : wC P L "is_core_empty" [p.d, .int b] h Q X := by
  obtain ⟨n, rfl⟩ : ∃ n, L = n + 1 := ⟨L - 1, by omega⟩
  have eb : p.bs[b]? = some p.bs[b] := List.getElem?_eq_getElem hb
  have ea := blk_at (p := p) hb
  generalize p.bs[b] = blk at *
  obtain ⟨c, j⟩ := blk
  refine wC_i T.em rfl ?_
  by_cases z : b = 0
  · subst z
    rw [empB_0] at q
    have ea' : atI (p.bs.map bD) 0 = some (bD (c, j)) := ea
    simp [c_is_core_empty, List.replicate, ea']
    exact someQ_i q
  · have z' : ¬ (b : Int) = 0 := by omega
    cases c with
    | cons x r =>
      rw [empB_c eb] at q
      have l : ¬ ((r.length : Int) + 1 = 0) := by omega
      simp [c_is_core_empty, List.replicate, ea, z', z, l]
      exact someQ_i q
    | nil =>
      cases j with
      | goto c => rw [empB_g eb z] at q; simp [c_is_core_empty, List.replicate, ea, z', z, Jmp.d, n14]; exact someQ_i q
      | halt => rw [empB_h eb] at q; simp [c_is_core_empty, List.replicate, ea, z', z, Jmp.d, n14]; exact someQ_i q
      | test e c d => rw [empB_t eb] at q; simp [c_is_core_empty, List.replicate, ea, z', z, Jmp.d, n14]; exact someQ_i q
theorem way_i (hL : 2 ≤ L) (T : TH P) (nx : Nx p.bs) {b : Nat} (hb : b < p.bs.length) (hn : p.bs.length ≤ 1000) (q : ∀ a h', Sub h h' → h a = none → h' a = some (.lst (nL (goB p.bs b (stp? p.bs b)))) → Q (.tup [.loc a, .int (itB p.bs b (stp? p.bs b))]) h') : wC P L "way_over_empty" [p.d, .int b] h Q X := by
  obtain ⟨n, rfl⟩ : ∃ n, L = n + 1 := ⟨L - 1, by omega⟩
  have s := stp_ok (bs := p.bs) b
  generalize stp? p.bs b = i at *
  have il := s.len
  refine wC_i T.wy rfl ?_
  simp [-v_rB, c_way_over_empty, List.replicate]
  intro a na
  rw [v_rB]
  simp only [v_cons]
  refine whl_i (fun m env h' => ∃ j, m = i - j ∧ j ≤ i ∧ Sub h h' ∧ h' a = some (.lst (nL (goB p.bs b j))) ∧ env = [some p.d, some (.int (itB p.bs b j)), some (.loc a)]) i ⟨0, rfl, by omega, sub_put na, by rw [put_self]; rfl, rfl⟩ ?_
  rintro m env h' N ⟨j, em, hj, sb, ha, rfl⟩ hN
  have hlt : itB p.bs b j < p.bs.length := itB_lt nx hb fun t ht => s.e t (by omega)
  simp [-v_rB]
  refine emp_i (by omega) T hlt ?_
  rcases Nat.lt_or_eq_of_le hj with hj | rfl
  · obtain ⟨g1, g2⟩ := s.go hj
    have cap : (nL (goB p.bs b j)).length < 16777216 := by rw [nL_len]; simp [goB]; omega
    have eb := emp_blk g1
    simp [-v_rB, g1, k_ninNl ha, g2, m_app ha cap, q_app ha]
    rw [v_rB]
    have ea : atI (p.bs.map bD) (itB p.bs b j : Int) = some (bD ([], .goto (nxB p.bs (itB p.bs b j)))) := atN (by simp [eb])
    simp [ea, Jmp.d]
    refine hN (i - (j + 1)) _ _ (by omega) ⟨j + 1, rfl, hj, sb.put na, ?_, rfl⟩
    rw [put_self, goB_s]
    simp [nL]
  · by_cases g1 : empB p.bs (itB p.bs b j) = true
    · have g2 : itB p.bs b j ∈ goB p.bs b j := by
        rcases s.s with h1 | h1
        · rw [g1] at h1; cases h1
        · exact h1
      simp [g1, k_ninNl ha, g2]
      exact someQ_i (q a h' sb na ha)
    · simp [g1]
      exact someQ_i (q a h' sb na ha)
theorem thread_i (hL : 3 ≤ L) (T : TH P) (nx : Nx p.bs) {b : Nat} (hb : b < p.bs.length) (hn : p.bs.length ≤ 1000) (q : ∀ h', Sub h h' → Q (.int (thr p.bs b)) h') : wC P L "core_thread" [p.d, .int b] h Q X := by
  obtain ⟨n, rfl⟩ : ∃ n, L = n + 1 := ⟨L - 1, by omega⟩
  refine wC_i T.th rfl ?_
  simp [-v_rB, c_core_thread, List.replicate]
  refine way_i (by omega) T nx hb hn fun a h' s na ha => ?_
  unfold thr at q
  have il := (stp_ok (bs := p.bs) b).len
  have gl : (goB p.bs b (stp? p.bs b)).length = stp? p.bs b := by simp [goB]
  generalize itB p.bs b (stp? p.bs b) = last at *
  generalize goB p.bs b (stp? p.bs b) = gone at *
  simp [-v_rB]
  rw [v_rB]
  by_cases z : last ∈ gone
  · rw [if_pos z] at q
    have hi := List.idxOf_lt_length_of_mem z
    have hd : gone.drop (gone.idxOf last) ≠ [] := fun e => by
      have := congrArg List.length e
      simp at this
      omega
    have e1 : cut (nL gone) (some (gone.idxOf last : Nat)) none = nL (gone.drop (gone.idxOf last)) := by
      rw [cut_drop (by rw [nL_len]; omega)]
      simp [nL]
    simp [k_inNl ha, z, ha, m_idxl ha z, q_idxl ha, e1]
    generalize gone.drop (gone.idxOf last) = ys at *
    cases ys with
    | nil => exact absurd rfl hd
    | cons y r =>
      simp [n_mino]
      exact someQ_i (q h' s)
  · rw [if_neg z] at q
    simp [k_inNl ha, z]
    exact someQ_i (q h' s)
end
end Cor
end Py
namespace Py
open PySem (Str)
namespace Cor
def Jmp.ws : Jmp → List Nat
  | .goto b => [b]
  | .halt => []
  | .test _ b c => [b, c]
theorem ws_lt {half many k size : Nat} {j : Jmp} (ok : j.Ok half many k size) : ∀ x ∈ j.ws, x < size := by
  cases j with
  | goto b => intro x hx; simp [Jmp.ws] at hx; subst hx; exact ok
  | halt => intro x hx; simp [Jmp.ws] at hx
  | test e b c =>
    intro x hx
    simp [Jmp.ws] at hx
    rcases hx with rfl | rfl
    · exact ok.2.1
    · exact ok.2.2
theorem bd_map (p : Pgm) : (thP p).d = .tup [.int p.many, .tup ((p.bs.map (thB p.bs)).map bD)] := rfl
section
variable {P : Prog} {L : Nat} {h : AH} {Q : D → AH → Prop} {X : Xc} {p : Pgm} {half k : Nat}
theorem goes_to_i (hL : 1 ≤ L) (T : TH P) {j : Jmp} (q : Q (.tup (nL j.ws)) h) : wC P L "core_goes_to" [j.d] h Q X := by
  obtain ⟨n, rfl⟩ : ∃ n, L = n + 1 := ⟨L - 1, by omega⟩
  refine wC_i T.gt rfl ?_
  cases j with
  | goto b => simp [c_core_goes_to, List.replicate, Jmp.d, n14]; exact someQ_i q
  | halt => simp [c_core_goes_to, List.replicate, Jmp.d, n14, n16]; exact someQ_i q
  | test e b c => simp [c_core_goes_to, List.replicate, Jmp.d, n14, n16]; exact someQ_i q
theorem tjump_i (hL : 4 ≤ L) (T : TH P) (nx : Nx p.bs) (hn : p.bs.length ≤ 1000) {j : Jmp} (hj : ∀ x ∈ j.ws, x < p.bs.length) (q : ∀ h', Sub h h' → Q (thJ p.bs j).d h') : wC P L "threaded_jump" [p.d, j.d] h Q X := by
  obtain ⟨n, rfl⟩ : ∃ n, L = n + 1 := ⟨L - 1, by omega⟩
  have wl : j.ws.length ≤ 2 := by cases j <;> simp [Jmp.ws]
  refine wC_i T.tj rfl ?_
  simp [-v_rB, c_threaded_jump, List.replicate]
  refine goes_to_i (by omega) T ?_
  try simp [-v_rB]
  refine comp_by (fun i acc h' => Sub h h' ∧ acc = nL ((j.ws.take i).map (thr p.bs))) ⟨sub_refl, rfl⟩ (fun _ _ _ _ _ => trivial) ?_ ?_
  · rintro i x acc h' N hx ⟨sb, rfl⟩ hN
    simp only [v_fixi] at hx
    rw [nL, List.getElem?_map, Option.map_eq_some_iff] at hx
    obtain ⟨y, hy, rfl⟩ := hx
    have hi := (List.getElem?_eq_some_iff.mp hy).1
    simp [wipe]
    refine thread_i (by omega) T nx (hj y (List.mem_of_getElem? hy)) hn fun h3 s3 => ?_
    try simp
    refine ⟨by omega, hN _ _ ⟨sb.trans s3, ?_⟩⟩
    rw [take_snoc hy]
    simp [nL]
  · rintro _ h' ⟨sb, rfl⟩
    simp only [v_fixi, nL_len, List.take_length]
    rw [v_rB]
    cases j with
    | goto b =>
      simp [Jmp.ws, nL, Jmp.d]
      rw [show cut [D.str (nm .goto), D.int (b : Int)] none (some 1) = [D.str (nm .goto)] from cut_take (k := 1) (by simp)]
      simp
      exact someQ_i (q h' sb)
    | halt =>
      simp [Jmp.ws, nL, Jmp.d]
      rw [show cut [D.str (nm .halt)] none (some 1) = [D.str (nm .halt)] from cut_take (k := 1) (by simp)]
      simp
      exact someQ_i (q h' sb)
    | test e b c =>
      simp [Jmp.ws, nL, Jmp.d]
      rw [show cut [D.str (nm .test), e.d, D.int (b : Int), D.int (c : Int)] none (some 2) = [D.str (nm .test), e.d] from cut_take (k := 2) (by simp)]
      simp
      exact someQ_i (q h' sb)
theorem threaded_i (hL : 5 ≤ L) (T : TH P) (ok : POk half k p) (q : ∀ h', Sub h h' → Q (thP p).d h') : wC P L "core_threaded" [p.d] h Q X := by
  obtain ⟨n, rfl⟩ : ∃ n, L = n + 1 := ⟨L - 1, by omega⟩
  have nx := pok_nx ok
  have hn := ok.n
  refine wC_i T.td rfl ?_
  simp [-v_rB, c_core_threaded, List.replicate]
  refine comp_by (fun i acc h' => Sub h h' ∧ acc = ((p.bs.take i).map (thB p.bs)).map bD) ⟨sub_refl, rfl⟩ (fun _ _ _ _ _ => trivial) ?_ ?_
  · rintro i x acc h' N hx ⟨sb, rfl⟩ hN
    simp only [v_fixi, List.getElem?_map, Option.map_eq_some_iff] at hx
    obtain ⟨y, hy, rfl⟩ := hx
    have hi := (List.getElem?_eq_some_iff.mp hy).1
    have bo := ok.b y (List.mem_of_getElem? hy)
    simp [wipe]
    refine tjump_i (by omega) T nx (by omega) (ws_lt bo.j) fun h3 s3 => ?_
    try simp
    refine ⟨by omega, hN _ _ ⟨sb.trans s3, ?_⟩⟩
    rw [take_snoc hy]
    simp [bD, thB]
  · rintro _ h' ⟨sb, rfl⟩
    simp only [v_fixi, List.length_map, List.take_length]
    simp
    refine someQ_i ?_
    have := q h' sb
    rw [bd_map] at this
    simpa using this
theorem seen_th_i {z : D} (hL : 4 ≤ L) (T : TH P) (nx : Nx p.bs) (hn : p.bs.length ≤ 1000) {s : Stt} (hb : s.b ≤ p.bs.length) (q : ∀ h', Sub h h' → Q (seeS p s).d h') : wC P L "seen_threaded" [p.d, z, s.d] h Q X := by
  obtain ⟨n, rfl⟩ : ∃ n, L = n + 1 := ⟨L - 1, by omega⟩
  refine wC_i T.sn rfl ?_
  simp [-v_rB, c_seen_threaded, List.replicate]
  rw [v_rB]
  by_cases z : s.b = p.bs.length
  · have e : seeS p s = s := seeS_not (emp_end (by omega))
    simp [z]
    exact someQ_i (e ▸ q h sub_refl)
  · have z' : ¬ (s.b : Int) = (p.bs.length : Int) := by omega
    simp [-v_rB, z, z']
    refine emp_i (by omega) T (by omega) ?_
    by_cases g : empB p.bs s.b = true
    · simp [-v_rB, g]
      rw [v_rB]
      simp
      refine thread_i (by omega) T nx (by omega) hn fun h' sb => ?_
      have := q h' sb
      unfold seeS at this
      rw [if_pos g] at this
      simp [Stt.d, cut1]
      exact someQ_i (by simpa [Stt.d] using this)
    · simp [g]
      exact someQ_i ((seeS_not (by simpa using g) : seeS p s = s) ▸ q h sub_refl)
theorem left_th_i {z : D} (hL : 3 ≤ L) (T : TH P) (nx : Nx p.bs) (hn : p.bs.length ≤ 1000) {s : Stt} (hb : s.b ≤ p.bs.length) (q : ∀ h', Sub h h' → Q (.int (lefS p s)) h') : wC P L "left_threaded" [p.d, z, s.d] h Q X := by
  obtain ⟨n, rfl⟩ : ∃ n, L = n + 1 := ⟨L - 1, by omega⟩
  unfold lefS at q
  refine wC_i T.lf rfl ?_
  simp [-v_rB, c_left_threaded, List.replicate]
  rw [v_rB]
  by_cases z : s.b = p.bs.length
  · rw [if_neg (by omega)] at q
    simp [z]
    exact someQ_i (q h sub_refl)
  · have z' : ¬ (s.b : Int) = (p.bs.length : Int) := by omega
    have hb' : s.b < p.bs.length := by omega
    rw [if_pos hb'] at q
    simp [-v_rB, z, z']
    rw [v_rB]
    simp [-v_rB]
    refine way_i (by omega) T nx hb' hn fun a h' sb na ha => ?_
    unfold lft at q
    have gl : (goB p.bs s.b (stp? p.bs s.b)).length = stp? p.bs s.b := by simp [goB]
    generalize itB p.bs s.b (stp? p.bs s.b) = last at *
    generalize goB p.bs s.b (stp? p.bs s.b) = gone at *
    rw [← gl] at q
    simp [-v_rB]
    rw [v_rB]
    by_cases g : last ∈ gone
    · rw [if_pos g] at q
      simp [k_ninNl ha, g, ha, m_idxl ha g, q_idxl ha]
      exact someQ_i (q h' sb)
    · rw [if_neg g] at q
      simp [k_ninNl ha, g, ha]
      exact someQ_i (q h' sb)
theorem ws_at {b : Nat} (hb : b < p.bs.length) : ixD (.v (bD p.bs[b])) (.v (.int 1)) h = some (p.bs[b]).2.d := by simp
/-- what can be come to: block 0 and blocks that are jumped to -/
def Tg0 (p : Pgm) (x : Nat) : Prop := x = 0 ∨ ∃ b ∈ p.bs, x ∈ b.2.ws
theorem reached_i (hL : 2 ≤ L) (hf : P.fn "core_reached" = some c_core_reached) (T : TH P) (ok : POk half k p) (q : ∀ (xs : List Nat) h', Sub h h' → (∀ x ∈ xs, x < p.bs.length ∧ Tg0 p x) → xs.length ≤ 1000 → Q (.tup (nL xs)) h') : wC P L "core_reached" [p.d] h Q X := by
  obtain ⟨n, rfl⟩ : ∃ n, L = n + 1 := ⟨L - 1, by omega⟩
  have hn := ok.n
  refine wC_i hf rfl ?_
  simp [-v_rB, c_core_reached, List.replicate]
  intro a na
  rw [v_rB]
  simp [-v_rB]
  rw [v_rB]
  simp only [v_cons]
  refine whl_i (fun m env h' => ∃ (F : List Nat) (t : Nat) (o : Option D), m = p.bs.length - t ∧ t ≤ F.length ∧ F.Nodup ∧ (∀ x ∈ F, x < p.bs.length ∧ Tg0 p x) ∧ Sub h h' ∧ h' a = some (.lst (nL F)) ∧ env = [some p.d, some (.loc a), some (.int t), o]) p.bs.length
    ⟨[0], 0, none, rfl, by simp, by simp, fun x hx => by simp at hx; subst hx; exact ⟨ok.s, .inl rfl⟩, sub_put na, by rw [put_self]; rfl, rfl⟩ ?_
  rintro m env h' N ⟨F, t, o, em, ht, nd, hF, sb, ha, rfl⟩ hN
  have fl : F.length ≤ p.bs.length := nd_len nd fun x hx => (hF x hx).1
  simp [-v_rB, ha]
  by_cases z : t < F.length
  · have z' : (t : Int) < (F.length : Int) := by omega
    have hx := hF (gn F t) (by rw [show gn F t = F[t] by simp [gn, z]]; exact List.getElem_mem z)
    have ea := nL_at (xs := F) (i := t) z
    generalize gn F t = b at *
    have eb := blk_at (p := p) hx.1
    have bo := ok.b p.bs[b] (List.getElem_mem hx.1)
    have mb : p.bs[b] ∈ p.bs := List.getElem_mem hx.1
    simp [-v_rB, z, z', ha, ea, eb]
    generalize p.bs[b] = blk at *
    refine goes_to_i (by omega) T ?_
    try simp [-v_rB]
    refine for_f (fun i env h' => ∃ (F2 : List Nat) (o : Option D), t < F2.length ∧ F2.Nodup ∧ (∀ x ∈ F2, x < p.bs.length ∧ Tg0 p x) ∧ Sub h h' ∧ h' a = some (.lst (nL F2)) ∧ env = [some p.d, some (.loc a), some (.int t), o]) ⟨F, o, z, nd, hF, sb, ha, rfl⟩ ?_ ?_
    · rintro i x env h2 N2 hx ⟨F2, o, z2, nd2, hF2, sb2, ha2, rfl⟩ hN2
      rw [nL, List.getElem?_map, Option.map_eq_some_iff] at hx
      obtain ⟨y, hy, rfl⟩ := hx
      have hm := List.mem_of_getElem? hy
      have fl2 : F2.length ≤ p.bs.length := nd_len nd2 fun x hx => (hF2 x hx).1
      have cap : (nL F2).length < 16777216 := by rw [nL_len]; omega
      by_cases c : y ∈ F2
      · simp [k_ninNl ha2, c]
        exact hN2 _ _ ⟨F2, _, z2, nd2, hF2, sb2, ha2, rfl⟩
      · simp [k_ninNl ha2, c, m_app ha2 cap, q_app ha2]
        refine hN2 _ _ ⟨F2 ++ [y], _, by simp; omega, ?_, ?_, sb2.put na, by rw [put_self]; simp [nL], rfl⟩
        · rw [List.nodup_append]
          exact ⟨nd2, by simp, fun u hu w hw e => by rw [List.mem_singleton.mp hw] at e; exact c (e ▸ hu)⟩
        · intro x hx
          rcases List.mem_append.mp hx
              with hx | hx
          · exact hF2 x hx
          · rw [List.mem_singleton.mp hx]
            exact ⟨ws_lt bo.j y hm, .inr ⟨blk, mb, hm⟩⟩
    · rintro env h2 ⟨F2, o, z2, nd2, hF2, sb2, ha2, rfl⟩
      simp
      refine hN (p.bs.length - (t + 1)) _ _ (by omega) ⟨F2, t + 1, o, rfl, z2, nd2, hF2, sb2, ha2, by simp⟩
  · have z' : ¬ (t : Int) < (F.length : Int) := by omega
    have e1 : iL (sortI (F.map fun (x : Nat) => (x : Int))) = nL ((sortI (F.map fun (x : Nat) => (x : Int))).map Int.toNat) := by
      unfold iL nL
      rw [List.map_map]
      refine List.map_congr_left fun i hi => ?_
      rw [sortI_mem, List.mem_map] at hi
      obtain ⟨x, _, rfl⟩ := hi
      simp
    have ha2 := ha
    rw [← nL_iL] at ha2
    simp [z, z', n_sortl ha2, e1]
    refine someQ_i (q _ h' sb (fun x hx => ?_) ?_)
    · rw [List.mem_map] at hx
      obtain ⟨i, hi, rfl⟩ := hx
      rw [sortI_mem, List.mem_map] at hi
      obtain ⟨y, hy, rfl⟩ := hi
      exact hF y hy
    · rw [List.length_map, sortI_len, List.length_map]; omega
end
end Cor
end Py
namespace Py
open PySem (Str)
namespace Cor
def c__law_is_empty : Fn := ⟨2, 4, (.cons (.asg (.tp (.cons (.nm 2) (.cons (.nm 3) .nil))) (.ix (.ix (.var 0) (.lit (.int 1))) (.var 1))) (.cons (.ret (.and (.cmp .gt (.var 1) (.lit (.int 0))) (.and (.cmp .eq (.var 2) (.tup .nil)) (.cmp .eq (.ix (.var 3) (.lit (.int 0))) (.lit (.str "goto")))))) .nil))⟩
def c__law_thread : Fn := ⟨2, 7, (.cons (.asg (.nm 2) (.lst (.cons (.var 1) .nil))) (.cons (.for_ (.nm 3) (.rng1 (.bin .mul (.lit (.int 2)) (.b1 .len (.ix (.var 0) (.lit (.int 1)))))) (.cons (.ifs (.call "_law_is_empty" (.cons (.var 0) (.cons (.ix (.var 2) (.neg (.lit (.int 1)))) .nil))) (.cons (.expr (.mt .append (.var 2) (.cons (.ix (.ix (.ix (.ix (.var 0) (.lit (.int 1))) (.ix (.var 2) (.neg (.lit (.int 1))))) (.lit (.int 1))) (.lit (.int 1))) .nil))) .nil) .nil) .nil)) (.cons (.ifs (.not (.call "_law_is_empty" (.cons (.var 0) (.cons (.ix (.var 2) (.neg (.lit (.int 1)))) .nil)))) (.cons (.ret (.tup (.cons (.ix (.var 2) (.neg (.lit (.int 1)))) (.cons (.bin .sub (.b1 .len (.var 2)) (.lit (.int 1))) .nil)))) .nil) .nil) (.cons (.asg (.nm 4) (.sl (.var 2) (.so (.b1 .len (.ix (.var 0) (.lit (.int 1))))) .no)) (.cons (.ret (.tup (.cons (.b1 .min (.var 4)) (.cons (.b1 .len (.compi (.nm 6) (.seq (.sl (.var 2) .no (.so (.b1 .len (.ix (.var 0) (.lit (.int 1))))))) [5, 6] (.cmp .nin (.var 6) (.var 4)) (.var 6))) .nil)))) .nil)))))⟩
def c__law_threaded : Fn := ⟨1, 4, (.cons (.asg (.nm 1) (.lst .nil)) (.cons (.for_ (.tp (.cons (.nm 2) (.cons (.nm 3) .nil))) (.seq (.ix (.var 0) (.lit (.int 1)))) (.cons (.ifs (.cmp .eq (.ix (.var 3) (.lit (.int 0))) (.lit (.str "goto"))) (.cons (.asg (.nm 3) (.tup (.cons (.lit (.str "goto")) (.cons (.ix (.call "_law_thread" (.cons (.var 0) (.cons (.ix (.var 3) (.lit (.int 1))) .nil))) (.lit (.int 0))) .nil)))) .nil) .nil) (.cons (.ifs (.cmp .eq (.ix (.var 3) (.lit (.int 0))) (.lit (.str "test"))) (.cons (.asg (.nm 3) (.bin .add (.sl (.var 3) .no (.so (.lit (.int 2)))) (.tup (.cons (.ix (.call "_law_thread" (.cons (.var 0) (.cons (.ix (.var 3) (.lit (.int 2))) .nil))) (.lit (.int 0))) (.cons (.ix (.call "_law_thread" (.cons (.var 0) (.cons (.ix (.var 3) (.lit (.int 3))) .nil))) (.lit (.int 0))) .nil))))) .nil) .nil) (.cons (.expr (.mt .append (.var 1) (.cons (.tup (.cons (.var 2) (.cons (.var 3) .nil))) .nil))) .nil)))) (.cons (.ret (.tup (.cons (.ix (.var 0) (.lit (.int 0))) (.cons (.b1 .tup (.var 1)) .nil)))) .nil)))⟩
def c__law_seen : Fn := ⟨2, 2, (.cons (.ifs (.and (.cmp .lt (.ix (.var 1) (.lit (.int 0))) (.b1 .len (.ix (.var 0) (.lit (.int 1))))) (.call "_law_is_empty" (.cons (.var 0) (.cons (.ix (.var 1) (.lit (.int 0))) .nil)))) (.cons (.ret (.bin .add (.tup (.cons (.ix (.call "_law_thread" (.cons (.var 0) (.cons (.ix (.var 1) (.lit (.int 0))) .nil))) (.lit (.int 0))) .nil)) (.sl (.var 1) (.so (.lit (.int 1))) .no))) .nil) .nil) (.cons (.ret (.var 1)) .nil))⟩
structure TL (P : Prog) : Prop where
  em : P.fn "_law_is_empty" = some c__law_is_empty
  th : P.fn "_law_thread" = some c__law_thread
  td : P.fn "_law_threaded" = some c__law_threaded
  sn : P.fn "_law_seen" = some c__law_seen
theorem pu_ce : ∀ (e : CE) {n : Nat}, e.dep ≤ n → pu n e.d = true
  | .num m, 0, h => absurd h (by simp [CE.dep])
  | .of m, 0, h => absurd h (by simp [CE.dep])
  | .un s a, 0, h => absurd h (by simp [CE.dep])
  | .bi s a b, 0, h => absurd h (by simp [CE.dep])
  | .num m, n + 1, _ => by
    show (pu n (.str (nm .number)) && (pu n (.int m) && true)) = true
    rw [pu_nm]; cases n <;> rfl
  | .of m, n + 1, _ => by
    show (pu n (.str (nm .of)) && (pu n (.int m) && true)) = true
    rw [pu_nm]; cases n <;> rfl
  | .un s a, n + 1, h => by
    show (pu n (.str (nm s)) && (pu n a.d && true)) = true
    rw [pu_nm, pu_ce a (by simp [CE.dep] at h; omega)]; rfl
  | .bi s a b, n + 1, h => by
    show (pu n (.str (nm s)) && (pu n a.d && (pu n b.d && true))) = true
    rw [pu_nm, pu_ce a (by simp [CE.dep] at h; omega), pu_ce b (by simp [CE.dep] at h; omega)]; rfl
theorem pu_in {n : Nat} {i : Int} : pu n (.int i) = true := by cases n <;> rfl
theorem pu_cmd {half many k : Nat} {c : Cmd} (ok : c.Ok half many k) (hk : k ≤ 8) : pu 40 c.d = true := by
  cases c with
  | hear v =>
    show (pu 39 (.str (nm .hear)) && (pu 39 (.int v) && true)) = true
    rw [pu_nm, pu_in]; rfl
  | shw e =>
    have := ok.2
    show (pu 39 (.str (nm .show)) && (pu 39 e.d && true)) = true
    rw [pu_nm, pu_ce e (by omega)]; rfl
  | set v e =>
    have := ok.2.2
    show (pu 39 (.str (nm .set)) && (pu 39 (.int v) && (pu 39 e.d && true))) = true
    rw [pu_nm, pu_in, pu_ce e (by omega)]; rfl
  | pair v e f =>
    have h1 := ok.2.1.2
    have h2 := ok.2.2.2
    show (pu 39 (.str (nm .pair)) && (pu 39 (.int v) && (pu 39 e.d && (pu 39 f.d && true)))) = true
    rw [pu_nm, pu_in, pu_ce e (by omega), pu_ce f (by omega)]; rfl
theorem k_cmds {half many k : Nat} {cs : List Cmd} (ok : ∀ c ∈ cs, c.Ok half many k) (hk : k ≤ 8) (h : AH) : cmpD .eq (.v (.tup (cs.map Cmd.d))) (.v (.tup [])) h = some cs.isEmpty := by
  show eqD (.v (.tup (cs.map Cmd.d))) (.v (.tup [])) h = _
  have e : (cs.map Cmd.d).all (pu 40) = true := by
    rw [List.all_eq_true]
    intro x hx
    obtain ⟨c, hc, rfl⟩ := List.mem_map.mp hx
    exact pu_cmd (ok c hc) hk
  unfold eqD
  simp only [e]
  cases cs <;> rfl
section
variable {P : Prog} {L : Nat} {h : AH} {Q : D → AH → Prop} {X : Xc} {p : Pgm} {half k : Nat}
theorem law_emp_i (hL : 1 ≤ L) (T : TL P) (ok : POk half k p) {b : Nat} (hb : b < p.bs.length) (q : Q (.bl (empB p.bs b)) h) : wC P L "_law_is_empty" [p.d, .int b] h Q X := by
  obtain ⟨n, rfl⟩ : ∃ n, L = n + 1 := ⟨L - 1, by omega⟩
  have eb : p.bs[b]? = some p.bs[b] := List.getElem?_eq_getElem hb
  have ea := blk_at (p := p) hb
  have bo := ok.b p.bs[b] (List.getElem_mem hb)
  have kc := k_cmds bo.c ok.k h
  generalize p.bs[b] = blk at *
  obtain ⟨c, j⟩ := blk
  refine wC_i T.em rfl ?_
  by_cases z : b = 0
  · subst z
    rw [empB_0] at q
    have ea' : atI (p.bs.map bD) 0 = some (bD (c, j)) := ea
    simp [c__law_is_empty, List.replicate, ea']
    exact someQ_i q
  · have z' : (0 : Int) < (b : Int) := by omega
    have z2 : 0 < b := by omega
    cases c with
    | cons x r =>
      rw [empB_c eb] at q
      simp only [List.map_cons] at kc
      simp [c__law_is_empty, List.replicate, ea, z', z2, kc]
      exact someQ_i q
    | nil =>
      simp only [List.map_nil] at kc
      cases j with
      | goto c => rw [empB_g eb z] at q; simp [c__law_is_empty, List.replicate, ea, z', z2, kc, Jmp.d, n14]; exact someQ_i q
      | halt => rw [empB_h eb] at q; simp [c__law_is_empty, List.replicate, ea, z', z2, kc, Jmp.d, n14]; exact someQ_i q
      | test e c d => rw [empB_t eb] at q; simp [c__law_is_empty, List.replicate, ea, z', z2, kc, Jmp.d, n14]; exact someQ_i q
/-- how far the law's way goes -/
structure Far (bs : List Blk) (b k c : Nat) : Prop where
  e : ∀ t, t < c → empB bs (itB bs b t) = true
  l : c ≤ k
  s : c = k ∨ empB bs (itB bs b c) = false
theorem Far.go {bs : List Blk} {b k c : Nat} (f : Far bs b k c) (h : empB bs (itB bs b c) = true) : Far bs b (k + 1) (c + 1) := by
  have e : c = k := by
    rcases f.s with e | e
    · exact e
    · rw [h] at e; cases e
  refine ⟨fun t ht => ?_, by omega, .inl (by omega)⟩
  rcases Nat.lt_succ_iff_lt_or_eq.mp ht with h1 | rfl
  · exact f.e t h1
  · exact h
theorem Far.st {bs : List Blk} {b k c : Nat} (f : Far bs b k c) (h : empB bs (itB bs b c) = false) : Far bs b (k + 1) c := ⟨f.e, by have := f.l; omega, .inr h⟩
/-- what stands behind: the ring -/
def rgL (bs : List Blk) (b : Nat) : List Nat := (goB bs b (2 * bs.length + 1)).drop bs.length
theorem rgL_mem {bs : List Blk} {b x : Nat} : x ∈ rgL bs b ↔ ∃ t, bs.length ≤ t ∧ t ≤ 2 * bs.length ∧ itB bs b t = x := by
  have hd : rgL bs b = (List.range (bs.length + 1)).map fun t => itB bs b (bs.length + t) := by
    unfold rgL
    apply List.ext_getElem
    · simp [goB]; omega
    · intro n h1 h2
      simp [goB]
  rw [hd, List.mem_map]
  constructor
  · rintro ⟨t, ht, rfl⟩
    rw [List.mem_range] at ht
    exact ⟨_, by omega, by omega, rfl⟩
  · rintro ⟨t, h1, h2, rfl⟩
    exact ⟨t - bs.length, by rw [List.mem_range]; omega, by congr 1; omega⟩
theorem Ring.rgL_mem {bs : List Blk} {b m j x : Nat} (r : Ring bs b m j) : x ∈ rgL bs b ↔ Rg bs b x := by
  rw [Cor.rgL_mem]
  have jm := r.jm
  have il := r.s.len
  constructor
  · rintro ⟨t, h1, h2, rfl⟩
    exact ⟨t, h1, rfl⟩
  · rintro ⟨t, h1, rfl⟩
    have hm := Nat.mod_lt (t - bs.length) (show 0 < m - j by omega)
    refine ⟨bs.length + (t - bs.length) % (m - j), by omega, by omega, ?_⟩
    have h1 := r.perk (bs.length + (t - bs.length) % (m - j)) (by omega) ((t - bs.length) / (m - j))
    rw [← h1]
    congr 1
    have := Nat.mod_add_div (t - bs.length) (m - j)
    omega
theorem Ring.rgL_min {bs : List Blk} {b m j : Nat} (r : Ring bs b m j) : mnN (rgL bs b) = Cor.thr bs b := by
  rw [r.thr.1]
  refine mnN_eq (fun e => ?_) fun a => by rw [r.rgL_mem, r.mem]
  have := congrArg List.length e
  simp [rgL, goB] at this
  omega
theorem Ring.cnt {bs : List Blk} {b m j : Nat} (r : Ring bs b m j) : (((goB bs b (2 * bs.length + 1)).take bs.length).filter fun x => !decide (x ∈ rgL bs b)).length = j := by
  have jm := r.jm
  have il := r.s.len
  have e1 : (goB bs b (2 * bs.length + 1)).take bs.length = goB bs b bs.length := by
    unfold goB
    rw [← List.map_take, List.take_range]
    congr 2
    omega
  rw [e1]
  have e2 : goB bs b bs.length = goB bs b j ++ (List.range (bs.length - j)).map fun t => itB bs b (j + t) := by
    unfold goB
    have : List.range bs.length = List.range (j + (bs.length - j)) := by congr 1; omega
    rw [this, List.range_add, List.map_append, List.map_map]
    rfl
  rw [e2, List.filter_append]
  have f1 : (goB bs b j).filter (fun x => !decide (x ∈ rgL bs b)) = goB bs b j := by
    rw [List.filter_eq_self]
    intro x hx
    obtain ⟨t, ht, rfl⟩ := goB_mem.mp hx
    have : ¬ itB bs b t ∈ rgL bs b := fun h => by
      rw [r.rgL_mem, r.at] at h
      omega
    simp [this]
  have f2 : ((List.range (bs.length - j)).map fun t => itB bs b (j + t)).filter (fun x => !decide (x ∈ rgL bs b)) = [] := by
    rw [List.filter_eq_nil_iff]
    intro x hx
    obtain ⟨t, ht, rfl⟩ := List.mem_map.mp hx
    have : itB bs b (j + t) ∈ rgL bs b := by
      rw [r.rgL_mem, r.at]
      omega
    simp [this]
  rw [f1, f2]
  simp [goB]
theorem law_thread_i (hL : 2 ≤ L) (T : TL P) (ok : POk half k p) {b : Nat} (hb : b < p.bs.length) (q : ∀ h', Sub h h' → Q (.tup [.int (thr p.bs b), .int (lft p.bs b)]) h') : wC P L "_law_thread" [p.d, .int b] h Q X := by
  obtain ⟨n, rfl⟩ : ∃ n, L = n + 1 := ⟨L - 1, by omega⟩
  have nx := pok_nx ok
  have hn := ok.n
  have hs := ok.s
  have m2 : ml 2 := ml_of (by decide) (by decide)
  have s2 : small62 (2 * (p.bs.length : Int)) = true := by simp [small62]; omega
  have e2n : (2 * (p.bs.length : Int)).toNat = 2 * p.bs.length := by omega
  have last : ∀ c, atI (nL (goB p.bs b (c + 1))) (-1) = some (.int (itB p.bs b c)) := fun c => by
    rw [goB_s, show nL (goB p.bs b c ++ [itB p.bs b c]) = nL (goB p.bs b c) ++ [.int (itB p.bs b c)] by simp [nL], at_last]
  refine wC_i T.th rfl ?_
  simp [-v_rB, c__law_thread, List.replicate]
  intro a na
  rw [v_rB]
  simp [-v_rB, m2, s2, e2n]
  refine for_f (fun i env h' => ∃ c o3, Far p.bs b i c ∧ Sub h h' ∧ h' a = some (.lst (nL (goB p.bs b (c + 1)))) ∧ env = [some p.d, some (.int b), some (.loc a), o3, none, none, none]) ⟨0, none, ⟨fun t ht => by omega, by omega, .inl rfl⟩, sub_put na, by rw [put_self]; rfl, rfl⟩ ?_ ?_
  · rintro i x env h' N hx ⟨c, o3, f, sb, ha, rfl⟩ hN
    have hc := f.l
    have hi := (rngL_at hx).1
    have hlt : itB p.bs b c < p.bs.length := itB_lt nx hb f.e
    have cap : (nL (goB p.bs b (c + 1))).length < 16777216 := by rw [nL_len]; simp [goB]; omega
    simp [-v_rB, ha, last]
    refine law_emp_i (by omega) T ok hlt ?_
    by_cases g : empB p.bs (itB p.bs b c) = true
    · have eb := emp_blk g
      have ea : atI (p.bs.map bD) (itB p.bs b c : Int) = some (bD ([], .goto (nxB p.bs (itB p.bs b c)))) := atN (by simp [eb])
      simp [g, ha, last, ea, Jmp.d, m_app ha cap]
      refine hN _ _ ⟨c + 1, _, f.go g, sb.put na, ?_, rfl⟩
      rw [put_self, goB_s (i := c + 1)]
      simp [nL, itB]
    · simp [g]
      exact hN _ _ ⟨c, _, f.st (by simpa using g), sb, ha, rfl⟩
  · rintro env h' ⟨c, o3, f, sb, ha, rfl⟩
    rw [rngL_length] at f
    have hc := f.l
    have hlt : itB p.bs b c < p.bs.length := itB_lt nx hb f.e
    rw [v_nx, v_rB]
    simp [-v_rB, ha, last]
    refine law_emp_i (by omega) T ok hlt ?_
    by_cases g : empB p.bs (itB p.bs b c) = true
    · have ec : c = 2 * p.bs.length := by
        rcases f.s with e | e
        · exact e
        · rw [g] at e; cases e
      subst ec
      have hr : ∃ m j, Ring p.bs b m j := by
        rcases ring_or (bs := p.bs) b with ⟨i, h1, h2⟩ | h3
        · have il := (stop_halt h1 h2).len
          have := f.e i (by omega)
          rw [h2] at this
          cases this
        · exact h3
      obtain ⟨m, j, r⟩ := hr
      have gl : (goB p.bs b (2 * p.bs.length + 1)).length = 2 * p.bs.length + 1 := by simp [goB]
      have ec1 : cut (nL (goB p.bs b (2 * p.bs.length + 1))) (some (p.bs.length : Nat)) none = nL (rgL p.bs b) := by
        rw [cut_drop (by rw [nL_len, gl]; omega)]
        simp [nL, rgL]
      have ec2 : cut (nL (goB p.bs b (2 * p.bs.length + 1))) none (some (p.bs.length : Nat)) = nL ((goB p.bs b (2 * p.bs.length + 1)).take p.bs.length) := by
        rw [cut_take (by rw [nL_len, gl]; omega)]
        simp [nL]
      simp [-v_rB, g, ha]
      rw [v_rB]
      simp [-v_rB, ha, ec1]
      intro l nl
      have hl : l ≠ a := fun e => by rw [e, ha] at nl; cases nl
      have sb2 := sb.new nl (o := .lst (nL (rgL p.bs b)))
      have ha2 : put h' l (.lst (nL (rgL p.bs b))) a = some (.lst (nL (goB p.bs b (2 * p.bs.length + 1)))) := by rw [put_ne hl.symm]; exact ha
      have hl2 : put h' l (.lst (nL (rgL p.bs b))) l = some (.lst (nL (rgL p.bs b))) := put_self
      generalize put h' l (.lst (nL (rgL p.bs b))) = h2 at *
      have mn : b1D .min (.v (.loc l)) h2 = some (.v (.int (thr p.bs b))) := by
        have e := r.rgL_min
        have ne : rgL p.bs b ≠ [] := fun e => by
          have := congrArg List.length e
          simp [rgL, goB] at this
          omega
        cases er : rgL p.bs b with
        | nil => exact absurd er ne
        | cons x xs =>
          rw [er] at e hl2
          rw [← e]
          have := n_mino (x := x) (r := xs) (h := h2)
          simp only [b1D, l_loc hl2] at this ⊢
          exact this
      rw [v_rB]
      simp [-v_rB, hl2, ha2, mn, ec2]
      refine compi_m (fun x => !decide ((dI x).toNat ∈ rgL p.bs b)) (fun x => x) trivial (by simp [goB]; omega) (fun x hx k hk => ?_) ?_
      · simp only [v_fixi] at hx
        obtain ⟨y, hy, rfl⟩ := nL_mem hx
        simp [wipe, k_ninNl hl2]
        by_cases z : y ∈ rgL p.bs b
        · simp [z] at hk ⊢; exact hk
        · simp [z] at hk ⊢; exact hk
      · have ef : ((nL ((goB p.bs b (2 * p.bs.length + 1)).take p.bs.length)).filter fun x => !decide ((dI x).toNat ∈ rgL p.bs b)).length = j := by
          have e3 := r.cnt
          rw [← e3]
          unfold nL
          rw [List.filter_map, List.length_map]
          simp [Function.comp_def]
          try rfl
          try congr
        have ejl := r.thr.2
        simp only [v_fixi, List.map_id'] at *
        try simp [ef]
        refine someQ_i ?_
        have := q h2 sb2
        rw [ejl] at this
        exact this
    · have hh := halt_thr f.e (by simpa using g)
      simp [g, ha, last]
      have gl : (goB p.bs b (c + 1)).length = c + 1 := by simp [goB]
      have := q h' sb
      rw [hh.1, hh.2] at this
      rw [gl]
      refine someQ_i ?_
      have e : ((c + 1 : Nat) : Int) - 1 = (c : Int) := by omega
      first | exact this | (rw [e]; exact this) | simpa using this
end
end Cor
end Py
namespace Py
open PySem (Str)
namespace Cor
theorem sm_ce : ∀ (e : CE) {n : Nat}, e.dep ≤ n → sm n e.d = true
  | .num m, 0, h => absurd h (by simp [CE.dep])
  | .of m, 0, h => absurd h (by simp [CE.dep])
  | .un s a, 0, h => absurd h (by simp [CE.dep])
  | .bi s a b, 0, h => absurd h (by simp [CE.dep])
  | .num m, n + 1, _ => by
    show (decide (2 ≤ 16777216) && (sm n (.str (nm .number)) && (sm n (.int m) && true))) = true
    cases n <;> rfl
  | .of m, n + 1, _ => by
    show (decide (2 ≤ 16777216) && (sm n (.str (nm .of)) && (sm n (.int m) && true))) = true
    cases n <;> rfl
  | .un s a, n + 1, h => by
    have h1 := dep_pos a
    obtain ⟨j, rfl⟩ : ∃ j, n = j + 1 := ⟨n - 1, by simp [CE.dep] at h; omega⟩
    show (decide (2 ≤ 16777216) && (true && (sm (j + 1) a.d && true))) = true
    rw [sm_ce a (by simp [CE.dep] at h; omega)]; rfl
  | .bi s a b, n + 1, h => by
    have h1 := dep_pos a
    obtain ⟨j, rfl⟩ : ∃ j, n = j + 1 := ⟨n - 1, by simp [CE.dep] at h; omega⟩
    show (decide (3 ≤ 16777216) && (true && (sm (j + 1) a.d && (sm (j + 1) b.d && true)))) = true
    rw [sm_ce a (by simp [CE.dep] at h; omega), sm_ce b (by simp [CE.dep] at h; omega)]; rfl
theorem sm_s {n : Nat} {s : Str} : sm n (.str s) = true := by cases n <;> rfl
theorem sm_n {n : Nat} {i : Int} : sm n (.int i) = true := by cases n <;> rfl
theorem sm_cmd {half many k : Nat} {c : Cmd} (ok : c.Ok half many k) : sm (k + 1) c.d = true := by
  cases c with
  | hear v =>
    show (decide (2 ≤ 16777216) && (sm k (.str (nm .hear)) && (sm k (.int v) && true))) = true
    rw [sm_s, sm_n]; rfl
  | shw e =>
    have := ok.2
    show (decide (2 ≤ 16777216) && (sm k (.str (nm .show)) && (sm k e.d && true))) = true
    rw [sm_s, sm_ce e (by omega)]; rfl
  | set v e =>
    have := ok.2.2
    show (decide (3 ≤ 16777216) && (sm k (.str (nm .set)) && (sm k (.int v) && (sm k e.d && true)))) = true
    rw [sm_s, sm_n, sm_ce e (by omega)]; rfl
  | pair v e f =>
    have h1 := ok.2.1.2
    have h2 := ok.2.2.2
    show (decide (4 ≤ 16777216) && (sm k (.str (nm .pair)) && (sm k (.int v) && (sm k e.d && (sm k f.d && true))))) = true
    rw [sm_s, sm_n, sm_ce e (by omega), sm_ce f (by omega)]; rfl
theorem sm_jmp {half many k size : Nat} {j : Jmp} (ok : j.Ok half many k size) : sm (k + 1) j.d = true := by
  cases j with
  | goto b =>
    show (decide (2 ≤ 16777216) && (sm k (.str (nm .goto)) && (sm k (.int b) && true))) = true
    rw [sm_s, sm_n]; rfl
  | halt =>
    show (decide (1 ≤ 16777216) && (sm k (.str (nm .halt)) && true)) = true
    rw [sm_s]; rfl
  | test e b c =>
    have := ok.1.2
    show (decide (4 ≤ 16777216) && (sm k (.str (nm .test)) && (sm k e.d && (sm k (.int b) && (sm k (.int c) && true))))) = true
    rw [sm_s, sm_n, sm_n, sm_ce e (by omega)]; rfl
theorem sm_mono : ∀ {n m : Nat} {d : D}, n ≤ m → sm n d = true → sm m d = true
  | n, m, .non, _, _ => by cases m <;> rfl
  | n, m, .bl _, _, _ => by cases m <;> rfl
  | n, m, .int _, _, _ => by cases m <;> rfl
  | n, m, .str _, _, _ => by cases m <;> rfl
  | 0, m, .tup xs, _, h => by simp [sm] at h
  | n + 1, 0, .tup xs, h0, _ => by omega
  | n + 1, m + 1, .tup xs, h0, h => by
    simp only [sm, Bool.and_eq_true, decide_eq_true_eq, List.all_eq_true] at h ⊢
    exact ⟨h.1, fun x hx => sm_mono (by omega) (h.2 x hx)⟩
  | n, m, .loc _, _, h => by cases n <;> simp [sm] at h
  | n, m, .fl _, _, h => by cases n <;> simp [sm] at h
  | n, m, .fn _, _, h => by cases n <;> simp [sm] at h
theorem sm_pgm {half k : Nat} {p : Pgm} (ok : POk half k p) : sm (k + 5) p.d = true := by
  have hn := ok.n
  have e1 : sm (k + 4) (.tup (p.bs.map bD)) = true := by
    simp only [sm, Bool.and_eq_true, decide_eq_true_eq, List.all_eq_true]
    refine ⟨by simp; omega, fun x hx => ?_⟩
    obtain ⟨b, hb, rfl⟩ :=
        List.mem_map.mp hx
    have bo := ok.b b hb
    have bn := bo.n
    have e2 : sm (k + 2) (.tup (b.1.map Cmd.d)) = true := by
      simp only [sm, Bool.and_eq_true, decide_eq_true_eq, List.all_eq_true]
      refine ⟨by simp; omega, fun x hx => ?_⟩
      obtain ⟨c, hc, rfl⟩ := List.mem_map.mp hx
      exact sm_cmd (bo.c c hc)
    have e3 : sm (k + 2) b.2.d = true := sm_mono (by omega) (sm_jmp bo.j)
    show (decide (2 ≤ 16777216) && (sm (k + 2) (.tup (b.1.map Cmd.d)) && (sm (k + 2) b.2.d && true))) = true
    rw [e2, e3]; rfl
  show (decide (2 ≤ 16777216) && (sm (k + 4) (.int p.many) && (sm (k + 4) (.tup (p.bs.map bD)) && true))) = true
  rw [sm_n, e1]; rfl
/-! ### states are alike -/
theorem int_beq (b c : Nat) : ((b : Int) == (c : Int)) = decide (b = c) := by
  by_cases h : b = c
  · subst h; simp
  · have : ¬ (b : Int) = (c : Int) := by omega
    simp [h, this]
def sL (s : Stt) : List D := [.int s.b, .int s.p, .tup (nL s.vs), .tup (csD s.cs), .tup (nL s.ls)]
theorem eqvs_st (s t : Stt) : eqvs (sL s) (sL t) = decide (s = t) := by
  obtain ⟨b, q, vs, cs, ls⟩ := s
  obtain ⟨b', q', vs', cs', ls'⟩ := t
  show ((b : Int) == (b' : Int) && ((q : Int) == (q' : Int) && (eqvs (nL vs) (nL vs') && (eqvs (csD cs) (csD cs') && (eqvs (nL ls) (nL ls') && true))))) = _
  rw [nL_eqvs, eqvs_cs, nL_eqvs, int_beq, int_beq]
  simp only [Stt.mk.injEq, Bool.decide_and, Bool.and_true]
theorem csD_puN {n : Nat} (cs : Cs) : (csD cs).all (pu (n + 1)) = true := by
  rw [List.all_eq_true]
  intro x hx
  obtain ⟨c, _, rfl⟩ := List.mem_map.mp hx
  cases c with
  | none => rfl
  | some y =>
    obtain ⟨a, b⟩ := y
    show (pu n (.int a) && (pu n (.int b) && true)) = true
    rw [pu_in, pu_in]; rfl
theorem sL_pu (s : Stt) : (sL s).all (pu 40) = true := by
  show (true && (true && ((nL s.vs).all (pu 39) && ((csD s.cs).all (pu 39) && ((nL s.ls).all (pu 39) && true))))) = true
  rw [nL_pu, nL_pu, csD_puN]; rfl
theorem eq_st (s t : Stt) (h : AH) : cmpD .eq (.v s.d) (.v t.d) h = some (decide (s = t)) := by
  show eqD (.v (.tup (sL s))) (.v (.tup (sL t))) h = _
  unfold eqD
  simp only [sL_pu, eqvs_st, Bool.and_self, if_true]
theorem ne_st (s t : Stt) (h : AH) : cmpD .ne (.v s.d) (.v t.d) h = some (!decide (s = t)) := by
  have := eq_st s t h
  show (eqD (.v s.d) (.v t.d) h).map (!·) = _
  rw [show eqD (.v s.d) (.v t.d) h = some (decide (s = t)) from this]
  rfl
section
variable {P : Prog} {L : Nat} {h : AH} {Q : D → AH → Prop} {X : Xc} {p : Pgm} {half k : Nat}
theorem law_thd_i (hL : 3 ≤ L) (T : TL P) (ok : POk half k p) (q : ∀ h', Sub h h' → Q (thP p).d h') : wC P L "_law_threaded" [p.d] h Q X := by
  obtain ⟨n, rfl⟩ : ∃ n, L = n + 1 := ⟨L - 1, by omega⟩
  have hn := ok.n
  refine wC_i T.td rfl ?_
  simp [-v_rB, c__law_threaded, List.replicate]
  intro a na
  rw [v_rB]
  simp [-v_rB]
  refine for_f (fun i env h' => ∃ o2 o3, Sub h h' ∧ h' a = some (.lst (((p.bs.take i).map (thB p.bs)).map bD)) ∧ env = [some p.d, some (.loc a), o2, o3]) ⟨none, none, sub_put na, by rw [put_self]; rfl, rfl⟩ ?_ ?_
  · rintro i x env h' N hx ⟨o2, o3, sb, ha, rfl⟩ hN
    rw [List.getElem?_map, Option.map_eq_some_iff] at hx
    obtain ⟨blk, hy, rfl⟩ := hx
    have hi := (List.getElem?_eq_some_iff.mp hy).1
    have bo := (ok.b blk (List.mem_of_getElem? hy)).j
    have cap : (((p.bs.take i).map (thB p.bs)).map bD).length < 16777216 := by simp; omega
    have es : ((p.bs.take (i + 1)).map (thB p.bs)).map bD = ((p.bs.take i).map (thB p.bs)).map bD ++ [bD (thB p.bs blk)] := by rw [take_snoc hy]; simp
    generalize ((p.bs.take i).map (thB p.bs)).map bD = acc at *
    have fin : ∀ h3 o3, Sub h' h3 → N [some p.d, some (.loc a), some (.tup (blk.1.map Cmd.d)), o3] (put h3 a (.lst (acc ++ [bD (thB p.bs blk)]))) := fun h3 o3 s3 =>
      hN _ _ ⟨_, _, (sb.trans s3).put na, by rw [put_self, es], rfl⟩
    obtain ⟨cs, j⟩ := blk
    have f1 : ∀ b, (D.tup [.tup (cs.map Cmd.d), .tup [.str (nm .goto), .int (thr p.bs b)]]) = bD (thB p.bs (cs, .goto b)) := fun _ => rfl
    have f2 : (D.tup [.tup (cs.map Cmd.d), .tup [.str (nm .halt)]]) = bD (thB p.bs (cs, .halt)) := rfl
    have f3 : ∀ e b c, (D.tup [.tup (cs.map Cmd.d), .tup [.str (nm .test), CE.d e, .int (thr p.bs b), .int (thr p.bs c)]]) = bD (thB p.bs (cs, .test e b c)) := fun _ _ _ => rfl
    cases j with
    | goto b =>
      simp [-v_rB, Jmp.d, n14]
      refine law_thread_i (by omega) T ok bo fun h3 s3 => ?_
      have ha3 := s3 a _ ha
      simp [-v_rB]
      rw [v_rB]
      simp [-v_rB, n16]
      rw [v_rB]
      simp [ha3, m_app ha3 cap, q_app ha3, f1]
      exact fin h3 _ s3
    | halt =>
      simp [-v_rB, Jmp.d, n14]
      rw [v_rB]
      simp [-v_rB, n16]
      rw [v_rB]
      simp [ha, m_app ha cap, q_app ha, f2]
      exact fin h' _ sub_refl
    | test e b c =>
      simp [-v_rB, Jmp.d, n14]
      rw [v_rB]
      simp [-v_rB, n16]
      rw [show cut [D.str (nm .test), e.d, D.int (b : Int), D.int (c : Int)] none (some 2) = [D.str (nm .test), e.d] from cut_take (k := 2) (by simp)]
      refine law_thread_i (by omega) T ok bo.2.1 fun h3 s3 => ?_
      simp [-v_rB]
      refine law_thread_i (by omega) T ok bo.2.2 fun h4 s4 => ?_
      have ha4 := s4 a _ (s3 a _ ha)
      simp [-v_rB]
      rw [v_rB]
      simp [ha4, m_app ha4 cap, q_app ha4, f3]
      exact fin h4 _ (s3.trans s4)
  · rintro env h' ⟨o2, o3, sb, ha, rfl⟩
    rw [List.length_map, List.take_length] at ha
    rw [v_nx, v_rB]
    simp [ha]
    refine someQ_i ?_
    have := q h' sb
    rw [bd_map] at this
    simpa using this
theorem law_seen_i (hL : 3 ≤ L) (T : TL P) (ok : POk half k p) {s : Stt} (q : ∀ h', Sub h h' → Q (seeS p s).d h') : wC P L "_law_seen" [p.d, s.d] h Q X := by
  obtain ⟨n, rfl⟩ : ∃ n, L = n + 1 := ⟨L - 1, by omega⟩
  refine wC_i T.sn rfl ?_
  simp [-v_rB, c__law_seen, List.replicate]
  by_cases z : s.b < p.bs.length
  · have z' : (s.b : Int) < (p.bs.length : Int) := by omega
    simp [-v_rB, z, z']
    refine law_emp_i (by omega) T ok z ?_
    by_cases g : empB p.bs s.b = true
    · simp [-v_rB, g]
      refine law_thread_i (by omega) T ok z fun h' sb => ?_
      have := q h' sb
      unfold seeS at this
      rw [if_pos g] at this
      simp [Stt.d, cut1]
      exact someQ_i (by simpa [Stt.d] using this)
    · simp [g]
      exact someQ_i ((seeS_not (by simpa using g) : seeS p s = s) ▸ q h sub_refl)
  · have z' : ¬ (s.b : Int) < (p.bs.length : Int) := by omega
    simp [z, z']
    exact someQ_i ((seeS_not (emp_end (by omega)) : seeS p s = s) ▸ q h sub_refl)
end
end Cor
end Py
namespace Py
open PySem (Str)
namespace K38
open Cor
def c_thin38 : Fn := ⟨2, 6, (.cons (.asg (.nm 2) (.b1 .len (.ix (.var 1) (.lit (.int 1))))) (.cons (.asg (.nm 3) (.lst .nil)) (.cons (.for_ (.tp (.cons (.nm 4) (.cons (.nm 5) .nil))) (.seq (.ix (.var 1) (.lit (.int 1)))) (.cons (.expr (.mt .append (.var 3) (.cons (.ite (.cmp .eq (.call "_law_take" (.cons (.var 0) (.cons (.lit (.int 2)) .nil))) (.lit (.int 0))) (.tup (.cons (.tup .nil) (.cons (.tup (.cons (.lit (.str "goto")) (.cons (.call "_law_take" (.cons (.var 0) (.cons (.var 2) .nil))) .nil))) .nil))) (.tup (.cons (.var 4) (.cons (.var 5) .nil)))) .nil))) .nil)) (.cons (.ret (.tup (.cons (.ix (.var 1) (.lit (.int 0))) (.cons (.b1 .tup (.var 3)) .nil)))) .nil))))⟩
def c_goes38 : Fn := ⟨3, 10, (.cons (.asg (.nm 3) (.call "_law_threaded" (.cons (.var 1) .nil))) (.cons (.asg (.nm 4) (.call "_law_core_begin" (.cons (.var 1) (.cons (.var 2) .nil)))) (.cons (.for_ (.nm 5) (.seq (.call "_law_words" (.cons (.var 0) (.cons (.bin .add (.lit (.int 1)) (.call "_law_take" (.cons (.var 0) (.cons (.lit (.int 50)) .nil)))) (.cons (.ix (.var 2) (.lit (.int 0))) .nil))))) (.cons (.asg (.nm 6) (.call "seen_threaded" (.cons (.var 1) (.cons (.var 2) (.cons (.var 4) .nil))))) (.cons (.asg (.nm 7) (.call "left_threaded" (.cons (.var 1) (.cons (.var 2) (.cons (.var 4) .nil))))) (.cons (.ifs (.not (.call "_law_same" (.cons (.var 6) (.cons (.call "_law_seen" (.cons (.var 1) (.cons (.var 4) .nil))) .nil)))) (.cons (.ret (.lit (.bl false))) .nil) .nil) (.cons (.asg (.nm 8) (.ite (.cmp .lt (.ix (.var 4) (.lit (.int 0))) (.b1 .len (.ix (.var 1) (.lit (.int 1))))) (.ix (.call "_law_thread" (.cons (.var 1) (.cons (.ix (.var 4) (.lit (.int 0))) .nil))) (.lit (.int 1))) (.lit (.int 0)))) (.cons (.ifs (.not (.call "_law_same" (.cons (.var 7) (.cons (.var 8) .nil)))) (.cons (.ret (.lit (.bl false))) .nil) .nil) (.cons (.asg (.nm 4) (.call "_law_core_step" (.cons (.var 1) (.cons (.var 2) (.cons (.var 4) (.cons (.var 5) .nil)))))) (.cons (.asg (.nm 9) (.call "seen_threaded" (.cons (.var 1) (.cons (.var 2) (.cons (.var 4) .nil))))) (.cons (.ifs (.and (.cmp .ne (.var 9) (.call "_law_core_step" (.cons (.var 3) (.cons (.var 2) (.cons (.var 6) (.cons (.var 5) .nil)))))) (.or (.cmp .ne (.var 9) (.var 6)) (.cmp .ge (.call "left_threaded" (.cons (.var 1) (.cons (.var 2) (.cons (.var 4) .nil)))) (.var 7)))) (.cons (.ret (.lit (.bl false))) .nil) .nil) .nil))))))))) (.cons (.ret (.lit (.bl true))) .nil))))⟩
def c_thru38 : Fn := ⟨3, 12, (.cons (.asg (.nm 3) (.call "_law_threaded" (.cons (.var 1) .nil))) (.cons (.asg (.nm 4) (.call "compiled_core" (.cons (.var 1) (.cons (.var 2) .nil)))) (.cons (.asg (.nm 5) (.call "begin_of_stack" (.cons (.var 4) .nil))) (.cons (.for_ (.nm 6) (.seq (.call "_law_words" (.cons (.var 0) (.cons (.bin .add (.lit (.int 1)) (.call "_law_take" (.cons (.var 0) (.cons (.lit (.int 70)) .nil)))) (.cons (.ix (.var 2) (.lit (.int 0))) .nil))))) (.cons (.asg (.nm 7) (.call "seen_core" (.cons (.var 1) (.cons (.var 2) (.cons (.var 5) .nil))))) (.cons (.asg (.nm 8) (.call "_law_seen" (.cons (.var 1) (.cons (.var 7) .nil)))) (.cons (.asg (.nm 9) (.tup (.cons (.call "left_threaded" (.cons (.var 1) (.cons (.var 2) (.cons (.var 7) .nil)))) (.cons (.call "left_core" (.cons (.var 1) (.cons (.var 2) (.cons (.var 5) .nil)))) .nil)))) (.cons (.asg (.nm 5) (.call "step_of_stack" (.cons (.var 4) (.cons (.var 5) (.cons (.var 6) .nil))))) (.cons (.asg (.nm 7) (.call "seen_core" (.cons (.var 1) (.cons (.var 2) (.cons (.var 5) .nil))))) (.cons (.asg (.nm 10) (.call "_law_seen" (.cons (.var 1) (.cons (.var 7) .nil)))) (.cons (.asg (.nm 11) (.cmp .lt (.tup (.cons (.call "left_threaded" (.cons (.var 1) (.cons (.var 2) (.cons (.var 7) .nil)))) (.cons (.call "left_core" (.cons (.var 1) (.cons (.var 2) (.cons (.var 5) .nil)))) .nil))) (.var 9))) (.cons (.ifs (.and (.cmp .ne (.var 10) (.call "_law_core_step" (.cons (.var 3) (.cons (.var 2) (.cons (.var 8) (.cons (.var 6) .nil)))))) (.not (.and (.cmp .eq (.var 10) (.var 8)) (.var 11)))) (.cons (.ret (.lit (.bl false))) .nil) .nil) .nil))))))))) (.cons (.ret (.lit (.bl true))) .nil)))))⟩
def c_law : Fn := ⟨1, 12, (.cons (.asg (.nm 1) (.call "_law_draws" (.cons (.var 0) (.cons (.lit (.int 460)) .nil)))) (.cons (.asg (.nm 2) (.bin .add (.lit (.int 2)) (.call "_law_take" (.cons (.var 1) (.cons (.lit (.int 3)) .nil))))) (.cons (.asg (.nm 3) (.call "_law_half" (.cons (.var 2) .nil))) (.cons (.asg (.nm 4) (.tup (.cons (.var 2) (.cons (.call "_law_take" (.cons (.var 1) (.cons (.lit (.int 2)) .nil))) (.cons (.lit (.int 1)) .nil))))) (.cons (.for_ (.nm 5) (.rng1 (.lit (.int 3))) (.cons (.asg (.nm 6) (.call "_law_thin" (.cons (.var 1) (.cons (.call "_law_core_program" (.cons (.var 1) (.cons (.bin .add (.lit (.int 1)) (.call "_law_take" (.cons (.var 1) (.cons (.lit (.int 2)) .nil)))) (.cons (.bin .add (.lit (.int 1)) (.call "_law_take" (.cons (.var 1) (.cons (.lit (.int 7)) .nil)))) (.cons (.var 3) (.cons (.lit (.int 2)) (.cons (.lit (.int 1)) .nil))))))) .nil)))) (.cons (.asg (.nm 7) (.call "_law_threaded" (.cons (.var 6) .nil))) (.cons (.ifs (.or (.not (.call "_law_same" (.cons (.call "core_threaded" (.cons (.var 6) .nil)) (.cons (.var 7) .nil)))) (.not (.call "_law_same" (.cons (.call "core_threaded" (.cons (.var 7) .nil)) (.cons (.var 7) .nil))))) (.cons (.ret (.lit (.bl false))) .nil) .nil) (.cons (.for_ (.nm 8) (.rng1 (.b1 .len (.ix (.var 6) (.lit (.int 1))))) (.cons (.ifs (.or (.not (.call "_law_same" (.cons (.call "is_core_empty" (.cons (.var 6) (.cons (.var 8) .nil))) (.cons (.call "_law_is_empty" (.cons (.var 6) (.cons (.var 8) .nil))) .nil)))) (.not (.call "_law_same" (.cons (.call "core_thread" (.cons (.var 6) (.cons (.var 8) .nil))) (.cons (.ix (.call "_law_thread" (.cons (.var 6) (.cons (.var 8) .nil))) (.lit (.int 0))) .nil))))) (.cons (.ret (.lit (.bl false))) .nil) .nil) .nil)) (.cons (.for_ (.nm 8) (.seq (.call "core_reached" (.cons (.var 7) .nil))) (.cons (.ifs (.and (.call "_law_is_empty" (.cons (.var 7) (.cons (.var 8) .nil))) (.cmp .ne (.ix (.ix (.ix (.var 7) (.lit (.int 1))) (.var 8)) (.lit (.int 1))) (.tup (.cons (.lit (.str "goto")) (.cons (.var 8) .nil))))) (.cons (.ret (.lit (.bl false))) .nil) .nil) .nil)) (.cons (.ifs (.or (.not (.call "_law_goes" (.cons (.var 1) (.cons (.var 6) (.cons (.var 4) .nil))))) (.not (.call "_law_goes_through" (.cons (.var 1) (.cons (.var 6) (.cons (.var 4) .nil)))))) (.cons (.ret (.lit (.bl false))) .nil) .nil) .nil))))))) (.cons (.asg (.nm 9) (.tup (.cons (.lit (.int 1)) (.cons (.tup (.cons (.tup (.cons (.tup .nil) (.cons (.tup (.cons (.lit (.str "test")) (.cons (.tup (.cons (.lit (.str "of")) (.cons (.lit (.int 0)) .nil))) (.cons (.lit (.int 1)) (.cons (.lit (.int 3)) .nil))))) .nil))) (.cons (.tup (.cons (.tup .nil) (.cons (.tup (.cons (.lit (.str "goto")) (.cons (.lit (.int 4)) .nil))) .nil))) (.cons (.tup (.cons (.tup .nil) (.cons (.tup (.cons (.lit (.str "goto")) (.cons (.lit (.int 4)) .nil))) .nil))) (.cons (.tup (.cons (.tup (.cons (.tup (.cons (.lit (.str "hear")) (.cons (.lit (.int 0)) .nil))) .nil)) (.cons (.tup (.cons (.lit (.str "goto")) (.cons (.lit (.int 0)) .nil))) .nil))) (.cons (.tup (.cons (.tup .nil) (.cons (.tup (.cons (.lit (.str "goto")) (.cons (.lit (.int 2)) .nil))) .nil))) .nil)))))) .nil)))) (.cons (.asg (.nm 10) (.tup (.cons (.lit (.int 1)) (.cons (.tup (.cons (.tup (.cons (.tup .nil) (.cons (.tup (.cons (.lit (.str "test")) (.cons (.tup (.cons (.lit (.str "of")) (.cons (.lit (.int 0)) .nil))) (.cons (.lit (.int 2)) (.cons (.lit (.int 3)) .nil))))) .nil))) (.cons (.tup (.cons (.tup .nil) (.cons (.tup (.cons (.lit (.str "goto")) (.cons (.lit (.int 2)) .nil))) .nil))) (.cons (.tup (.cons (.tup .nil) (.cons (.tup (.cons (.lit (.str "goto")) (.cons (.lit (.int 2)) .nil))) .nil))) (.cons (.tup (.cons (.tup (.cons (.tup (.cons (.lit (.str "hear")) (.cons (.lit (.int 0)) .nil))) .nil)) (.cons (.tup (.cons (.lit (.str "goto")) (.cons (.lit (.int 0)) .nil))) .nil))) (.cons (.tup (.cons (.tup .nil) (.cons (.tup (.cons (.lit (.str "goto")) (.cons (.lit (.int 2)) .nil))) .nil))) .nil)))))) .nil)))) (.cons (.ifs (.or (.not (.call "_law_same" (.cons (.call "core_threaded" (.cons (.var 9) .nil)) (.cons (.var 10) .nil)))) (.not (.call "_law_same" (.cons (.call "core_thread" (.cons (.var 9) (.cons (.lit (.int 1)) .nil))) (.cons (.lit (.int 2)) .nil))))) (.cons (.ret (.lit (.bl false))) .nil) .nil) (.cons (.ret (.call "_law_same" (.cons (.b1 .tup (.comp (.nm 8) (.rng1 (.lit (.int 5))) [11, 8] (.call "left_threaded" (.cons (.var 9) (.cons (.tup (.cons (.lit (.int 2)) (.cons (.lit (.int 0)) (.cons (.lit (.int 1)) .nil)))) (.cons (.tup (.cons (.var 8) (.cons (.lit (.int 0)) (.cons (.tup (.cons (.b1 .int (.cmp .ne (.var 8) (.lit (.int 3)))) .nil)) (.cons (.tup .nil) (.cons (.tup (.cons (.lit (.int 0)) .nil)) .nil)))))) .nil)))))) (.cons (.tup (.cons (.lit (.int 0)) (.cons (.lit (.int 1)) (.cons (.lit (.int 0)) (.cons (.lit (.int 0)) (.cons (.lit (.int 0)) .nil)))))) .nil)))) .nil)))))))))⟩
structure SH (P : Prog) : Prop where
  sk : SK P
  sn : SN P
  sl : SL P
  dc : DC P
  th : TH P
  tl : TL P
  same : P.fn "_law_same" = some c__law_same
  goes : P.fn "_law_goes" = some c_goes38
  thru : P.fn "_law_goes_through" = some c_thru38
  thin : P.fn "_law_thin" = some c_thin38
def Zp (p : Pgm) (s : Stt) : Prop := ∀ blk, p.bs[s.b]? = some blk → s.p ≤ blk.1.length
theorem stepS_Zp {half : Nat} {p : Pgm} {s : Stt} {heard : Nat} (z : Zp p s) : Zp p (stepS half p s heard) := by
  intro blk2 h
  cases eb : p.bs[s.b]? with
  | none => rw [stepS_end eb] at h ⊢; exact z _ h
  | some blk =>
    cases ec : blk.1[s.p]? with
    | none =>
      rw [stepS_jmp eb ec] at h ⊢
      cases ej : blk.2 with
      | halt => rw [ej] at h; exact z _ h
      | goto b => exact Nat.zero_le _
      | test e b c => exact Nat.zero_le _
    | some c =>
      have hl := (List.getElem?_eq_some_iff.mp ec).1
      rw [stepS_cmd eb ec] at h ⊢
      have key : ∀ {s2 : Stt}, s2.b = s.b → s2.p ≤ s.p + 1 → p.bs[s2.b]? = some blk2 → s2.p ≤ blk2.1.length := fun e1 e2 e3 => by
        rw [e1, eb] at e3
        cases e3
        omega
      cases c with
      | hear v => exact key (by rfl) (Nat.le_refl _) h
      | shw e => exact key (by rfl) (Nat.le_refl _) h
      | set v e => exact key (by rfl) (Nat.le_refl _) h
      | pair v e f =>
        simp only [cmdS] at h ⊢
        unfold pairS at h ⊢
        cases ef : fidx s.cs with
        | some j => rw [ef] at h; exact key (by rfl) (Nat.le_refl _) h
        | none =>
          rw [ef] at h
          simp only at h ⊢
          split
          · exact Nat.zero_le _
          · rename_i hh
            rw [if_neg hh] at h
            exact key (s2 := ⟨s.b, s.p, s.vs, left half s.cs s.vs, s.ls⟩) rfl (Nat.le_succ _) h
theorem Zp.e {p : Pgm} {s : Stt} (z : Zp p s) : empB p.bs s.b = true → s.p = 0 := fun h => by
  have := z _ (emp_blk h)
  simpa using this
theorem atS_Zp {half : Nat} {p : Pgm} {s : Stt} (z : Zp p s) (hs : List Nat) : ∀ i, Zp p (atS half p s hs i)
  | 0 => by simpa [atS] using z
  | i + 1 => by
    cases e : hs[i]? with
    | none =>
      have h1 := List.getElem?_eq_none_iff.mp e
      have : atS half p s hs (i + 1) = atS half p s hs i := by unfold atS; rw [List.take_of_length_le h1, List.take_of_length_le (by omega)]
      rw [this]
      exact atS_Zp z hs i
    | some x => rw [atS_s e]; exact stepS_Zp (atS_Zp z hs i)
theorem begS_Zp {p : Pgm} {cells lights : Nat} : Zp p (begS p cells lights) := fun _ _ => Nat.zero_le _
theorem see_ok {half k : Nat} {p : Pgm} (ok : POk half k p) {s : Stt} (so : Cor.SOk half k p s) : Cor.SOk half k (thP p) (seeS p s) := by
  have hn : (thP p).bs.length = p.bs.length := by simp [thP]
  unfold seeS
  split
  · rename_i h
    exact ⟨by rw [hn]; exact Nat.le_of_lt (thr_lt (pok_nx ok) (emp_lt h)), so.g, so.vl, so.cl, so.ml, so.ll⟩
  · exact ⟨by rw [hn]; exact so.b, so.g, so.vl, so.cl, so.ml, so.ll⟩
section
variable {P : Prog} {L : Nat} {h : AH} {Q : D → AH → Prop} {X : Xc} {half wide k lights cells : Nat} {p : Pgm} {m : Ms}
theorem goes38_i (hL : k + 10 ≤ L) (G : SH P) (hw : 2 ≤ wide) (hw2 : wide ≤ 100) (okP : POk (hf2 wide) k p) (hm : p.many ≤ 100) (hk : 1 ≤ k) (hc : cells ≤ 100) (hl : lights ≤ 100)
    {g : Nat} {ds : List Int} (hg : h g = some (.lst (iL ds))) (q : ∀ h', Kd h g h' → Q (.bl true) h') : wC P L "_law_goes" [.loc g, p.d, szD wide cells lights] h Q X := by
  obtain ⟨n, rfl⟩ : ∃ n, L = n + 1 := ⟨L - 1, by omega⟩
  have h2 : 2 ≤ hf2 wide := by
    unfold hf2
    have : 2 ^ 1 ≤ 2 ^ (wide - 1) := Nat.pow_le_pow_right (by decide) (by omega)
    omega
  have nx := pok_nx okP
  have hn := okP.n
  have zd : szD wide cells lights = .tup [.int wide, .int cells, .int lights] := rfl
  have so0 : Cor.SOk (hf2 wide) k p (begS p cells lights) := begS_ok h2 hm hc hl
  refine wC_i G.goes rfl ?_
  simp [-v_rB, c_goes38, List.replicate]
  refine law_thd_i (by omega) G.tl okP fun h1 s1 => ?_
  rw [v_rB]
  simp [-v_rB]
  refine law_begin_i (by omega) G.sl hm hc hl ?_
  rw [v_rB]
  simp [-v_rB]
  have kd0 := (Kd.refl hg).sub s1
  refine take_L (by omega) G.dc (by decide) (s1 g _ hg) fun md d1 m1 => ?_
  obtain ⟨mm, emm⟩ : ∃ m, m = md + 1 := ⟨_, rfl⟩
  have em2 : (1 : Int) + (md : Int) = (mm : Int) := by omega
  rw [zd]
  simp [-v_rB, em2]
  rw [← zd]
  refine words_i (by omega) G.dc G.sl (by omega) hw2 put_self (by omega) fun hs h2' hlen kd2 => ?_
  have kd : Kd h g h2' := ⟨kd2.dr, fun c o nc e => kd2.kp c o nc (by rw [put_ne nc]; exact kd0.kp c o nc e)⟩
  simp [-v_rB]
  refine for_f (fun i env h' => Kd h g h' ∧ ∃ o5 o6 o7 o8 o9, env = [some (.loc g), some p.d, some (szD wide cells lights), some (thP p).d, some (atS (hf2 wide) p (begS p cells lights) hs i).d, o5, o6, o7, o8, o9]) ⟨kd, none, none, none, none, none, rfl⟩ ?_ ?_
  · rintro i x env h' N hx ⟨kd, o5, o6, o7, o8, o9, rfl⟩ hN
    rw [nL, List.getElem?_map, Option.map_eq_some_iff] at hx
    obtain ⟨y, hy, rfl⟩ := hx
    have so := atS_ok okP h2 so0 hs i
    have so2 := atS_ok okP h2 so0 hs (i + 1)
    have zp : Zp p (atS (hf2 wide) p (begS p cells lights) hs i) := atS_Zp begS_Zp hs i
    have en : atS (hf2 wide) p (begS p cells lights) hs (i + 1) = stepS (hf2 wide) p (atS (hf2 wide) p (begS p cells lights) hs i) y := atS_s hy
    have ex : ∀ h3 o5 o6 o7 o8 o9, Sub h' h3 → N [some (.loc g), some p.d, some (szD wide cells lights), some (thP p).d, some (atS (hf2 wide) p (begS p cells lights) hs (i + 1)).d, o5, o6, o7, o8, o9] h3 := fun h3 o5 o6 o7 o8 o9 s3 => hN _ _ ⟨kd.sub s3, _, _, _, _, _, rfl⟩
    generalize atS (hf2 wide) p (begS p cells lights) hs i = s at *
    generalize atS (hf2 wide) p (begS p cells lights) hs (i + 1) = t at *
    have st := step_th (half := hf2 wide) (heard := y) zp.e
    rw [← en] at st
    have ok2 := see_ok okP so
    simp [-v_rB]
    refine seen_th_i (by omega) G.th nx (by omega) so.b fun h3 s3 => ?_
    rw [v_rB]
    simp [-v_rB]
    refine left_th_i (by omega) G.th nx (by omega) so.b fun h4 s4 => ?_
    rw [v_rB]
    simp [-v_rB]
    refine law_seen_i (by omega) G.tl okP fun h5 s5 => ?_
    refine same_L (j := 3) G.same (by omega) (sm_st ok2) ?_
    simp [-v_rB]
    rw [v_rB]
    refine cut_i (fun env1 h1 => Sub h5 h1 ∧ env1 = [some (.loc g), some p.d, some (szD wide cells lights), some (thP p).d, some s.d, some (.int y), some (seeS p s).d, some (.int (lefS p s)), some (.int (lefS p s)), o9]) (fun N2 hN2 => ?_) ?_
    · by_cases z : s.b < p.bs.length
      · have z' : (s.b : Int) < (p.bs.length : Int) := by omega
        simp [-v_rB, z, z']
        refine law_thread_i (by omega) G.tl okP z fun h6 s6 => ?_
        simp [-v_rB]
        refine hN2 _ _ ⟨s6, ?_⟩
        unfold lefS
        rw [if_pos z]
      · have z' : ¬ (s.b : Int) < (p.bs.length : Int) := by omega
        simp [-v_rB, z, z']
        refine hN2 _ _ ⟨sub_refl, ?_⟩
        unfold lefS
        rw [if_neg z]
        rfl
    rintro _ h6 ⟨s6, rfl⟩
    simp [-v_rB]
    refine same_L (j := 0) G.same (by omega) (by rfl) ?_
    simp [-v_rB]
    rw [v_rB]
    simp [-v_rB]
    refine law_step_i (k := k) (by omega) G.sl hw hw2 okP so hk fun h7 s7 => ?_
    rw [← en, v_rB]
    simp [-v_rB]
    refine seen_th_i (by omega) G.th nx (by omega) so2.b fun h8 s8 => ?_
    rw [v_rB]
    simp [-v_rB]
    refine law_step_i (k := k) (by omega) G.sl hw hw2 (thP_ok okP) ok2 hk fun h9 s9 => ?_
    have s19 : Sub h' h9 := s3.trans (s4.trans (s5.trans (s6.trans (s7.trans (s8.trans s9)))))
    simp [-v_rB, ne_st]
    by_cases z : seeS p t = stepS (hf2 wide) (thP p) (seeS p s) y
    · simp [z]
      exact ex h9 _ _ _ _ _ s19
    · rcases st with st | ⟨st1, st2⟩
      · exact absurd st z
      · rw [st1] at z
        simp [-v_rB, z, st1]
        refine left_th_i (by omega) G.th nx (by omega) so2.b fun h10 s10 => ?_
        have lt : ¬ ((lefS p s : Int) ≤ (lefS p t : Int)) := by omega
        simp [lt, st2]
        exact ex h10 _ _ _ _ _ (s19.trans s10)
  · rintro env h' ⟨kd, o5, o6, o7, o8, o9, rfl⟩
    rw [v_nx, v_rB]
    simp
    exact someQ_i (q h' kd)
end
end K38
end Py
namespace Py
open PySem (Str)
namespace K38
open Cor
section
variable {P : Prog} {L : Nat} {h : AH} {Q : D → AH → Prop} {X : Xc} {half wide k lights cells : Nat} {p : Pgm} {m : Ms}
theorem thru_i (hL : k + 10 ≤ L) (hL2 : 13 ≤ L) (G : SH P) (hw : 2 ≤ wide) (hw2 : wide ≤ 100) (okP : POk (hf2 wide) k p) (hm : p.many ≤ 100) (hk : 1 ≤ k) (hc : cells ≤ 100) (hl : lights ≤ 100)
    {g : Nat} {ds : List Int} (hg : h g = some (.lst (iL ds))) (q : ∀ h', Kd h g h' → Q (.bl true) h') : wC P L "_law_goes_through" [.loc g, p.d, szD wide cells lights] h Q X := by
  obtain ⟨n, rfl⟩ : ∃ n, L = n + 1 := ⟨L - 1, by omega⟩
  have h2 : 2 ≤ hf2 wide := by
    unfold hf2
    have : 2 ^ 1 ≤ 2 ^ (wide - 1) := Nat.pow_le_pow_right (by decide) (by omega)
    omega
  have nx := pok_nx okP
  have hn := okP.n
  have zd : szD wide cells lights = .tup [.int wide, .int cells, .int lights] := rfl
  have td : D.tup [.int wide, .int lights, .int p.pl, .int p.many, .int cells, .tup (rwL (pRows p.bs (addr p.bs)))] = tD wide lights p.pl p.many cells (pRows p.bs (addr p.bs)) := rfl
  have M0 : Minv (hf2 wide) k lights p (m0 p cells lights) := m0_Minv okP h2 hm hc hl
  refine wC_i G.thru rfl ?_
  simp [-v_rB, c_thru38, List.replicate]
  refine law_thd_i (by omega) G.tl okP fun h1 s1 => ?_
  rw [v_rB, zd]
  simp [-v_rB]
  refine compiled_i (k := k) (by omega) G.sn.cc okP ?_
  rw [v_rB, td, ← zd]
  simp [-v_rB]
  refine sbegin_i (by omega) G.sk hm hc hl okP.s ?_
  rw [v_rB]
  simp [-v_rB]
  have kd0 := (Kd.refl hg).sub s1
  refine take_L (by omega) G.dc (by decide) (s1 g _ hg) fun md d1 m1 => ?_
  obtain ⟨mm, emm⟩ : ∃ m, m = md + 1 := ⟨_, rfl⟩
  have em2 : (1 : Int) + (md : Int) = (mm : Int) := by omega
  rw [zd]
  simp [-v_rB, em2]
  rw [← zd]
  refine words_i (by omega) G.dc G.sl (by omega) hw2 put_self (by omega) fun hs h2' hlen kd2 => ?_
  have kd : Kd h g h2' := ⟨kd2.dr, fun c o nc e => kd2.kp c o nc (by rw [put_ne nc]; exact kd0.kp c o nc e)⟩
  simp [-v_rB]
  refine for_f (fun i env h' => Kd h g h' ∧ ∃ o6 o7 o8 o9 o10 o11, env = [some (.loc g), some p.d, some (szD wide cells lights), some (thP p).d, some (tD wide lights p.pl p.many cells (pRows p.bs (addr p.bs))), some (msS p (msN (hf2 wide) p (m0 p cells lights) hs i)).d, o6, o7, o8, o9, o10, o11]) ⟨kd, none, none, none, none, none, none, rfl⟩ ?_ ?_
  · rintro i x env h' N hx ⟨kd, o6, o7, o8, o9, o10, o11, rfl⟩ hN
    rw [nL, List.getElem?_map, Option.map_eq_some_iff] at hx
    obtain ⟨y, hy, rfl⟩ := hx
    have M1 := msN_Minv okP h2 M0 hs i
    have M2 := msN_Minv okP h2 M0 hs (i + 1)
    have nl := next_left M1.ok y
    have en : msN (hf2 wide) p (m0 p cells lights) hs (i + 1) = nextM (hf2 wide) p (msN (hf2 wide) p (m0 p cells lights) hs i) y := msN_s hy
    rw [← en] at nl
    have ex : ∀ h3 o6 o7 o8 o9 o10 o11, Sub h' h3 → N [some (.loc g), some p.d, some (szD wide cells lights), some (thP p).d, some (tD wide lights p.pl p.many cells (pRows p.bs (addr p.bs))), some (msS p (msN (hf2 wide) p (m0 p cells lights) hs (i + 1))).d, o6, o7, o8, o9, o10, o11] h3 := fun h3 o6 o7 o8 o9 o10 o11 s3 => hN _ _ ⟨kd.sub s3, _, _, _, _, _, _, rfl⟩
    generalize hA : msN (hf2 wide) p (m0 p cells lights) hs i = mA at *
    generalize hB : msN (hf2 wide) p (m0 p cells lights) hs (i + 1) = mB at *
    have zp : Zp p mA.s := fun blk e => (M1.ok.ph blk e).1
    have st := step_th (half := hf2 wide) (heard := y) zp.e
    have ok2 := see_ok okP M1.ok.s
    simp [-v_rB]
    refine seen_i (by omega) G.sn okP M1.ok M1.z fun h3 s3 => ?_
    rw [v_rB]
    simp [-v_rB]
    refine law_seen_i (by omega) G.tl okP fun h4 s4 => ?_
    rw [v_rB]
    simp [-v_rB]
    refine left_th_i (by omega) G.th nx (by omega) M1.ok.s.b fun h5 s5 => ?_
    try simp [-v_rB]
    refine left_i (by omega) G.sn hw hw2 okP M1.ok M1.z fun h6 s6 => ?_
    try simp [-v_rB]
    rw [v_rB]
    simp [-v_rB]
    refine mstep_i (k := k) (by omega) G.sk hw hw2 okP M1.ok M1.l ?_
    rw [← en, v_rB]
    simp [-v_rB]
    refine seen_i (by omega) G.sn okP M2.ok M2.z fun h7 s7 => ?_
    rw [v_rB]
    simp [-v_rB]
    refine law_seen_i (by omega) G.tl okP fun h8 s8 => ?_
    rw [v_rB]
    simp [-v_rB]
    refine left_th_i (by omega) G.th nx (by omega) M2.ok.s.b fun h9 s9 => ?_
    try simp [-v_rB]
    refine left_i (by omega) G.sn hw hw2 okP M2.ok M2.z fun h10 s10 => ?_
    try simp [-v_rB]
    rw [v_rB]
    simp [-v_rB]
    refine law_step_i (k := k) (by omega) G.sl hw hw2 (thP_ok okP) ok2 hk fun h11 s11 => ?_
    have s19 : Sub h' h11 := s3.trans (s4.trans (s5.trans (s6.trans (s7.trans (s8.trans (s9.trans (s10.trans s11)))))))
    simp [-v_rB, ne_st, eq_st]
    have key : seeS p mB.s = stepS (hf2 wide) (thP p) (seeS p mA.s) y ∨ (seeS p mB.s = seeS p mA.s ∧ (lefS p mB.s < lefS p mA.s ∨ (lefS p mB.s = lefS p mA.s ∧ leftM (hf2 wide) p mB < leftM (hf2 wide) p mA))) := by
      by_cases z : leftM (hf2 wide) p mA = 0
      · have e1 := nl.1 z
        rw [e1]
        rcases st with st | ⟨st1, st2⟩
        · exact .inl st
        · exact .inr ⟨st1, .inl st2⟩
      · obtain ⟨e1, e2⟩ := nl.2 z
        rw [e1]
        exact .inr ⟨rfl, .inr ⟨rfl, by omega⟩⟩
    by_cases z : seeS p mB.s = stepS (hf2 wide) (thP p) (seeS p mA.s) y
    · simp [z]
      exact ex h11 _ _ _ _ _ _ s19
    · rcases key with st | ⟨st1, st2⟩
      · exact absurd st z
      · rw [st1] at z
        have st3 : lefS p mB.s < lefS p mA.s ∨ (lefS p mB.s : Int) = (lefS p mA.s : Int) ∧ leftM (hf2 wide) p mB < leftM (hf2 wide) p mA := by
          rcases st2 with a | ⟨a, b⟩
          · exact .inl a
          · exact .inr ⟨by omega, b⟩
        simp [z, st1]
        rw [if_pos st3]
        exact ex h11 _ _ _ _ _ _ s19
  · rintro env h' ⟨kd, o6, o7, o8, o9, o10, o11, rfl⟩
    rw [v_nx, v_rB]
    simp
    exact someQ_i (q h' kd)
end
end K38
end Py
namespace Py
open PySem (Str)
namespace K38
open Cor
structure Hk (P : Prog) : Prop where
  law : P.fn "law" = some c_law
  draws : P.fn "_law_draws" = some D3.c__law_draws
  same : P.fn "_law_same" = some c__law_same
  half : P.fn "_law_half" = some D3.c__law_half
  take : P.fn "_law_take" = some D3.c__law_take
  ex : P.fn "_law_core_expression" = some c__law_core_expression
  cm : P.fn "_law_core_command" = some c__law_core_command
  pg : P.fn "_law_core_program" = some c__law_core_program
  lpt : P.fn "_law_put" = some c__law_put
  lnu : P.fn "_law_number" = some c__law_number
  lcv : P.fn "_law_core_value" = some c__law_core_value
  lct : P.fn "_law_come_to" = some c__law_come_to
  lbt : P.fn "_law_bits" = some c__law_bits
  lpr : P.fn "_law_core_pair" = some c__law_core_pair
  lst : P.fn "_law_core_step" = some c__law_core_step
  lbg : P.fn "_law_core_begin" = some c__law_core_begin
  lwd : P.fn "_law_words" = some c__law_words
  ho : P.fn "half_of" = some c_half_of
  nz : P.fn "number_or_zero" = some c_number_or_zero
  ir : P.fn "item_referred_to" = some c_item_referred_to
  rk : P.fn "reckoned_in_core" = some c_reckoned_in_core
  cv : P.fn "core_value" = some c_core_value
  wi : P.fn "with_item_at" = some c_with_item_at
  er : P.fn "core_expression_rows" = some c_core_expression_rows
  pe : P.fn "places_for_expression" = some c_places_for_expression
  cr : P.fn "core_command_rows" = some c_core_command_rows
  pc : P.fn "places_for_command" = some c_places_for_command
  lj : P.fn "length_of_jump" = some c_length_of_jump
  lib : P.fn "lengths_in_block" = some c_lengths_in_block
  ba : P.fn "core_block_addresses" = some c_core_block_addresses
  jr : P.fn "core_jump_rows" = some c_core_jump_rows
  pb : P.fn "places_for_block" = some c_places_for_block
  rw : P.fn "core_rows" = some c_core_rows
  co : P.fn "compiled_core" = some c_compiled_core
  pr : P.fn "place_of_row_in_core" = some c_place_of_row_in_core
  ka : P.fn "is_kept_alone" = some c_is_kept_alone
  sn : P.fn "seen_core" = some c_seen_core
  lp : P.fn "left_at_place" = some c_left_at_place
  lc : P.fn "left_core" = some c_left_core
  p2 : P.fn "power_of_two" = some c_power_of_two
  hw : P.fn "half_of_wide" = some c_half_of_wide
  isr : P.fn "is_reference" = some c_is_reference
  cel : P.fn "cell_of" = some c_cell_of
  ca : P.fn "cells_among" = some c_cells_among
  ioc : P.fn "items_of_cell" = some c_items_of_cell
  cfo : P.fn "cells_found" = some c_cells_found
  cct : P.fn "cells_come_to" = some c_cells_come_to
  cc : P.fn "collected_cells" = some c_collected_cells
  fc : P.fn "free_cell" = some c_free_cell
  tk : P.fn "taken_from_stack" = some c_taken_from_stack
  fs : P.fn "full_state" = some c_full_state
  pos : P.fn "put_on_stack" = some c_put_on_stack
  v2 : P.fn "value_of_two" = some c_value_of_two
  v1 : P.fn "value_of_one" = some c_value_of_one
  s2 : P.fn "step_of_two" = some c_step_of_two
  s1 : P.fn "step_of_one" = some c_step_of_one
  sp : P.fn "step_of_pair" = some c_step_of_pair
  vp : P.fn "value_put" = some c_value_put
  st : P.fn "step_of_taking" = some c_step_of_taking
  sg : P.fn "step_of_going" = some c_step_of_going
  ss : P.fn "step_of_stack" = some c_step_of_stack
  bg : P.fn "begin_of_stack" = some c_begin_of_stack
  nv : P.fn "number_of_value" = some c_number_of_value
  nh : P.fn "number_heard" = some c_number_heard
  sb : P.fn "shown_bits" = some c_shown_bits
  bw : P.fn "bits_of_word" = some c_bits_of_word
  rt : P.fn "reference_to" = some c_reference_to
  rs : P.fn "roots_of_stack" = some c_roots_of_stack
  ac : P.fn "are_all_come_to" = some c_are_all_come_to
  g2 : P.gl "OF_TWO" = some twoN
  g1 : P.gl "OF_ONE" = some oneN
  gp : P.gl "PUTTING" = some putN
  goes : P.fn "_law_goes" = some c_goes38
  thru : P.fn "_law_goes_through" = some c_thru38
  thin : P.fn "_law_thin" = some c_thin38
  tem : P.fn "_law_is_empty" = some c__law_is_empty
  tth : P.fn "_law_thread" = some c__law_thread
  ttd : P.fn "_law_threaded" = some c__law_threaded
  tsn : P.fn "_law_seen" = some c__law_seen
  em : P.fn "is_core_empty" = some c_is_core_empty
  wy : P.fn "way_over_empty" = some c_way_over_empty
  th : P.fn "core_thread" = some c_core_thread
  gt : P.fn "core_goes_to" = some c_core_goes_to
  tj : P.fn "threaded_jump" = some c_threaded_jump
  td : P.fn "core_threaded" = some c_core_threaded
  tsh : P.fn "seen_threaded" = some c_seen_threaded
  tlf : P.fn "left_threaded" = some c_left_threaded
  rch : P.fn "core_reached" = some c_core_reached
theorem Hk.dc {P : Prog} (H : Hk P) : DC P := ⟨H.take, H.ex, H.cm, H.pg⟩
theorem Hk.sl {P : Prog} (H : Hk P) : SL P := ⟨H.lpt, H.lnu, H.lcv, H.lct, H.lbt, H.lpr, H.lst, H.lbg, H.lwd, H.half⟩
theorem Hk.sk {P : Prog} (H : Hk P) : SK P := ⟨⟨H.p2, H.hw, H.isr, H.cel, H.ca, H.ioc, H.cfo, H.cct⟩, H.cc, H.fc, H.tk, H.fs, H.pos, H.v2, H.v1, H.s2, H.s1, H.sp, H.vp, H.st, H.sg, H.ss, H.bg, H.nv, H.nh, H.sb, H.bw, H.rt, H.rs, H.ac, H.g2, H.g1, H.gp⟩
theorem Hk.tt {P : Prog} (H : Hk P) : TH P := ⟨H.em, H.wy, H.th, H.gt, H.tj, H.td, H.tsh, H.tlf⟩
theorem Hk.tl {P : Prog} (H : Hk P) : TL P := ⟨H.tem, H.tth, H.ttd, H.tsn⟩
theorem Hk.sn2 {P : Prog} (H : Hk P) : SN P := ⟨⟨H.ho, H.nz, H.ir, H.rk, H.cv, H.wi⟩, ⟨H.er, H.pe, H.cr, H.pc, H.lj, H.lib, H.ba, H.jr, H.pb, H.rw, H.co⟩, H.pr, H.ka, H.sn, H.lp, H.lc⟩
theorem Hk.sh {P : Prog} (H : Hk P) : SH P := ⟨H.sk, H.sn2, H.sl, H.dc, H.tt, H.tl, H.same, H.goes, H.thru, H.thin⟩
def ring : Pgm := ⟨1, [([], .test (.of 0) 1 3), ([], .goto 4), ([], .goto 4), ([.hear 0], .goto 0), ([], .goto 2)]⟩
def duer : Pgm := ⟨1, [([], .test (.of 0) 2 3), ([], .goto 2), ([], .goto 2), ([.hear 0], .goto 0), ([], .goto 2)]⟩
theorem ring_ok : POk (hf2 2) 1 ring := by
  refine ⟨fun b hb => ?_, by decide, by decide, by decide⟩
  simp [ring] at hb
  rcases hb
      with rfl | rfl | rfl | rfl
  · exact ⟨fun c hc => by simp at hc, ⟨⟨by show 0 < 1; decide, by decide⟩, by decide, by decide⟩, by decide⟩
  · exact ⟨fun c hc => by simp at hc, by show 4 < 5; decide, by decide⟩
  · refine ⟨fun c hc => ?_, by show 0 < 5; decide, by decide⟩
    simp at hc
    subst hc
    show 0 < 1
    decide
  · exact ⟨fun c hc => by simp at hc, by show 2 < 5; decide, by decide⟩
theorem ring_th : thP ring = duer := rfl
theorem ring_1 : thr ring.bs 1 = 2 := rfl
theorem ring_l : (List.range 5).map (lft ring.bs) = [0, 1, 0, 0, 0] := rfl
/-- what is come to in the threaded one is a block, not empty or on itself -/
theorem tg_self {p : Pgm} {x : Nat} (t : Tg0 (thP p) x) (e : empB (thP p).bs x = true) : (thP p).bs[x]? = some ([], .goto x) := by
  have hx : ∃ c, x = thr p.bs c := by
    rcases t with rfl | ⟨b, hb, hw⟩
    · rw [empB_0] at e; cases e
    · simp only [thP, List.mem_map] at hb
      obtain ⟨b0, _, rfl⟩ := hb
      simp only [thB] at hw
      cases ej : b0.2 with
      | goto c => rw [ej] at hw; simp [thJ, Jmp.ws] at hw; exact ⟨c, hw⟩
      | halt => rw [ej] at hw; simp [thJ, Jmp.ws] at hw
      | test y c d =>
        rw [ej] at hw
        simp [thJ, Jmp.ws] at hw
        rcases hw with h | h
        · exact ⟨c, h⟩
        · exact ⟨d, h⟩
  obtain ⟨c, rfl⟩ := hx
  have e2 : empB p.bs (thr p.bs c) = true := by rw [← emp_th]; exact e
  have h2 : nxB (thP p).bs (thr p.bs c) = thr p.bs c := by rw [nx_th e2, (thr_next e2).1, thr_thr]
  have := emp_blk e
  rw [h2] at this
  exact this
theorem ne_self {a : Nm} {x : Nat} {h : AH} : cmpD .ne (.v (.tup [.str (nm a), .int x])) (.v (.tup [.str (nm a), .int x])) h = some false := by
  have e1 : ([D.str (nm a), .int x]).all (pu 40) = true := by
    show (pu 40 (.str (nm a)) && (pu 40 (.int x) && true)) = true
    rw [pu_nm, pu_in]; rfl
  have e2 : eqvs [D.str (nm a), .int x] [D.str (nm a), .int x] = true := by
    show (eqv (.str (nm a)) (.str (nm a)) && ((x : Int) == (x : Int) && true)) = true
    rw [eqv_nm]
    simp
  show (eqD (.v (.tup [D.str (nm a), .int x])) (.v (.tup [D.str (nm a), .int x])) h).map (!·) = _
  unfold eqD
  simp only [e1, e2, Bool.and_self, if_true]
  rfl
section
variable {P : Prog} {L : Nat} {h : AH} {Q : D → AH → Prop} {X : Xc} {half wide k lights cells : Nat} {p : Pgm} {m : Ms}
theorem thin_i (hL : 2 ≤ L) (G : SH P) (ok : POk half k p) {g : Nat} {ds : List Int} (hg : h g = some (.lst (iL ds)))
    (q : ∀ (p2 : Pgm) h', POk half k p2 → p2.many = p.many → p2.bs.length = p.bs.length → Kd h g h' → Q p2.d h') : wC P L "_law_thin" [.loc g, p.d] h Q X := by
  obtain ⟨n, rfl⟩ : ∃ n, L = n + 1 := ⟨L - 1, by omega⟩
  have hn := ok.n
  have hs := ok.s
  have hgn : h g ≠ none := by rw [hg]; simp
  refine wC_i G.thin rfl ?_
  simp [-v_rB, c_thin38, List.replicate]
  rw [v_rB]
  simp [-v_rB]
  intro a na
  have ag : a ≠ g := fun e => hgn (e ▸ na)
  rw [v_rB]
  simp [-v_rB]
  refine for_f (fun i env h' => ∃ (bs2 : List Blk) (o4 o5 : Option D), bs2.length = i ∧ (∀ b ∈ bs2, Cor.BOk half p.many k p.bs.length b) ∧ Kd h g h' ∧ h' a = some (.lst (bs2.map bD)) ∧ env = [some (.loc g), some p.d, some (.int p.bs.length), some (.loc a), o4, o5]) ⟨[], none, none, rfl, by simp, (Kd.refl hg).own na ag _, by rw [put_self]; rfl, rfl⟩ ?_ ?_
  · rintro i x env h' N hx ⟨bs2, o4, o5, hl, hb, kd, ha, rfl⟩ hN
    rw [List.getElem?_map, Option.map_eq_some_iff] at hx
    obtain ⟨blk, hy, rfl⟩ := hx
    have hi := (List.getElem?_eq_some_iff.mp hy).1
    have bo := ok.b blk (List.mem_of_getElem? hy)
    have cap : (bs2.map bD).length < 16777216 := by simp; omega
    obtain ⟨dd, ed⟩ := kd.dr
    simp [-v_rB, q_app ha]
    refine take_L (by omega) G.dc (by decide) ed fun v d1 v1 => ?_
    have ha1 : put h' g (.lst (iL d1)) a = some (.lst (bs2.map bD)) := by rw [put_ne ag]; exact ha
    have kd1 : Kd h g (put h' g (.lst (iL d1))) := kd.take _
    by_cases z : v = 0
    · simp [-v_rB, z, n14]
      refine take_L (by omega) G.dc (by omega) put_self fun w d2 w1 => ?_
      have ha2 : put h' g (.lst (iL d2)) a = some (.lst (bs2.map bD)) := by rw [put_ne ag]; exact ha
      simp [m_app ha2 cap]
      refine hN _ _ ⟨bs2 ++ [([], .goto w)], _, _, by simp [hl], fun b hb2 => ?_, (kd.take _).own na ag _, by rw [put_self]; simp [bD, Jmp.d], rfl⟩
      rcases List.mem_append.mp hb2 with h1 | h1
      · exact hb b h1
      · rw
            [List.mem_singleton.mp h1]
        exact ⟨fun c hc => by simp at hc, by show w < p.bs.length; omega, by simp⟩
    · have z' : ¬ (v : Int) = 0 := by omega
      simp [z, z', m_app ha1 cap]
      refine hN _ _ ⟨bs2 ++ [blk], _, _, by simp [hl], fun b hb2 => ?_, kd1.own na ag _, by rw [put_self]; simp [bD], rfl⟩
      rcases List.mem_append.mp hb2 with h1 | h1
      · exact hb b h1
      · rw
            [List.mem_singleton.mp h1]
        exact bo
  · rintro env h' ⟨bs2, o4, o5, hl, hb, kd, ha, rfl⟩
    rw [List.length_map] at hl
    rw [v_nx, v_rB]
    simp [ha]
    exact someQ_i (q ⟨p.many, bs2⟩ h' ⟨fun b h1 => by rw [hl]; exact hb b h1, by rw [hl]; exact hs, by rw [hl]; exact hn, ok.k⟩ rfl hl kd)
end
end K38
end Py
namespace Py
open PySem (Str)
namespace K38
open Cor
section
variable {P : Prog}
theorem law38 (H : Hk P) (ns : List Int) (hn : ns.length ≤ 63) : wC P 15 "law" [.fl (iL ns)] (fun _ => none) (fun v _ => v = .bl true) noX := by
  have s3 : small62 3 = true := by decide
  have G := H.sh
  refine wC_i H.law rfl ?_
  simp only [c_law, v_start, List.replicate, List.length_cons, List.length_nil, List.map_cons, List.map_nil, List.cons_append, List.nil_append]
  simp [-v_rB]
  refine D3.draws_i (m := 460) H.draws hn (by decide) fun g ds ng => ?_
  rw [v_rB]
  try simp [-v_rB]
  refine take_L (by omega) H.dc (by decide) put_self fun wd d1 w1 => ?_
  obtain ⟨wide, ew⟩ : ∃ w, w = wd + 2 := ⟨_, rfl⟩
  have ew2 : (2 : Int) + (wd : Int) = (wide : Int) := by omega
  simp [-v_rB, ew2]
  rw [v_rB]
  simp [-v_rB]
  refine D3.half_i (w := wide) H.half (by omega) (by omega) ?_
  have eh : 2 ^ (wide - 1) = hf2 wide := rfl
  rw [eh, v_rB]
  have hp : 0 < hf2 wide := Nat.pow_pos (by decide)
  simp [-v_rB, s3]
  refine take_L (by omega) H.dc (by decide) put_self fun cells d2 c1 => ?_
  try simp [-v_rB]
  have zd : D.tup [.int wide, .int cells, .int 1] = szD wide cells 1 := rfl
  rw [zd, v_rB]
  simp [-v_rB, s3]
  generalize eg : put _ g (.lst (iL d2)) = h0
  have hg : h0 g = some (.lst (iL d2)) := by rw [← eg]; simp
  clear eg
  have hgn : h0 g ≠ none := by rw [hg]; simp
  refine for_f (fun i env h' => Kd h0 g h' ∧ ∃ o5 o6 o7 o8, env = [some (.fl (iL ns)), some (.loc g), some (.int wide), some (.int (hf2 wide)), some (szD wide cells 1), o5, o6, o7, o8, none, none, none]) ⟨Kd.refl hg, none, none, none, none, rfl⟩ ?_ ?_
  · rintro t x _ h' N hx ⟨kd, o5, o6, o7, o8, rfl⟩ hN
    obtain ⟨da, ea⟩ := kd.dr
    simp [-v_rB]
    refine take_L (by omega) H.dc (by decide) ea fun mn d4 m1 => ?_
    obtain ⟨many, em⟩ : ∃ l, l = mn + 1 := ⟨_, rfl⟩
    have em2 : (1 : Int) + (mn : Int) = (many : Int) := by omega
    try simp [-v_rB, em2]
    refine take_L (by omega) H.dc (by decide) put_self fun sz d5 z1 => ?_
    obtain ⟨size, es⟩ : ∃ l, l = sz + 1 := ⟨_, rfl⟩
    have es2 : (1 : Int) + (sz : Int) = (size : Int) := by omega
    simp [-v_rB, es2]
    refine core_pgm_i (deep := 1) (most := 2) (many := many) (size := size) (half := hf2 wide) (by omega) H.dc hp put_self (by omega) (by omega) (by omega) (by omega) fun p1 d6 ok1 pm1 pl1 => ?_
    have kd1 : Kd h0 g (put h' g (.lst (iL d6))) := kd.take _
    try simp [-v_rB]
    refine thin_i (k := 2) (by omega) G ok1 put_self fun p h2 ok pm pl kd2 => ?_
    have kd3 : Kd h0 g h2 := ⟨kd2.dr, fun b o nb e => kd2.kp b o nb (kd1.kp b o nb e)⟩
    clear kd1 kd2
    have nx := pok_nx ok
    have pn := ok.n
    have ok2 := thP_ok ok
    have smp : sm 7 (thP p).d = true := sm_pgm ok2
    rw [v_rB]
    simp [-v_rB]
    refine law_thd_i (by omega) G.tl ok fun h3 s3 => ?_
    rw [v_rB]
    simp [-v_rB]
    refine threaded_i (by omega) G.th ok fun h4 s4 => ?_
    try simp [-v_rB]
    refine same_L (j := 7) H.same (by omega) smp ?_
    simp [-v_rB]
    refine threaded_i (by omega) G.th ok2 fun h5 s5 => ?_
    rw [thP_thP]
    try simp [-v_rB]
    refine same_L (j := 7) H.same (by omega) smp ?_
    have kd4 := ((kd3.sub s3).sub s4).sub s5
    clear kd3
    have sb : small62 (p.bs.length : Int) = true := by simp [small62]; omega
    simp [-v_rB]
    rw [v_rB]
    simp [-v_rB, sb]
    refine for_f (fun i env h' => Kd h0 g h' ∧ ∃ o8, env = [some (.fl (iL ns)), some (.loc g), some (.int wide), some (.int (hf2 wide)), some (szD wide cells 1), some x, some p.d, some (thP p).d, o8, none, none, none]) ⟨kd4, _, rfl⟩ ?_ ?_
    · rintro b y _ h6 N2 hy ⟨kd5, o8', rfl⟩ hN2
      obtain ⟨hb, rfl⟩ := rngL_at hy
      simp [-v_rB]
      refine emp_i (by omega) G.th hb ?_
      try simp [-v_rB]
      refine law_emp_i (by omega) G.tl ok hb ?_
      try simp [-v_rB]
      refine same_L (j := 0) H.same (by omega) (by rfl) ?_
      simp [-v_rB]
      refine thread_i (by omega) G.th nx hb (by omega) fun h7 s7 => ?_
      try simp [-v_rB]
      refine law_thread_i (by omega) G.tl ok hb fun h8 s8 => ?_
      try simp [-v_rB]
      refine same_L (j := 0) H.same (by omega) (by rfl) ?_
      simp
      exact hN2 _ _ ⟨(kd5.sub s7).sub s8, _, rfl⟩
    · rintro _ h6 ⟨kd5, o8', rfl⟩
      rw [v_nx, v_rB]
      simp [-v_rB]
      refine reached_i (by omega) H.rch G.th ok2 fun xs h7 s7 hxs hxl => ?_
      simp [-v_rB]
      refine for_f (fun i env h' => Kd h0 g h' ∧ ∃ o8, env = [some (.fl (iL ns)), some (.loc g), some (.int wide), some (.int (hf2 wide)), some (szD wide cells 1), some x, some p.d, some (thP p).d, o8, none, none, none]) ⟨kd5.sub s7, _, rfl⟩ ?_ ?_
      · rintro b y _ h8 N2 hy ⟨kd6, o8', rfl⟩ hN2
        rw [nL, List.getElem?_map, Option.map_eq_some_iff] at hy
        obtain ⟨c, hc, rfl⟩ := hy
        obtain ⟨c1, c2⟩ := hxs c (List.mem_of_getElem? hc)
        simp [-v_rB]
        refine law_emp_i (by omega) G.tl ok2 c1 ?_
        by_cases e : empB (thP p).bs c = true
        · have eb := tg_self c2 e
          have ea : atI ((thP p).bs.map bD) (c : Int) = some (bD ([], .goto c)) := atN (by simp [eb])
          have ej : (Jmp.goto c).d = .tup [.str (nm .goto), .int c] := rfl
          simp [e, ea, n14, ej, ne_self]
          exact hN2 _ _ ⟨kd6, _, rfl⟩
        · simp [e]
          exact hN2 _ _ ⟨kd6, _, rfl⟩
      · rintro _ h8 ⟨kd6, o8', rfl⟩
        obtain ⟨db, eb⟩ := kd6.dr
        rw [v_nx, v_rB]
        simp [-v_rB]
        refine goes38_i (k := 2) (by omega) G (by omega) (by omega) ok (by omega) (by omega) (by omega) (by omega) eb fun h9 kd7 => ?_
        obtain ⟨dc, ec⟩ := kd7.dr
        simp [-v_rB]
        refine thru_i (k := 2) (by omega) (by omega) G (by omega) (by omega) ok (by omega) (by omega) (by omega) (by omega) ec fun h10 kd8 => ?_
        simp
        exact hN _ _ ⟨⟨kd8.dr, fun b o nb e => kd8.kp b o nb (kd7.kp b o nb (kd6.kp b o nb e))⟩, _, _, _, _, rfl⟩
  rintro _ h1 ⟨kd, o5, o6, o7, o8, rfl⟩
  have nxr := pok_nx ring_ok
  have rd : ring.d = .tup [.int 1, .tup [.tup [.tup [], .tup [.str (nm .test), .tup [.str (nm .of), .int 0], .int 1, .int 3]], .tup [.tup [], .tup [.str (nm .goto), .int 4]], .tup [.tup [], .tup [.str (nm .goto), .int 4]], .tup [.tup [.tup [.str (nm .hear), .int 0]], .tup [.str (nm .goto), .int 0]], .tup [.tup [], .tup [.str (nm .goto), .int 2]]]] := by
    simp [ring, Pgm.d, bD, Cmd.d, Jmp.d, CE.d]
  have dd : duer.d = .tup [.int 1, .tup [.tup [.tup [], .tup [.str (nm .test), .tup [.str (nm .of), .int 0], .int 2, .int 3]], .tup [.tup [], .tup [.str (nm .goto), .int 2]], .tup [.tup [], .tup [.str (nm .goto), .int 2]], .tup [.tup [.tup [.str (nm .hear), .int 0]], .tup [.str (nm .goto), .int 0]], .tup [.tup [], .tup [.str (nm .goto), .int 2]]]] := by
    simp [duer, Pgm.d, bD, Cmd.d, Jmp.d, CE.d]
  rw [v_nx, v_rB]
  simp [-v_rB, n1, n2, n4, n10, n11, n12, n14, n15, n16]
  rw [← rd, v_rB]
  simp [-v_rB, n1, n2, n4, n10, n11, n12, n14, n15, n16]
  rw [← dd, v_rB]
  simp [-v_rB]
  refine threaded_i (by omega) G.th ring_ok fun h2 s2 => ?_
  rw [ring_th]
  try simp [-v_rB]
  refine same_L (j := 6) H.same (by omega) (sm_pgm (thP_ok ring_ok)) ?_
  simp [-v_rB]
  refine thread_i (b := 1) (by omega) G.th nxr (by decide) (by decide) fun h3 s3 => ?_
  rw [ring_1]
  try simp [-v_rB]
  refine same_L (j := 0) H.same (by omega) (by rfl) ?_
  simp [-v_rB]
  rw [v_rB]
  have s5 : small62 5 = true := by decide
  simp [-v_rB, s5]
  refine comp_by (fun i acc h' => acc = nL ((List.range i).map (lft ring.bs))) rfl (fun _ _ _ _ _ => trivial) ?_ ?_
  · rintro i x acc h' N hx rfl hN
    simp only [v_fixi] at hx
    obtain ⟨hi, rfl⟩ := rngL_at hx
    have es : ∀ v : Int, D.tup [.int i, .int 0, .tup [.int v], .tup [], .tup [.int 0]] = D.tup [.int i, .int 0, .tup [.int v], .tup [], .tup [.int 0]] := fun _ => rfl
    simp [wipe]
    by_cases z : i = 3
    · subst z
      simp
      refine left_th_i (s := ⟨3, 0, [0], [], [0]⟩) (by omega) G.th nxr (by decide) (by decide) fun h4 s4 => ?_
      try simp
      refine hN _ _ ?_
      rfl
    · have z' : ¬ (i : Int) = 3 := by omega
      simp [z, z']
      refine left_th_i (s := ⟨i, 0, [1], [], [0]⟩) (by omega) G.th nxr (by decide) (by show i ≤ 5; omega) fun h4 s4 => ?_
      have lf : lefS ring ⟨i, 0, [1], [], [0]⟩ = lft ring.bs i := by
        unfold lefS
        rw [if_pos (by show i < 5; exact hi)]
      rw [lf]
      try simp
      refine ⟨by omega, hN _ _ ?_⟩
      simp [nL, List.range_succ]
  · rintro _ h' rfl
    simp only [v_fixi, rngL_length]
    rw [ring_l]
    try simp
    refine same_L (j := 1) H.same (by omega) (by rfl) ?_
    exact someQ_i rfl
end
end K38
end Py
namespace Lk38
open L2 Py PySem
def tp (i : Nat) : PySem.Stmt := PySem.Challenge.pw_texttoticks_k38_whole_threads_of_core_pr.main.body.getD i (.Pass ⟨0, 0, 0, 0⟩)
def c_half_of : Fn := ⟨1, 1, (.cons (.ret (.bin .shl (.lit (.int 1)) (.bin .sub (.var 0) (.lit (.int 1))))) .nil)⟩
def c_number_or_zero : Fn := ⟨2, 2, (.cons (.ret (.ite (.cmp .lt (.var 1) (.var 0)) (.var 1) (.lit (.int 0)))) .nil)⟩
def c_item_referred_to : Fn := ⟨4, 4, (.cons (.ret (.ite (.cmp .lt (.var 1) (.var 0)) (.lit (.int 0)) (.ix (.ix (.var 2) (.bin .sub (.var 1) (.var 0))) (.var 3)))) .nil)⟩
def c_reckoned_in_core : Fn := ⟨4, 6, (.cons (.ifs (.cmp .eq (.var 1) (.lit (.str "same"))) (.cons (.ret (.ite (.cmp .eq (.var 2) (.var 3)) (.lit (.int 1)) (.lit (.int 0)))) .nil) .nil) (.cons (.asg (.tp (.cons (.nm 4) (.cons (.nm 5) .nil))) (.tup (.cons (.call "number_or_zero" (.cons (.var 0) (.cons (.var 2) .nil))) (.cons (.call "number_or_zero" (.cons (.var 0) (.cons (.var 3) .nil))) .nil)))) (.cons (.ifs (.cmp .eq (.var 1) (.lit (.str "less"))) (.cons (.ret (.ite (.cmp .lt (.var 4) (.var 5)) (.lit (.int 1)) (.lit (.int 0)))) .nil) .nil) (.cons (.ret (.ite (.cmp .eq (.var 1) (.lit (.str "plus"))) (.bin .mod (.bin .add (.var 4) (.var 5)) (.var 0)) (.bin .mod (.bin .sub (.var 4) (.var 5)) (.var 0)))) .nil))))⟩
def c_core_value : Fn := ⟨4, 5, (.cons (.ifs (.cmp .eq (.ix (.var 1) (.lit (.int 0))) (.lit (.str "number"))) (.cons (.ret (.ix (.var 1) (.lit (.int 1)))) .nil) .nil) (.cons (.ifs (.cmp .eq (.ix (.var 1) (.lit (.int 0))) (.lit (.str "of"))) (.cons (.ret (.ix (.var 2) (.ix (.var 1) (.lit (.int 1))))) .nil) .nil) (.cons (.asg (.nm 4) (.call "core_value" (.cons (.var 0) (.cons (.ix (.var 1) (.lit (.int 1))) (.cons (.var 2) (.cons (.var 3) .nil)))))) (.cons (.ifs (.cmp .eq (.ix (.var 1) (.lit (.int 0))) (.lit (.str "paired"))) (.cons (.ret (.ite (.cmp .lt (.var 4) (.var 0)) (.lit (.int 0)) (.lit (.int 1)))) .nil) .nil) (.cons (.ifs (.cmp .eq (.ix (.var 1) (.lit (.int 0))) (.lit (.str "first"))) (.cons (.ret (.call "item_referred_to" (.cons (.var 0) (.cons (.var 4) (.cons (.var 3) (.cons (.lit (.int 0)) .nil)))))) .nil) .nil) (.cons (.ifs (.cmp .eq (.ix (.var 1) (.lit (.int 0))) (.lit (.str "second"))) (.cons (.ret (.call "item_referred_to" (.cons (.var 0) (.cons (.var 4) (.cons (.var 3) (.cons (.lit (.int 1)) .nil)))))) .nil) .nil) (.cons (.ret (.call "reckoned_in_core" (.cons (.var 0) (.cons (.ix (.var 1) (.lit (.int 0))) (.cons (.var 4) (.cons (.call "core_value" (.cons (.var 0) (.cons (.ix (.var 1) (.lit (.int 2))) (.cons (.var 2) (.cons (.var 3) .nil))))) .nil)))))) .nil)))))))⟩
def c_core_goes_to : Fn := ⟨1, 1, (.cons (.ifs (.cmp .eq (.ix (.var 0) (.lit (.int 0))) (.lit (.str "goto"))) (.cons (.ret (.tup (.cons (.ix (.var 0) (.lit (.int 1))) .nil))) .nil) .nil) (.cons (.ret (.ite (.cmp .eq (.ix (.var 0) (.lit (.int 0))) (.lit (.str "test"))) (.tup (.cons (.ix (.var 0) (.lit (.int 2))) (.cons (.ix (.var 0) (.lit (.int 3))) .nil))) (.tup .nil))) .nil))⟩
def c_core_reached : Fn := ⟨1, 4, (.cons (.asg (.nm 1) (.lst (.cons (.lit (.int 0)) .nil))) (.cons (.asg (.nm 2) (.lit (.int 0))) (.cons (.whl (.cmp .lt (.var 2) (.b1 .len (.var 1))) (.cons (.for_ (.nm 3) (.seq (.call "core_goes_to" (.cons (.ix (.ix (.ix (.var 0) (.lit (.int 1))) (.ix (.var 1) (.var 2))) (.lit (.int 1))) .nil))) (.cons (.ifs (.cmp .nin (.var 3) (.var 1)) (.cons (.expr (.mt .append (.var 1) (.cons (.var 3) .nil))) .nil) .nil) .nil)) (.cons (.aug 2 .add (.lit (.int 1))) .nil))) (.cons (.ret (.b1 .tup (.b1 .sorted (.var 1)))) .nil))))⟩
def c_is_core_empty : Fn := ⟨2, 4, (.cons (.asg (.tp (.cons (.nm 2) (.cons (.nm 3) .nil))) (.ix (.ix (.var 0) (.lit (.int 1))) (.var 1))) (.cons (.ret (.and (.cmp .ne (.var 1) (.lit (.int 0))) (.and (.cmp .eq (.b1 .len (.var 2)) (.lit (.int 0))) (.cmp .eq (.ix (.var 3) (.lit (.int 0))) (.lit (.str "goto")))))) .nil))⟩
def c_way_over_empty : Fn := ⟨2, 3, (.cons (.asg (.nm 2) (.lst .nil)) (.cons (.whl (.and (.call "is_core_empty" (.cons (.var 0) (.cons (.var 1) .nil))) (.cmp .nin (.var 1) (.var 2))) (.cons (.expr (.mt .append (.var 2) (.cons (.var 1) .nil))) (.cons (.asg (.nm 1) (.ix (.ix (.ix (.ix (.var 0) (.lit (.int 1))) (.var 1)) (.lit (.int 1))) (.lit (.int 1)))) .nil))) (.cons (.ret (.tup (.cons (.var 2) (.cons (.var 1) .nil)))) .nil)))⟩
def c_core_thread : Fn := ⟨2, 4, (.cons (.asg (.tp (.cons (.nm 2) (.cons (.nm 3) .nil))) (.call "way_over_empty" (.cons (.var 0) (.cons (.var 1) .nil)))) (.cons (.ifs (.cmp .inn (.var 3) (.var 2)) (.cons (.ret (.b1 .min (.sl (.var 2) (.so (.mt .index (.var 2) (.cons (.var 3) .nil))) .no))) .nil) .nil) (.cons (.ret (.var 3)) .nil)))⟩
def c_threaded_jump : Fn := ⟨2, 5, (.cons (.asg (.nm 2) (.b1 .tup (.comp (.nm 4) (.seq (.call "core_goes_to" (.cons (.var 1) .nil))) [3, 4] (.call "core_thread" (.cons (.var 0) (.cons (.var 4) .nil)))))) (.cons (.ret (.bin .add (.sl (.var 1) .no (.so (.bin .sub (.b1 .len (.var 1)) (.b1 .len (.var 2))))) (.var 2))) .nil))⟩
def c_core_threaded : Fn := ⟨1, 4, (.cons (.ret (.tup (.cons (.ix (.var 0) (.lit (.int 0))) (.cons (.b1 .tup (.comp (.tp (.cons (.nm 2) (.cons (.nm 3) .nil))) (.seq (.ix (.var 0) (.lit (.int 1)))) [1, 2, 3] (.tup (.cons (.var 2) (.cons (.call "threaded_jump" (.cons (.var 0) (.cons (.var 3) .nil))) .nil))))) .nil)))) .nil)⟩
def c_seen_threaded : Fn := ⟨3, 4, (.cons (.asg (.nm 3) (.ix (.var 2) (.lit (.int 0)))) (.cons (.ifs (.or (.cmp .eq (.var 3) (.b1 .len (.ix (.var 0) (.lit (.int 1))))) (.not (.call "is_core_empty" (.cons (.var 0) (.cons (.var 3) .nil))))) (.cons (.ret (.var 2)) .nil) .nil) (.cons (.ret (.bin .add (.tup (.cons (.call "core_thread" (.cons (.var 0) (.cons (.var 3) .nil))) .nil)) (.sl (.var 2) (.so (.lit (.int 1))) .no))) .nil)))⟩
def c_left_threaded : Fn := ⟨3, 6, (.cons (.asg (.nm 3) (.ix (.var 2) (.lit (.int 0)))) (.cons (.ifs (.cmp .eq (.var 3) (.b1 .len (.ix (.var 0) (.lit (.int 1))))) (.cons (.ret (.lit (.int 0))) .nil) .nil) (.cons (.asg (.tp (.cons (.nm 4) (.cons (.nm 5) .nil))) (.call "way_over_empty" (.cons (.var 0) (.cons (.var 3) .nil)))) (.cons (.ret (.ite (.cmp .nin (.var 5) (.var 4)) (.b1 .len (.var 4)) (.mt .index (.var 4) (.cons (.var 5) .nil)))) .nil))))⟩
def c_with_item_at : Fn := ⟨3, 3, (.cons (.ret (.bin .add (.bin .add (.sl (.var 0) .no (.so (.var 1))) (.tup (.cons (.var 2) .nil))) (.sl (.var 0) (.so (.bin .add (.var 1) (.lit (.int 1)))) .no))) .nil)⟩
def c_core_expression_rows : Fn := ⟨1, 3, (.cons (.ifs (.cmp .eq (.ix (.var 0) (.lit (.int 0))) (.lit (.str "number"))) (.cons (.ret (.tup (.cons (.tup (.cons (.lit (.str "push")) (.cons (.ix (.var 0) (.lit (.int 1))) .nil))) .nil))) .nil) .nil) (.cons (.ifs (.cmp .eq (.ix (.var 0) (.lit (.int 0))) (.lit (.str "of"))) (.cons (.ret (.tup (.cons (.tup (.cons (.lit (.str "load")) (.cons (.ix (.var 0) (.lit (.int 1))) .nil))) .nil))) .nil) .nil) (.cons (.asg (.nm 1) (.tup .nil)) (.cons (.for_ (.nm 2) (.seq (.sl (.var 0) (.so (.lit (.int 1))) .no)) (.cons (.asg (.nm 1) (.bin .add (.var 1) (.call "core_expression_rows" (.cons (.var 2) .nil)))) .nil)) (.cons (.ret (.bin .add (.var 1) (.tup (.cons (.tup (.cons (.ix (.var 0) (.lit (.int 0))) .nil)) .nil)))) .nil)))))⟩
def c_places_for_expression : Fn := ⟨1, 3, (.cons (.ifs (.cmp .inn (.ix (.var 0) (.lit (.int 0))) (.tup (.cons (.lit (.str "number")) (.cons (.lit (.str "of")) .nil)))) (.cons (.ret (.lit (.int 1))) .nil) .nil) (.cons (.asg (.nm 1) (.lit (.int 0))) (.cons (.for_ (.nm 2) (.rng2 (.lit (.int 1)) (.b1 .len (.var 0))) (.cons (.asg (.nm 1) (.b2 .max (.var 1) (.bin .add (.bin .sub (.var 2) (.lit (.int 1))) (.call "places_for_expression" (.cons (.ix (.var 0) (.var 2)) .nil))))) .nil)) (.cons (.ret (.var 1)) .nil))))⟩
def c_core_command_rows : Fn := ⟨1, 1, (.cons (.ifs (.cmp .eq (.ix (.var 0) (.lit (.int 0))) (.lit (.str "hear"))) (.cons (.ret (.tup (.cons (.tup (.cons (.lit (.str "hear")) .nil)) (.cons (.tup (.cons (.lit (.str "keep")) (.cons (.ix (.var 0) (.lit (.int 1))) .nil))) .nil)))) .nil) .nil) (.cons (.ifs (.cmp .eq (.ix (.var 0) (.lit (.int 0))) (.lit (.str "show"))) (.cons (.ret (.bin .add (.call "core_expression_rows" (.cons (.ix (.var 0) (.lit (.int 1))) .nil)) (.tup (.cons (.tup (.cons (.lit (.str "show")) .nil)) .nil)))) .nil) .nil) (.cons (.ifs (.cmp .eq (.ix (.var 0) (.lit (.int 0))) (.lit (.str "set"))) (.cons (.ret (.bin .add (.call "core_expression_rows" (.cons (.ix (.var 0) (.lit (.int 2))) .nil)) (.tup (.cons (.tup (.cons (.lit (.str "keep")) (.cons (.ix (.var 0) (.lit (.int 1))) .nil))) .nil)))) .nil) .nil) (.cons (.ret (.bin .add (.bin .add (.call "core_expression_rows" (.cons (.ix (.var 0) (.lit (.int 2))) .nil)) (.call "core_expression_rows" (.cons (.ix (.var 0) (.lit (.int 3))) .nil))) (.tup (.cons (.tup (.cons (.lit (.str "pair")) .nil)) (.cons (.tup (.cons (.lit (.str "keep")) (.cons (.ix (.var 0) (.lit (.int 1))) .nil))) .nil))))) .nil))))⟩
def c_places_for_command : Fn := ⟨1, 1, (.cons (.ifs (.cmp .eq (.ix (.var 0) (.lit (.int 0))) (.lit (.str "hear"))) (.cons (.ret (.lit (.int 1))) .nil) .nil) (.cons (.ifs (.cmp .eq (.ix (.var 0) (.lit (.int 0))) (.lit (.str "pair"))) (.cons (.ret (.b2 .max (.call "places_for_expression" (.cons (.ix (.var 0) (.lit (.int 2))) .nil)) (.bin .add (.lit (.int 1)) (.call "places_for_expression" (.cons (.ix (.var 0) (.lit (.int 3))) .nil))))) .nil) .nil) (.cons (.ret (.call "places_for_expression" (.cons (.ix (.var 0) (.neg (.lit (.int 1)))) .nil))) .nil)))⟩
def c_length_of_jump : Fn := ⟨1, 1, (.cons (.ret (.ite (.cmp .eq (.ix (.var 0) (.lit (.int 0))) (.lit (.str "test"))) (.bin .add (.b1 .len (.call "core_expression_rows" (.cons (.ix (.var 0) (.lit (.int 1))) .nil))) (.lit (.int 2))) (.lit (.int 1)))) .nil)⟩
def c_lengths_in_block : Fn := ⟨1, 3, (.cons (.ret (.bin .add (.comp (.nm 2) (.seq (.ix (.var 0) (.lit (.int 0)))) [1, 2] (.b1 .len (.call "core_command_rows" (.cons (.var 2) .nil)))) (.lst (.cons (.call "length_of_jump" (.cons (.ix (.var 0) (.lit (.int 1))) .nil)) .nil)))) .nil)⟩
def c_core_block_addresses : Fn := ⟨1, 3, (.cons (.asg (.nm 1) (.lst (.cons (.lit (.int 0)) .nil))) (.cons (.for_ (.nm 2) (.seq (.ix (.var 0) (.lit (.int 1)))) (.cons (.expr (.mt .append (.var 1) (.cons (.bin .add (.ix (.var 1) (.neg (.lit (.int 1)))) (.b1 .sum (.call "lengths_in_block" (.cons (.var 2) .nil)))) .nil))) .nil)) (.cons (.ret (.var 1)) .nil)))⟩
def c_core_jump_rows : Fn := ⟨2, 2, (.cons (.ifs (.cmp .eq (.ix (.var 0) (.lit (.int 0))) (.lit (.str "goto"))) (.cons (.ret (.tup (.cons (.tup (.cons (.lit (.str "jump")) (.cons (.ix (.var 1) (.ix (.var 0) (.lit (.int 1)))) .nil))) .nil))) .nil) .nil) (.cons (.ifs (.cmp .eq (.ix (.var 0) (.lit (.int 0))) (.lit (.str "halt"))) (.cons (.ret (.tup (.cons (.tup (.cons (.lit (.str "halt")) .nil)) .nil))) .nil) .nil) (.cons (.ret (.bin .add (.call "core_expression_rows" (.cons (.ix (.var 0) (.lit (.int 1))) .nil)) (.tup (.cons (.tup (.cons (.lit (.str "unless")) (.cons (.ix (.var 1) (.ix (.var 0) (.lit (.int 3)))) .nil))) (.cons (.tup (.cons (.lit (.str "jump")) (.cons (.ix (.var 1) (.ix (.var 0) (.lit (.int 2)))) .nil))) .nil))))) .nil)))⟩
def c_places_for_block : Fn := ⟨1, 6, (.cons (.asg (.tp (.cons (.nm 1) (.cons (.nm 2) .nil))) (.var 0)) (.cons (.asg (.nm 3) (.comp (.nm 5) (.seq (.var 1)) [4, 5] (.call "places_for_command" (.cons (.var 5) .nil)))) (.cons (.ret (.b1 .max (.bin .add (.var 3) (.lst (.cons (.ite (.cmp .eq (.ix (.var 2) (.lit (.int 0))) (.lit (.str "test"))) (.call "places_for_expression" (.cons (.ix (.var 2) (.lit (.int 1))) .nil)) (.lit (.int 1))) .nil))))) .nil)))⟩
def c_core_rows : Fn := ⟨1, 6, (.cons (.asg (.nm 1) (.call "core_block_addresses" (.cons (.var 0) .nil))) (.cons (.asg (.nm 2) (.tup .nil)) (.cons (.for_ (.tp (.cons (.nm 3) (.cons (.nm 4) .nil))) (.seq (.ix (.var 0) (.lit (.int 1)))) (.cons (.for_ (.nm 5) (.seq (.var 3)) (.cons (.asg (.nm 2) (.bin .add (.var 2) (.call "core_command_rows" (.cons (.var 5) .nil)))) .nil)) (.cons (.asg (.nm 2) (.bin .add (.var 2) (.call "core_jump_rows" (.cons (.var 4) (.cons (.var 1) .nil))))) .nil))) (.cons (.ret (.var 2)) .nil))))⟩
def c_compiled_core : Fn := ⟨2, 8, (.cons (.asg (.tp (.cons (.nm 2) (.cons (.nm 3) (.cons (.nm 4) .nil)))) (.var 1)) (.cons (.asg (.nm 5) (.b1 .max (.comp (.nm 7) (.seq (.ix (.var 0) (.lit (.int 1)))) [6, 7] (.call "places_for_block" (.cons (.var 7) .nil))))) (.cons (.ret (.tup (.cons (.var 2) (.cons (.var 4) (.cons (.var 5) (.cons (.ix (.var 0) (.lit (.int 0))) (.cons (.var 3) (.cons (.call "core_rows" (.cons (.var 0) .nil)) .nil)))))))) .nil)))⟩
def c_place_of_row_in_core : Fn := ⟨2, 9, (.cons (.asg (.nm 2) (.call "core_block_addresses" (.cons (.var 0) .nil))) (.cons (.asg (.nm 3) (.b1 .len (.compi (.nm 8) (.seq (.sl (.var 2) (.so (.lit (.int 1))) .no)) [7, 8] (.cmp .le (.var 8) (.var 1)) (.var 8)))) (.cons (.asg (.nm 4) (.bin .sub (.var 1) (.ix (.var 2) (.var 3)))) (.cons (.asg (.nm 5) (.call "lengths_in_block" (.cons (.ix (.ix (.var 0) (.lit (.int 1))) (.var 3)) .nil))) (.cons (.asg (.nm 6) (.lit (.int 0))) (.cons (.whl (.cmp .ge (.var 4) (.ix (.var 5) (.var 6))) (.cons (.aug 4 .sub (.ix (.var 5) (.var 6))) (.cons (.aug 6 .add (.lit (.int 1))) .nil))) (.cons (.ret (.tup (.cons (.var 3) (.cons (.var 6) (.cons (.var 4) .nil))))) .nil)))))))⟩
def c_is_kept_alone : Fn := ⟨4, 5, (.cons (.asg (.nm 4) (.ix (.ix (.ix (.var 0) (.lit (.int 1))) (.var 1)) (.lit (.int 0)))) (.cons (.ifs (.or (.cmp .eq (.var 2) (.b1 .len (.var 4))) (.cmp .nin (.ix (.ix (.var 4) (.var 2)) (.lit (.int 0))) (.tup (.cons (.lit (.str "hear")) (.cons (.lit (.str "pair")) .nil))))) (.cons (.ret (.lit (.bl false))) .nil) .nil) (.cons (.ret (.cmp .eq (.var 3) (.bin .sub (.b1 .len (.call "core_command_rows" (.cons (.ix (.var 4) (.var 2)) .nil))) (.lit (.int 1))))) .nil)))⟩
def c_seen_core : Fn := ⟨3, 11, (.cons (.asg (.tp (.cons (.nm 3) (.cons (.nm 4) (.cons (.nm 5) (.cons (.nm 6) (.cons (.nm 7) .nil)))))) (.var 2)) (.cons (.ifs (.cmp .gt (.var 3) (.ix (.call "core_block_addresses" (.cons (.var 0) .nil)) (.neg (.lit (.int 1))))) (.cons (.ret (.tup (.cons (.b1 .len (.ix (.var 0) (.lit (.int 1)))) (.cons (.lit (.int 0)) (.cons (.var 5) (.cons (.var 6) (.cons (.var 7) .nil))))))) .nil) .nil) (.cons (.asg (.tp (.cons (.nm 8) (.cons (.nm 9) (.cons (.nm 10) .nil)))) (.call "place_of_row_in_core" (.cons (.var 0) (.cons (.var 3) .nil)))) (.cons (.ifs (.call "is_kept_alone" (.cons (.var 0) (.cons (.var 8) (.cons (.var 9) (.cons (.var 10) .nil))))) (.cons (.asg (.nm 5) (.call "with_item_at" (.cons (.var 5) (.cons (.ix (.ix (.ix (.ix (.ix (.var 0) (.lit (.int 1))) (.var 8)) (.lit (.int 0))) (.var 9)) (.lit (.int 1))) (.cons (.ix (.var 4) (.neg (.lit (.int 1)))) .nil))))) (.cons (.aug 9 .add (.lit (.int 1))) .nil)) .nil) (.cons (.ret (.tup (.cons (.var 8) (.cons (.var 9) (.cons (.var 5) (.cons (.var 6) (.cons (.var 7) .nil))))))) .nil)))))⟩
def c_left_at_place : Fn := ⟨4, 13, (.cons (.asg (.tp (.cons (.nm 4) (.cons (.nm 5) (.cons (.nm 6) (.cons (.nm 7) (.cons (.nm 8) .nil)))))) (.var 2)) (.cons (.asg (.tp (.cons (.nm 9) (.cons (.nm 10) .nil))) (.ix (.ix (.var 0) (.lit (.int 1))) (.var 4))) (.cons (.ifs (.cmp .lt (.var 5) (.b1 .len (.var 9))) (.cons (.asg (.nm 11) (.b1 .len (.call "core_command_rows" (.cons (.ix (.var 9) (.var 5)) .nil)))) (.cons (.ret (.bin .sub (.bin .sub (.var 11) (.ite (.cmp .inn (.ix (.ix (.var 9) (.var 5)) (.lit (.int 0))) (.tup (.cons (.lit (.str "hear")) (.cons (.lit (.str "pair")) .nil)))) (.lit (.int 2)) (.lit (.int 1)))) (.var 3))) .nil)) .nil) (.cons (.ifs (.cmp .ne (.ix (.var 10) (.lit (.int 0))) (.lit (.str "test"))) (.cons (.ret (.lit (.int 0))) .nil) .nil) (.cons (.asg (.nm 12) (.cmp .eq (.call "core_value" (.cons (.call "half_of" (.cons (.ix (.var 1) (.lit (.int 0))) .nil)) (.cons (.ix (.var 10) (.lit (.int 1))) (.cons (.var 6) (.cons (.var 7) .nil))))) (.lit (.int 0)))) (.cons (.asg (.nm 11) (.call "length_of_jump" (.cons (.var 10) .nil))) (.cons (.ret (.bin .sub (.bin .sub (.var 11) (.ite (.var 12) (.lit (.int 2)) (.lit (.int 1)))) (.var 3))) .nil)))))))⟩
def c_left_core : Fn := ⟨3, 7, (.cons (.asg (.nm 3) (.call "seen_core" (.cons (.var 0) (.cons (.var 1) (.cons (.var 2) .nil))))) (.cons (.ifs (.cmp .eq (.ix (.var 3) (.lit (.int 0))) (.b1 .len (.ix (.var 0) (.lit (.int 1))))) (.cons (.ret (.lit (.int 0))) .nil) .nil) (.cons (.asg (.tp (.cons (.nm 4) (.cons (.nm 5) (.cons (.nm 6) .nil)))) (.call "place_of_row_in_core" (.cons (.var 0) (.cons (.ix (.var 2) (.lit (.int 0))) .nil)))) (.cons (.ifs (.call "is_kept_alone" (.cons (.var 0) (.cons (.var 4) (.cons (.var 5) (.cons (.var 6) .nil))))) (.cons (.ret (.bin .add (.lit (.int 1)) (.call "left_at_place" (.cons (.var 0) (.cons (.var 1) (.cons (.var 3) (.cons (.lit (.int 0)) .nil))))))) .nil) .nil) (.cons (.ret (.call "left_at_place" (.cons (.var 0) (.cons (.var 1) (.cons (.var 3) (.cons (.var 6) .nil)))))) .nil)))))⟩
def c_power_of_two : Fn := ⟨1, 3, (.cons (.asg (.nm 1) (.lit (.int 1))) (.cons (.for_ (.nm 2) (.rng1 (.var 0)) (.cons (.asg (.nm 1) (.bin .mul (.lit (.int 2)) (.var 1))) .nil)) (.cons (.ret (.var 1)) .nil)))⟩
def c_bits_of_word : Fn := ⟨2, 4, (.cons (.asg (.nm 2) (.lst .nil)) (.cons (.for_ (.nm 3) (.rng1 (.var 1)) (.cons (.expr (.mt .append (.var 2) (.cons (.bin .mod (.var 0) (.lit (.int 2))) .nil))) (.cons (.asg (.nm 0) (.bin .fdiv (.var 0) (.lit (.int 2)))) .nil))) (.cons (.ret (.b1 .tup (.var 2))) .nil)))⟩
def c_half_of_wide : Fn := ⟨1, 1, (.cons (.ret (.call "power_of_two" (.cons (.bin .sub (.var 0) (.lit (.int 1))) .nil))) .nil)⟩
def c_is_reference : Fn := ⟨2, 2, (.cons (.ret (.cmp .ge (.var 0) (.call "half_of_wide" (.cons (.var 1) .nil)))) .nil)⟩
def c_number_of_value : Fn := ⟨2, 2, (.cons (.ret (.ite (.call "is_reference" (.cons (.var 0) (.cons (.var 1) .nil))) (.lit (.int 0)) (.var 0))) .nil)⟩
def c_number_heard : Fn := ⟨2, 2, (.cons (.ret (.bin .mod (.var 0) (.call "half_of_wide" (.cons (.var 1) .nil)))) .nil)⟩
def c_shown_bits : Fn := ⟨2, 2, (.cons (.ret (.call "bits_of_word" (.cons (.var 0) (.cons (.var 1) .nil)))) .nil)⟩
def c_cell_of : Fn := ⟨2, 2, (.cons (.ret (.bin .sub (.var 0) (.call "half_of_wide" (.cons (.var 1) .nil)))) .nil)⟩
def c_reference_to : Fn := ⟨2, 2, (.cons (.ret (.bin .add (.call "half_of_wide" (.cons (.var 1) .nil)) (.var 0))) .nil)⟩
def c_cells_among : Fn := ⟨2, 4, (.cons (.asg (.nm 2) (.lst .nil)) (.cons (.for_ (.nm 3) (.seq (.var 0)) (.cons (.ifs (.and (.call "is_reference" (.cons (.var 3) (.cons (.var 1) .nil))) (.cmp .nin (.call "cell_of" (.cons (.var 3) (.cons (.var 1) .nil))) (.var 2))) (.cons (.expr (.mt .append (.var 2) (.cons (.call "cell_of" (.cons (.var 3) (.cons (.var 1) .nil))) .nil))) .nil) .nil) .nil)) (.cons (.ret (.var 2)) .nil)))⟩
def c_items_of_cell : Fn := ⟨2, 2, (.cons (.ret (.ite (.isc false (.ix (.var 0) (.var 1)) .non) (.tup .nil) (.ix (.var 0) (.var 1)))) .nil)⟩
def c_cells_found : Fn := ⟨3, 6, (.cons (.asg (.nm 3) (.call "cells_among" (.cons (.var 1) (.cons (.var 2) .nil)))) (.cons (.asg (.nm 4) (.lit (.int 0))) (.cons (.whl (.cmp .lt (.var 4) (.b1 .len (.var 3))) (.cons (.for_ (.nm 5) (.seq (.call "cells_among" (.cons (.call "items_of_cell" (.cons (.var 0) (.cons (.ix (.var 3) (.var 4)) .nil))) (.cons (.var 2) .nil)))) (.cons (.ifs (.cmp .nin (.var 5) (.var 3)) (.cons (.expr (.mt .append (.var 3) (.cons (.var 5) .nil))) .nil) .nil) .nil)) (.cons (.aug 4 .add (.lit (.int 1))) .nil))) (.cons (.ret (.var 3)) .nil))))⟩
def c_cells_come_to : Fn := ⟨3, 3, (.cons (.ret (.b1 .tup (.b1 .sorted (.call "cells_found" (.cons (.var 0) (.cons (.var 1) (.cons (.var 2) .nil))))))) .nil)⟩
def c_roots_of_stack : Fn := ⟨1, 1, (.cons (.ret (.bin .add (.ix (.var 0) (.lit (.int 1))) (.ix (.var 0) (.lit (.int 2))))) .nil)⟩
def c_collected_cells : Fn := ⟨3, 6, (.cons (.asg (.nm 3) (.call "cells_come_to" (.cons (.var 0) (.cons (.var 1) (.cons (.var 2) .nil))))) (.cons (.ret (.b1 .tup (.comp (.nm 5) (.rng1 (.b1 .len (.var 0))) [4, 5] (.ite (.cmp .inn (.var 5) (.var 3)) (.ix (.var 0) (.var 5)) (.lit .non))))) .nil))⟩
def c_free_cell : Fn := ⟨1, 1, (.cons (.ret (.ite (.cmp .inn (.lit .non) (.var 0)) (.mt .index (.var 0) (.cons (.lit .non) .nil)) (.lit .non))) .nil)⟩
def c_are_all_come_to : Fn := ⟨2, 2, (.cons (.ret (.cmp .eq (.b1 .len (.call "cells_come_to" (.cons (.ix (.var 1) (.lit (.int 3))) (.cons (.call "roots_of_stack" (.cons (.var 1) .nil)) (.cons (.ix (.var 0) (.lit (.int 0))) .nil))))) (.b1 .len (.ix (.var 1) (.lit (.int 3)))))) .nil)⟩
def c_rows_of_calls : Fn := ⟨1, 3, (.cons (.ret (.compi (.nm 2) (.rng1 (.b1 .len (.ix (.var 0) (.lit (.int 5))))) [1, 2] (.cmp .eq (.ix (.ix (.ix (.var 0) (.lit (.int 5))) (.var 2)) (.lit (.int 0))) (.lit (.str "call"))) (.var 2))) .nil)⟩
def c_begin_of_stack : Fn := ⟨1, 7, (.cons (.asg (.tp (.cons (.nm 1) (.cons (.nm 2) (.cons (.nm 3) (.cons (.nm 4) (.cons (.nm 5) (.cons (.nm 6) .nil))))))) (.var 0)) (.cons (.ret (.tup (.cons (.lit (.int 0)) (.cons (.tup .nil) (.cons (.bin .mul (.tup (.cons (.lit (.int 0)) .nil)) (.var 4)) (.cons (.bin .mul (.tup (.cons (.lit .non) .nil)) (.var 5)) (.cons (.bin .mul (.tup (.cons (.lit (.int 0)) .nil)) (.var 2)) .nil))))))) .nil))⟩
def c_taken_from_stack : Fn := ⟨1, 1, (.cons (.ret (.ite (.cmp .gt (.b1 .len (.var 0)) (.lit (.int 0))) (.tup (.cons (.ix (.var 0) (.neg (.lit (.int 1)))) (.cons (.sl (.var 0) .no (.so (.neg (.lit (.int 1))))) .nil))) (.tup (.cons (.lit (.int 0)) (.cons (.tup .nil) .nil))))) .nil)⟩
def c_full_state : Fn := ⟨2, 2, (.cons (.ret (.bin .add (.tup (.cons (.bin .add (.b1 .len (.ix (.var 0) (.lit (.int 5)))) (.lit (.int 1))) .nil)) (.sl (.var 1) (.so (.lit (.int 1))) .no))) .nil)⟩
def c_put_on_stack : Fn := ⟨4, 4, (.cons (.ifs (.cmp .eq (.b1 .len (.ix (.var 1) (.lit (.int 1)))) (.ix (.var 0) (.lit (.int 2)))) (.cons (.ret (.call "full_state" (.cons (.var 0) (.cons (.var 1) .nil)))) .nil) .nil) (.cons (.ret (.bin .add (.tup (.cons (.var 3) (.cons (.bin .add (.ix (.var 1) (.lit (.int 1))) (.tup (.cons (.var 2) .nil))) .nil))) (.sl (.var 1) (.so (.lit (.int 2))) .no))) .nil))⟩
def c_value_of_two : Fn := ⟨4, 7, (.cons (.asg (.nm 4) (.call "half_of_wide" (.cons (.ix (.var 0) (.lit (.int 0))) .nil))) (.cons (.ifs (.cmp .eq (.var 1) (.lit (.str "same"))) (.cons (.ret (.b1 .int (.cmp .eq (.var 2) (.var 3)))) .nil) .nil) (.cons (.asg (.tp (.cons (.nm 5) (.cons (.nm 6) .nil))) (.tup (.cons (.call "number_of_value" (.cons (.var 2) (.cons (.ix (.var 0) (.lit (.int 0))) .nil))) (.cons (.call "number_of_value" (.cons (.var 3) (.cons (.ix (.var 0) (.lit (.int 0))) .nil))) .nil)))) (.cons (.ifs (.cmp .eq (.var 1) (.lit (.str "less"))) (.cons (.ret (.b1 .int (.cmp .lt (.var 5) (.var 6)))) .nil) .nil) (.cons (.ret (.ite (.cmp .eq (.var 1) (.lit (.str "plus"))) (.bin .mod (.bin .add (.var 5) (.var 6)) (.var 4)) (.bin .mod (.bin .sub (.var 5) (.var 6)) (.var 4)))) .nil)))))⟩
def c_value_of_one : Fn := ⟨4, 4, (.cons (.ifs (.cmp .eq (.var 1) (.lit (.str "paired"))) (.cons (.ret (.b1 .int (.call "is_reference" (.cons (.var 2) (.cons (.ix (.var 0) (.lit (.int 0))) .nil))))) .nil) .nil) (.cons (.ifs (.not (.call "is_reference" (.cons (.var 2) (.cons (.ix (.var 0) (.lit (.int 0))) .nil)))) (.cons (.ret (.lit (.int 0))) .nil) .nil) (.cons (.ret (.ix (.ix (.var 3) (.call "cell_of" (.cons (.var 2) (.cons (.ix (.var 0) (.lit (.int 0))) .nil)))) (.mt .index (.tup (.cons (.lit (.str "first")) (.cons (.lit (.str "second")) .nil))) (.cons (.var 1) .nil)))) .nil)))⟩
def c_step_of_two : Fn := ⟨3, 10, (.cons (.asg (.tp (.cons (.nm 3) (.cons (.nm 4) (.cons (.nm 5) (.cons (.nm 6) (.cons (.nm 7) .nil)))))) (.var 1)) (.cons (.asg (.tp (.cons (.nm 8) (.cons (.nm 4) .nil))) (.call "taken_from_stack" (.cons (.var 4) .nil))) (.cons (.asg (.tp (.cons (.nm 9) (.cons (.nm 4) .nil))) (.call "taken_from_stack" (.cons (.var 4) .nil))) (.cons (.ret (.tup (.cons (.bin .add (.var 3) (.lit (.int 1))) (.cons (.bin .add (.var 4) (.tup (.cons (.call "value_of_two" (.cons (.var 0) (.cons (.var 2) (.cons (.var 9) (.cons (.var 8) .nil))))) .nil))) (.cons (.var 5) (.cons (.var 6) (.cons (.var 7) .nil))))))) .nil))))⟩
def c_step_of_one : Fn := ⟨3, 9, (.cons (.asg (.tp (.cons (.nm 3) (.cons (.nm 4) (.cons (.nm 5) (.cons (.nm 6) (.cons (.nm 7) .nil)))))) (.var 1)) (.cons (.asg (.tp (.cons (.nm 8) (.cons (.nm 4) .nil))) (.call "taken_from_stack" (.cons (.var 4) .nil))) (.cons (.ret (.tup (.cons (.bin .add (.var 3) (.lit (.int 1))) (.cons (.bin .add (.var 4) (.tup (.cons (.call "value_of_one" (.cons (.var 0) (.cons (.var 2) (.cons (.var 8) (.cons (.var 6) .nil))))) .nil))) (.cons (.var 5) (.cons (.var 6) (.cons (.var 7) .nil))))))) .nil)))⟩
def c_step_of_pair : Fn := ⟨2, 11, (.cons (.asg (.tp (.cons (.nm 2) (.cons (.nm 3) (.cons (.nm 4) (.cons (.nm 5) (.cons (.nm 6) .nil)))))) (.var 1)) (.cons (.asg (.nm 7) (.call "free_cell" (.cons (.var 5) .nil))) (.cons (.ifs (.isc false (.var 7) .non) (.cons (.ifs (.call "are_all_come_to" (.cons (.var 0) (.cons (.var 1) .nil))) (.cons (.ret (.call "full_state" (.cons (.var 0) (.cons (.var 1) .nil)))) .nil) .nil) (.cons (.ret (.tup (.cons (.var 2) (.cons (.var 3) (.cons (.var 4) (.cons (.call "collected_cells" (.cons (.var 5) (.cons (.call "roots_of_stack" (.cons (.var 1) .nil)) (.cons (.ix (.var 0) (.lit (.int 0))) .nil)))) (.cons (.var 6) .nil))))))) .nil)) .nil) (.cons (.asg (.tp (.cons (.nm 8) (.cons (.nm 3) .nil))) (.call "taken_from_stack" (.cons (.var 3) .nil))) (.cons (.asg (.tp (.cons (.nm 9) (.cons (.nm 3) .nil))) (.call "taken_from_stack" (.cons (.var 3) .nil))) (.cons (.asg (.nm 10) (.bin .add (.bin .add (.sl (.var 5) .no (.so (.var 7))) (.tup (.cons (.tup (.cons (.var 9) (.cons (.var 8) .nil))) .nil))) (.sl (.var 5) (.so (.bin .add (.var 7) (.lit (.int 1)))) .no))) (.cons (.ret (.tup (.cons (.bin .add (.var 2) (.lit (.int 1))) (.cons (.bin .add (.var 3) (.tup (.cons (.call "reference_to" (.cons (.var 7) (.cons (.ix (.var 0) (.lit (.int 0))) .nil))) .nil))) (.cons (.var 4) (.cons (.var 10) (.cons (.var 6) .nil))))))) .nil)))))))⟩
def c_value_put : Fn := ⟨4, 4, (.cons (.ifs (.cmp .eq (.ix (.var 2) (.lit (.int 0))) (.lit (.str "push"))) (.cons (.ret (.ix (.var 2) (.lit (.int 1)))) .nil) .nil) (.cons (.ret (.ite (.cmp .eq (.ix (.var 2) (.lit (.int 0))) (.lit (.str "load"))) (.ix (.ix (.var 1) (.lit (.int 2))) (.ix (.var 2) (.lit (.int 1)))) (.call "number_heard" (.cons (.var 3) (.cons (.ix (.var 0) (.lit (.int 0))) .nil))))) .nil))⟩
def c_step_of_back : Fn := ⟨2, 5, (.cons (.asg (.tp (.cons (.nm 2) (.cons (.nm 3) .nil))) (.call "taken_from_stack" (.cons (.ix (.var 1) (.lit (.int 1))) .nil))) (.cons (.asg (.nm 4) (.call "rows_of_calls" (.cons (.var 0) .nil))) (.cons (.ret (.bin .add (.tup (.cons (.ite (.cmp .lt (.var 2) (.b1 .len (.var 4))) (.bin .add (.ix (.var 4) (.var 2)) (.lit (.int 1))) (.b1 .len (.ix (.var 0) (.lit (.int 5))))) (.cons (.var 3) .nil))) (.sl (.var 1) (.so (.lit (.int 2))) .no))) .nil)))⟩
def c_step_of_taking : Fn := ⟨3, 9, (.cons (.asg (.tp (.cons (.nm 3) (.cons (.nm 4) (.cons (.nm 5) (.cons (.nm 6) (.cons (.nm 7) .nil)))))) (.var 1)) (.cons (.asg (.tp (.cons (.nm 8) (.cons (.nm 4) .nil))) (.call "taken_from_stack" (.cons (.var 4) .nil))) (.cons (.ifs (.cmp .eq (.ix (.var 2) (.lit (.int 0))) (.lit (.str "keep"))) (.cons (.ret (.tup (.cons (.bin .add (.var 3) (.lit (.int 1))) (.cons (.var 4) (.cons (.bin .add (.bin .add (.sl (.var 5) .no (.so (.ix (.var 2) (.lit (.int 1))))) (.tup (.cons (.var 8) .nil))) (.sl (.var 5) (.so (.bin .add (.ix (.var 2) (.lit (.int 1))) (.lit (.int 1)))) .no)) (.cons (.var 6) (.cons (.var 7) .nil))))))) .nil) .nil) (.cons (.ifs (.cmp .eq (.ix (.var 2) (.lit (.int 0))) (.lit (.str "show"))) (.cons (.ret (.tup (.cons (.bin .add (.var 3) (.lit (.int 1))) (.cons (.var 4) (.cons (.var 5) (.cons (.var 6) (.cons (.call "shown_bits" (.cons (.call "number_of_value" (.cons (.var 8) (.cons (.ix (.var 0) (.lit (.int 0))) .nil))) (.cons (.ix (.var 0) (.lit (.int 1))) .nil))) .nil))))))) .nil) .nil) (.cons (.ret (.tup (.cons (.ite (.and (.cmp .eq (.ix (.var 2) (.lit (.int 0))) (.lit (.str "unless"))) (.cmp .eq (.var 8) (.lit (.int 0)))) (.ix (.var 2) (.lit (.int 1))) (.bin .add (.var 3) (.lit (.int 1)))) (.cons (.var 4) (.cons (.var 5) (.cons (.var 6) (.cons (.var 7) .nil))))))) .nil)))))⟩
def c_step_of_going : Fn := ⟨3, 3, (.cons (.ifs (.cmp .eq (.ix (.var 2) (.lit (.int 0))) (.lit (.str "jump"))) (.cons (.ret (.bin .add (.tup (.cons (.ix (.var 2) (.lit (.int 1))) .nil)) (.sl (.var 1) (.so (.lit (.int 1))) .no))) .nil) .nil) (.cons (.ifs (.cmp .eq (.ix (.var 2) (.lit (.int 0))) (.lit (.str "call"))) (.cons (.ret (.call "put_on_stack" (.cons (.var 0) (.cons (.var 1) (.cons (.mt .index (.call "rows_of_calls" (.cons (.var 0) .nil)) (.cons (.ix (.var 1) (.lit (.int 0))) .nil)) (.cons (.ix (.var 2) (.lit (.int 1))) .nil)))))) .nil) .nil) (.cons (.ret (.ite (.cmp .eq (.ix (.var 2) (.lit (.int 0))) (.lit (.str "back"))) (.call "step_of_back" (.cons (.var 0) (.cons (.var 1) .nil))) (.var 1))) .nil)))⟩
def c_step_of_stack : Fn := ⟨3, 5, (.cons (.asg (.nm 3) (.ix (.var 1) (.lit (.int 0)))) (.cons (.ifs (.cmp .ge (.var 3) (.b1 .len (.ix (.var 0) (.lit (.int 5))))) (.cons (.ret (.var 1)) .nil) .nil) (.cons (.asg (.nm 4) (.ix (.ix (.var 0) (.lit (.int 5))) (.var 3))) (.cons (.ifs (.cmp .inn (.ix (.var 4) (.lit (.int 0))) (.glo "OF_TWO")) (.cons (.ret (.call "step_of_two" (.cons (.var 0) (.cons (.var 1) (.cons (.ix (.var 4) (.lit (.int 0))) .nil))))) .nil) .nil) (.cons (.ifs (.cmp .inn (.ix (.var 4) (.lit (.int 0))) (.glo "OF_ONE")) (.cons (.ret (.call "step_of_one" (.cons (.var 0) (.cons (.var 1) (.cons (.ix (.var 4) (.lit (.int 0))) .nil))))) .nil) .nil) (.cons (.ifs (.cmp .inn (.ix (.var 4) (.lit (.int 0))) (.glo "PUTTING")) (.cons (.ret (.call "put_on_stack" (.cons (.var 0) (.cons (.var 1) (.cons (.call "value_put" (.cons (.var 0) (.cons (.var 1) (.cons (.var 4) (.cons (.var 2) .nil))))) (.cons (.bin .add (.var 3) (.lit (.int 1))) .nil)))))) .nil) .nil) (.cons (.ifs (.cmp .eq (.ix (.var 4) (.lit (.int 0))) (.lit (.str "pair"))) (.cons (.ret (.call "step_of_pair" (.cons (.var 0) (.cons (.var 1) .nil)))) .nil) .nil) (.cons (.ifs (.cmp .inn (.ix (.var 4) (.lit (.int 0))) (.tup (.cons (.lit (.str "keep")) (.cons (.lit (.str "drop")) (.cons (.lit (.str "show")) (.cons (.lit (.str "unless")) .nil)))))) (.cons (.ret (.call "step_of_taking" (.cons (.var 0) (.cons (.var 1) (.cons (.var 4) .nil))))) .nil) .nil) (.cons (.ret (.call "step_of_going" (.cons (.var 0) (.cons (.var 1) (.cons (.var 4) .nil))))) .nil)))))))))⟩
def c__law_draws : Fn := ⟨2, 10, (.cons (.asg (.nm 2) (.lst (.cons (.lit (.int 0)) .nil))) (.cons (.for_ (.nm 3) (.seq (.var 0)) (.cons (.asg (.nm 4) (.b1 .abs (.var 3))) (.cons (.ifs (.cmp .lt (.var 4) (.bin .pow (.lit (.int 10)) (.lit (.int 18)))) (.cons (.expr (.mt .append (.var 2) (.cons (.var 4) .nil))) .nil) (.cons (.for_ (.nm 5) (.rng1 (.lit (.int 40))) (.cons (.ifs (.cmp .gt (.var 4) (.lit (.int 0))) (.cons (.expr (.mt .append (.var 2) (.cons (.bin .add (.b1 .int (.bin .mod (.var 4) (.bin .pow (.lit (.int 10)) (.lit (.int 9))))) (.bin .mul (.lit (.int 17)) (.var 5))) .nil))) (.cons (.asg (.nm 4) (.bin .fdiv (.var 4) (.bin .pow (.lit (.int 10)) (.lit (.int 9))))) .nil)) .nil) .nil)) .nil)) .nil))) (.cons (.asg (.nm 6) (.lst .nil)) (.cons (.for_ (.nm 5) (.rng1 (.var 1)) (.cons (.asg (.nm 7) (.b1 .int (.bin .mod (.bin .mul (.var 5) (.lit (.int 7))) (.b1 .len (.var 2))))) (.cons (.asg (.nm 8) (.bin .mod (.bin .add (.bin .add (.bin .add (.bin .mul (.ix (.var 2) (.var 7)) (.lit (.int 48271))) (.bin .mul (.var 5) (.lit (.int 69621)))) (.lit (.int 11))) (.b1 .len (.var 2))) (.lit (.int 2147483647)))) (.cons (.asg (.nm 9) (.bin .mod (.bin .add (.bin .add (.bin .add (.bin .mul (.var 8) (.var 8)) (.bin .mul (.ix (.var 2) (.b1 .int (.bin .mod (.bin .add (.var 5) (.lit (.int 1))) (.b1 .len (.var 2))))) (.lit (.int 613)))) (.bin .mul (.lit (.int 3)) (.var 8))) (.var 5)) (.lit (.int 1000003)))) (.cons (.expr (.mt .append (.var 6) (.cons (.var 9) .nil))) .nil))))) (.cons (.expr (.mt .reverse (.var 6) .nil)) (.cons (.ret (.var 6)) .nil))))))⟩
def c__law_take : Fn := ⟨2, 2, (.cons (.ifs (.cmp .eq (.b1 .len (.var 0)) (.lit (.int 0))) (.cons (.ret (.lit (.int 0))) .nil) .nil) (.cons (.ret (.b1 .int (.bin .mod (.mt .pop (.var 0) .nil) (.var 1)))) .nil))⟩
def c__law_half : Fn := ⟨1, 3, (.cons (.asg (.nm 1) (.lit (.int 1))) (.cons (.for_ (.nm 2) (.rng1 (.bin .sub (.var 0) (.lit (.int 1)))) (.cons (.asg (.nm 1) (.bin .mul (.var 1) (.lit (.int 2)))) .nil)) (.cons (.ret (.var 1)) .nil)))⟩
def c__law_put : Fn := ⟨3, 3, (.cons (.ret (.bin .add (.bin .add (.sl (.var 0) .no (.so (.var 1))) (.tup (.cons (.var 2) .nil))) (.sl (.var 0) (.so (.bin .add (.var 1) (.lit (.int 1)))) .no))) .nil)⟩
def c__law_number : Fn := ⟨2, 2, (.cons (.ret (.ite (.cmp .lt (.var 1) (.var 0)) (.var 1) (.lit (.int 0)))) .nil)⟩
def c__law_core_value : Fn := ⟨4, 10, (.cons (.asg (.nm 4) (.ix (.var 1) (.lit (.int 0)))) (.cons (.ifs (.cmp .eq (.var 4) (.lit (.str "number"))) (.cons (.ret (.ix (.var 1) (.lit (.int 1)))) .nil) .nil) (.cons (.ifs (.cmp .eq (.var 4) (.lit (.str "of"))) (.cons (.ret (.ix (.var 2) (.ix (.var 1) (.lit (.int 1))))) .nil) .nil) (.cons (.asg (.nm 5) (.comp (.nm 9) (.seq (.sl (.var 1) (.so (.lit (.int 1))) .no)) [8, 9] (.call "_law_core_value" (.cons (.var 0) (.cons (.var 9) (.cons (.var 2) (.cons (.var 3) .nil))))))) (.cons (.ifs (.cmp .eq (.var 4) (.lit (.str "paired"))) (.cons (.ret (.ite (.cmp .ge (.ix (.var 5) (.lit (.int 0))) (.var 0)) (.lit (.int 1)) (.lit (.int 0)))) .nil) .nil) (.cons (.ifs (.or (.cmp .eq (.var 4) (.lit (.str "first"))) (.cmp .eq (.var 4) (.lit (.str "second")))) (.cons (.ret (.ite (.cmp .ge (.ix (.var 5) (.lit (.int 0))) (.var 0)) (.ix (.ix (.var 3) (.bin .sub (.ix (.var 5) (.lit (.int 0))) (.var 0))) (.mt .index (.tup (.cons (.lit (.str "first")) (.cons (.lit (.str "second")) .nil))) (.cons (.var 4) .nil))) (.lit (.int 0)))) .nil) .nil) (.cons (.ifs (.cmp .eq (.var 4) (.lit (.str "same"))) (.cons (.ret (.ite (.cmp .eq (.ix (.var 5) (.lit (.int 0))) (.ix (.var 5) (.lit (.int 1)))) (.lit (.int 1)) (.lit (.int 0)))) .nil) .nil) (.cons (.asg (.nm 6) (.call "_law_number" (.cons (.var 0) (.cons (.ix (.var 5) (.lit (.int 0))) .nil)))) (.cons (.asg (.nm 7) (.call "_law_number" (.cons (.var 0) (.cons (.ix (.var 5) (.lit (.int 1))) .nil)))) (.cons (.ifs (.cmp .eq (.var 4) (.lit (.str "less"))) (.cons (.ret (.ite (.cmp .lt (.var 6) (.var 7)) (.lit (.int 1)) (.lit (.int 0)))) .nil) .nil) (.cons (.ret (.ite (.cmp .eq (.var 4) (.lit (.str "plus"))) (.b1 .int (.bin .mod (.bin .add (.var 6) (.var 7)) (.var 0))) (.b1 .int (.bin .mod (.bin .sub (.bin .add (.var 6) (.var 0)) (.var 7)) (.var 0))))) .nil)))))))))))⟩
def c__law_come_to : Fn := ⟨3, 10, (.cons (.asg (.nm 3) (.lst .nil)) (.cons (.asg (.nm 4) (.compi (.nm 9) (.seq (.var 2)) [8, 9] (.cmp .ge (.var 9) (.var 0)) (.bin .sub (.var 9) (.var 0)))) (.cons (.for_ (.nm 5) (.rng1 (.bin .add (.bin .mul (.lit (.int 2)) (.b1 .len (.var 1))) (.lit (.int 2)))) (.cons (.asg (.nm 6) (.lst .nil)) (.cons (.for_ (.nm 7) (.seq (.var 4)) (.cons (.ifs (.cmp .nin (.var 7) (.var 3)) (.cons (.expr (.mt .append (.var 3) (.cons (.var 7) .nil))) (.cons (.asg (.nm 6) (.bin .add (.var 6) (.compi (.nm 9) (.seq (.ix (.var 1) (.var 7))) [8, 9] (.cmp .ge (.var 9) (.var 0)) (.bin .sub (.var 9) (.var 0))))) .nil)) .nil) .nil)) (.cons (.asg (.nm 4) (.var 6)) .nil)))) (.cons (.ret (.var 3)) .nil))))⟩
def c__law_bits : Fn := ⟨3, 6, (.cons (.asg (.nm 3) (.call "_law_number" (.cons (.var 0) (.cons (.var 2) .nil)))) (.cons (.asg (.nm 4) (.lst .nil)) (.cons (.for_ (.nm 5) (.rng1 (.var 1)) (.cons (.expr (.mt .append (.var 4) (.cons (.b1 .int (.bin .mod (.var 3) (.lit (.int 2)))) .nil))) (.cons (.asg (.nm 3) (.bin .fdiv (.var 3) (.lit (.int 2)))) .nil))) (.cons (.ret (.b1 .tup (.var 4))) .nil))))⟩
def c__law_core_pair : Fn := ⟨4, 14, (.cons (.asg (.tp (.cons (.nm 4) (.cons (.nm 5) (.cons (.nm 6) (.cons (.nm 7) (.cons (.nm 8) .nil)))))) (.var 2)) (.cons (.asg (.nm 9) (.tup (.cons (.call "_law_core_value" (.cons (.var 1) (.cons (.ix (.var 3) (.lit (.int 2))) (.cons (.var 6) (.cons (.var 7) .nil))))) (.cons (.call "_law_core_value" (.cons (.var 1) (.cons (.ix (.var 3) (.lit (.int 3))) (.cons (.var 6) (.cons (.var 7) .nil))))) .nil)))) (.cons (.asg (.nm 10) (.compi (.nm 13) (.rng1 (.b1 .len (.var 7))) [12, 13] (.isc false (.ix (.var 7) (.var 13)) .non) (.var 13))) (.cons (.ifs (.cmp .gt (.b1 .len (.var 10)) (.lit (.int 0))) (.cons (.ret (.tup (.cons (.var 4) (.cons (.bin .add (.var 5) (.lit (.int 1))) (.cons (.call "_law_put" (.cons (.var 6) (.cons (.ix (.var 3) (.lit (.int 1))) (.cons (.bin .add (.var 1) (.ix (.var 10) (.lit (.int 0)))) .nil)))) (.cons (.call "_law_put" (.cons (.var 7) (.cons (.ix (.var 10) (.lit (.int 0))) (.cons (.var 9) .nil)))) (.cons (.var 8) .nil))))))) .nil) .nil) (.cons (.asg (.nm 11) (.call "_law_come_to" (.cons (.var 1) (.cons (.var 7) (.cons (.var 6) .nil))))) (.cons (.ifs (.cmp .eq (.b1 .len (.var 11)) (.b1 .len (.var 7))) (.cons (.ret (.tup (.cons (.b1 .len (.ix (.var 0) (.lit (.int 1)))) (.cons (.lit (.int 0)) (.cons (.var 6) (.cons (.var 7) (.cons (.var 8) .nil))))))) .nil) .nil) (.cons (.ret (.tup (.cons (.var 4) (.cons (.var 5) (.cons (.var 6) (.cons (.b1 .tup (.comp (.nm 13) (.rng1 (.b1 .len (.var 7))) [12, 13] (.ite (.cmp .inn (.var 13) (.var 11)) (.ix (.var 7) (.var 13)) (.lit .non)))) (.cons (.var 8) .nil))))))) .nil)))))))⟩
def c__law_core_step : Fn := ⟨4, 14, (.cons (.asg (.tp (.cons (.nm 4) (.cons (.nm 5) (.cons (.nm 6) (.cons (.nm 7) (.cons (.nm 8) .nil)))))) (.var 2)) (.cons (.ifs (.cmp .eq (.var 4) (.b1 .len (.ix (.var 0) (.lit (.int 1))))) (.cons (.ret (.var 2)) .nil) .nil) (.cons (.asg (.nm 9) (.call "_law_half" (.cons (.ix (.var 1) (.lit (.int 0))) .nil))) (.cons (.asg (.tp (.cons (.nm 10) (.cons (.nm 11) .nil))) (.ix (.ix (.var 0) (.lit (.int 1))) (.var 4))) (.cons (.ifs (.cmp .lt (.var 5) (.b1 .len (.var 10))) (.cons (.asg (.nm 12) (.ix (.var 10) (.var 5))) (.cons (.ifs (.cmp .eq (.ix (.var 12) (.lit (.int 0))) (.lit (.str "pair"))) (.cons (.ret (.call "_law_core_pair" (.cons (.var 0) (.cons (.var 9) (.cons (.var 2) (.cons (.var 12) .nil)))))) .nil) .nil) (.cons (.ifs (.cmp .eq (.ix (.var 12) (.lit (.int 0))) (.lit (.str "hear"))) (.cons (.ret (.tup (.cons (.var 4) (.cons (.bin .add (.var 5) (.lit (.int 1))) (.cons (.call "_law_put" (.cons (.var 6) (.cons (.ix (.var 12) (.lit (.int 1))) (.cons (.b1 .int (.bin .mod (.var 3) (.var 9))) .nil)))) (.cons (.var 7) (.cons (.var 8) .nil))))))) .nil) .nil) (.cons (.asg (.nm 13) (.call "_law_core_value" (.cons (.var 9) (.cons (.ix (.var 12) (.neg (.lit (.int 1)))) (.cons (.var 6) (.cons (.var 7) .nil)))))) (.cons (.ifs (.cmp .eq (.ix (.var 12) (.lit (.int 0))) (.lit (.str "show"))) (.cons (.ret (.tup (.cons (.var 4) (.cons (.bin .add (.var 5) (.lit (.int 1))) (.cons (.var 6) (.cons (.var 7) (.cons (.call "_law_bits" (.cons (.var 9) (.cons (.b1 .len (.var 8)) (.cons (.var 13) .nil)))) .nil))))))) .nil) .nil) (.cons (.ret (.tup (.cons (.var 4) (.cons (.bin .add (.var 5) (.lit (.int 1))) (.cons (.call "_law_put" (.cons (.var 6) (.cons (.ix (.var 12) (.lit (.int 1))) (.cons (.var 13) .nil)))) (.cons (.var 7) (.cons (.var 8) .nil))))))) .nil)))))) .nil) (.cons (.ifs (.cmp .eq (.ix (.var 11) (.lit (.int 0))) (.lit (.str "halt"))) (.cons (.ret (.var 2)) .nil) .nil) (.cons (.ifs (.cmp .eq (.ix (.var 11) (.lit (.int 0))) (.lit (.str "goto"))) (.cons (.ret (.tup (.cons (.ix (.var 11) (.lit (.int 1))) (.cons (.lit (.int 0)) (.cons (.var 6) (.cons (.var 7) (.cons (.var 8) .nil))))))) .nil) .nil) (.cons (.asg (.nm 13) (.call "_law_core_value" (.cons (.var 9) (.cons (.ix (.var 11) (.lit (.int 1))) (.cons (.var 6) (.cons (.var 7) .nil)))))) (.cons (.ret (.tup (.cons (.ite (.cmp .eq (.var 13) (.lit (.int 0))) (.ix (.var 11) (.lit (.int 3))) (.ix (.var 11) (.lit (.int 2)))) (.cons (.lit (.int 0)) (.cons (.var 6) (.cons (.var 7) (.cons (.var 8) .nil))))))) .nil)))))))))⟩
def c__law_core_begin : Fn := ⟨2, 2, (.cons (.ret (.tup (.cons (.lit (.int 0)) (.cons (.lit (.int 0)) (.cons (.bin .mul (.tup (.cons (.lit (.int 0)) .nil)) (.ix (.var 0) (.lit (.int 0)))) (.cons (.bin .mul (.tup (.cons (.lit .non) .nil)) (.ix (.var 1) (.lit (.int 1)))) (.cons (.bin .mul (.tup (.cons (.lit (.int 0)) .nil)) (.ix (.var 1) (.lit (.int 2)))) .nil))))))) .nil)⟩
def c__law_core_expression : Fn := ⟨4, 7, (.cons (.asg (.nm 4) (.call "_law_take" (.cons (.var 0) (.cons (.lit (.int 10)) .nil)))) (.cons (.ifs (.or (.cmp .eq (.var 3) (.lit (.int 0))) (.cmp .lt (.var 4) (.lit (.int 4)))) (.cons (.ifs (.and (.cmp .gt (.var 1) (.lit (.int 0))) (.cmp .gt (.call "_law_take" (.cons (.var 0) (.cons (.lit (.int 3)) .nil))) (.lit (.int 0)))) (.cons (.ret (.tup (.cons (.lit (.str "of")) (.cons (.call "_law_take" (.cons (.var 0) (.cons (.var 1) .nil))) .nil)))) .nil) .nil) (.cons (.ret (.tup (.cons (.lit (.str "number")) (.cons (.call "_law_take" (.cons (.var 0) (.cons (.var 2) .nil))) .nil)))) .nil)) .nil) (.cons (.ifs (.cmp .gt (.var 4) (.lit (.int 7))) (.cons (.ret (.tup (.cons (.ix (.tup (.cons (.lit (.str "paired")) (.cons (.lit (.str "first")) (.cons (.lit (.str "second")) .nil)))) (.call "_law_take" (.cons (.var 0) (.cons (.lit (.int 3)) .nil)))) (.cons (.call "_law_core_expression" (.cons (.var 0) (.cons (.var 1) (.cons (.var 2) (.cons (.bin .sub (.var 3) (.lit (.int 1))) .nil))))) .nil)))) .nil) .nil) (.cons (.asg (.nm 5) (.call "_law_core_expression" (.cons (.var 0) (.cons (.var 1) (.cons (.var 2) (.cons (.bin .sub (.var 3) (.lit (.int 1))) .nil)))))) (.cons (.asg (.nm 6) (.call "_law_core_expression" (.cons (.var 0) (.cons (.var 1) (.cons (.var 2) (.cons (.bin .sub (.var 3) (.lit (.int 1))) .nil)))))) (.cons (.ret (.tup (.cons (.ix (.tup (.cons (.lit (.str "plus")) (.cons (.lit (.str "minus")) (.cons (.lit (.str "less")) (.cons (.lit (.str "same")) .nil))))) (.bin .sub (.var 4) (.lit (.int 4)))) (.cons (.var 5) (.cons (.var 6) .nil))))) .nil))))))⟩
def c__law_core_command : Fn := ⟨4, 7, (.cons (.asg (.nm 4) (.call "_law_take" (.cons (.var 0) (.cons (.lit (.int 7)) .nil)))) (.cons (.ifs (.or (.cmp .eq (.var 1) (.lit (.int 0))) (.cmp .eq (.var 4) (.lit (.int 0)))) (.cons (.ret (.tup (.cons (.lit (.str "show")) (.cons (.call "_law_core_expression" (.cons (.var 0) (.cons (.var 1) (.cons (.var 2) (.cons (.var 3) .nil))))) .nil)))) .nil) .nil) (.cons (.asg (.nm 5) (.call "_law_take" (.cons (.var 0) (.cons (.var 1) .nil)))) (.cons (.ifs (.cmp .eq (.var 4) (.lit (.int 1))) (.cons (.ret (.tup (.cons (.lit (.str "hear")) (.cons (.var 5) .nil)))) .nil) .nil) (.cons (.asg (.nm 6) (.call "_law_core_expression" (.cons (.var 0) (.cons (.var 1) (.cons (.var 2) (.cons (.var 3) .nil)))))) (.cons (.ifs (.cmp .lt (.var 4) (.lit (.int 4))) (.cons (.ret (.tup (.cons (.lit (.str "pair")) (.cons (.var 5) (.cons (.var 6) (.cons (.call "_law_core_expression" (.cons (.var 0) (.cons (.var 1) (.cons (.var 2) (.cons (.var 3) .nil))))) .nil)))))) .nil) .nil) (.cons (.ret (.tup (.cons (.lit (.str "set")) (.cons (.var 5) (.cons (.var 6) .nil))))) .nil)))))))⟩
def c__law_core_program : Fn := ⟨6, 13, (.cons (.asg (.nm 6) (.lst .nil)) (.cons (.for_ (.nm 7) (.rng1 (.var 2)) (.cons (.asg (.nm 8) (.b1 .tup (.comp (.nm 12) (.rng1 (.call "_law_take" (.cons (.var 0) (.cons (.bin .add (.var 4) (.lit (.int 1))) .nil)))) [11, 12] (.call "_law_core_command" (.cons (.var 0) (.cons (.var 1) (.cons (.var 3) (.cons (.var 5) .nil)))))))) (.cons (.asg (.nm 9) (.call "_law_take" (.cons (.var 0) (.cons (.lit (.int 6)) .nil)))) (.cons (.asg (.nm 10) (.tup (.cons (.lit (.str "goto")) (.cons (.call "_law_take" (.cons (.var 0) (.cons (.var 2) .nil))) .nil)))) (.cons (.ifs (.cmp .eq (.var 9) (.lit (.int 0))) (.cons (.asg (.nm 10) (.tup (.cons (.lit (.str "halt")) .nil))) .nil) .nil) (.cons (.ifs (.cmp .gt (.var 9) (.lit (.int 2))) (.cons (.asg (.nm 10) (.tup (.cons (.lit (.str "test")) (.cons (.call "_law_core_expression" (.cons (.var 0) (.cons (.var 1) (.cons (.var 3) (.cons (.var 5) .nil))))) (.cons (.call "_law_take" (.cons (.var 0) (.cons (.var 2) .nil))) (.cons (.call "_law_take" (.cons (.var 0) (.cons (.var 2) .nil))) .nil)))))) .nil) .nil) (.cons (.expr (.mt .append (.var 6) (.cons (.tup (.cons (.var 8) (.cons (.var 10) .nil))) .nil))) .nil))))))) (.cons (.ret (.tup (.cons (.var 1) (.cons (.b1 .tup (.var 6)) .nil)))) .nil)))⟩
def c__law_words : Fn := ⟨3, 6, (.cons (.asg (.nm 3) (.bin .mul (.lit (.int 2)) (.call "_law_half" (.cons (.var 2) .nil)))) (.cons (.ret (.b1 .tup (.comp (.nm 5) (.rng1 (.var 1)) [4, 5] (.call "_law_take" (.cons (.var 0) (.cons (.var 3) .nil)))))) .nil))⟩
def c__law_same : Fn := ⟨2, 3, (.cons (.ifs (.b1 (.isa .bool) (.var 1)) (.cons (.ret (.and (.b1 (.isa .bool) (.var 0)) (.cmp .eq (.var 0) (.var 1)))) .nil) .nil) (.cons (.ifs (.b1 (.isa .int) (.var 1)) (.cons (.ret (.and (.b1 (.isa .int) (.var 0)) (.and (.not (.b1 (.isa .bool) (.var 0))) (.cmp .eq (.var 0) (.var 1))))) .nil) .nil) (.cons (.ifs (.b1 (.isa .str) (.var 1)) (.cons (.ret (.and (.b1 (.isa .str) (.var 0)) (.cmp .eq (.var 0) (.var 1)))) .nil) .nil) (.cons (.ifs (.isc false (.var 1) .non) (.cons (.ret (.isc false (.var 0) .non)) .nil) .nil) (.cons (.ifs (.or (.not (.b1 (.isa .tup) (.var 0))) (.cmp .ne (.b1 .len (.var 0)) (.b1 .len (.var 1)))) (.cons (.ret (.lit (.bl false))) .nil) .nil) (.cons (.for_ (.nm 2) (.rng1 (.b1 .len (.var 1))) (.cons (.ifs (.not (.call "_law_same" (.cons (.ix (.var 0) (.var 2)) (.cons (.ix (.var 1) (.var 2)) .nil)))) (.cons (.ret (.lit (.bl false))) .nil) .nil) .nil)) (.cons (.ret (.lit (.bl true))) .nil)))))))⟩
def c__law_thin : Fn := ⟨2, 6, (.cons (.asg (.nm 2) (.b1 .len (.ix (.var 1) (.lit (.int 1))))) (.cons (.asg (.nm 3) (.lst .nil)) (.cons (.for_ (.tp (.cons (.nm 4) (.cons (.nm 5) .nil))) (.seq (.ix (.var 1) (.lit (.int 1)))) (.cons (.expr (.mt .append (.var 3) (.cons (.ite (.cmp .eq (.call "_law_take" (.cons (.var 0) (.cons (.lit (.int 2)) .nil))) (.lit (.int 0))) (.tup (.cons (.tup .nil) (.cons (.tup (.cons (.lit (.str "goto")) (.cons (.call "_law_take" (.cons (.var 0) (.cons (.var 2) .nil))) .nil))) .nil))) (.tup (.cons (.var 4) (.cons (.var 5) .nil)))) .nil))) .nil)) (.cons (.ret (.tup (.cons (.ix (.var 1) (.lit (.int 0))) (.cons (.b1 .tup (.var 3)) .nil)))) .nil))))⟩
def c__law_is_empty : Fn := ⟨2, 4, (.cons (.asg (.tp (.cons (.nm 2) (.cons (.nm 3) .nil))) (.ix (.ix (.var 0) (.lit (.int 1))) (.var 1))) (.cons (.ret (.and (.cmp .gt (.var 1) (.lit (.int 0))) (.and (.cmp .eq (.var 2) (.tup .nil)) (.cmp .eq (.ix (.var 3) (.lit (.int 0))) (.lit (.str "goto")))))) .nil))⟩
def c__law_thread : Fn := ⟨2, 7, (.cons (.asg (.nm 2) (.lst (.cons (.var 1) .nil))) (.cons (.for_ (.nm 3) (.rng1 (.bin .mul (.lit (.int 2)) (.b1 .len (.ix (.var 0) (.lit (.int 1)))))) (.cons (.ifs (.call "_law_is_empty" (.cons (.var 0) (.cons (.ix (.var 2) (.neg (.lit (.int 1)))) .nil))) (.cons (.expr (.mt .append (.var 2) (.cons (.ix (.ix (.ix (.ix (.var 0) (.lit (.int 1))) (.ix (.var 2) (.neg (.lit (.int 1))))) (.lit (.int 1))) (.lit (.int 1))) .nil))) .nil) .nil) .nil)) (.cons (.ifs (.not (.call "_law_is_empty" (.cons (.var 0) (.cons (.ix (.var 2) (.neg (.lit (.int 1)))) .nil)))) (.cons (.ret (.tup (.cons (.ix (.var 2) (.neg (.lit (.int 1)))) (.cons (.bin .sub (.b1 .len (.var 2)) (.lit (.int 1))) .nil)))) .nil) .nil) (.cons (.asg (.nm 4) (.sl (.var 2) (.so (.b1 .len (.ix (.var 0) (.lit (.int 1))))) .no)) (.cons (.ret (.tup (.cons (.b1 .min (.var 4)) (.cons (.b1 .len (.compi (.nm 6) (.seq (.sl (.var 2) .no (.so (.b1 .len (.ix (.var 0) (.lit (.int 1))))))) [5, 6] (.cmp .nin (.var 6) (.var 4)) (.var 6))) .nil)))) .nil)))))⟩
def c__law_threaded : Fn := ⟨1, 4, (.cons (.asg (.nm 1) (.lst .nil)) (.cons (.for_ (.tp (.cons (.nm 2) (.cons (.nm 3) .nil))) (.seq (.ix (.var 0) (.lit (.int 1)))) (.cons (.ifs (.cmp .eq (.ix (.var 3) (.lit (.int 0))) (.lit (.str "goto"))) (.cons (.asg (.nm 3) (.tup (.cons (.lit (.str "goto")) (.cons (.ix (.call "_law_thread" (.cons (.var 0) (.cons (.ix (.var 3) (.lit (.int 1))) .nil))) (.lit (.int 0))) .nil)))) .nil) .nil) (.cons (.ifs (.cmp .eq (.ix (.var 3) (.lit (.int 0))) (.lit (.str "test"))) (.cons (.asg (.nm 3) (.bin .add (.sl (.var 3) .no (.so (.lit (.int 2)))) (.tup (.cons (.ix (.call "_law_thread" (.cons (.var 0) (.cons (.ix (.var 3) (.lit (.int 2))) .nil))) (.lit (.int 0))) (.cons (.ix (.call "_law_thread" (.cons (.var 0) (.cons (.ix (.var 3) (.lit (.int 3))) .nil))) (.lit (.int 0))) .nil))))) .nil) .nil) (.cons (.expr (.mt .append (.var 1) (.cons (.tup (.cons (.var 2) (.cons (.var 3) .nil))) .nil))) .nil)))) (.cons (.ret (.tup (.cons (.ix (.var 0) (.lit (.int 0))) (.cons (.b1 .tup (.var 1)) .nil)))) .nil)))⟩
def c__law_seen : Fn := ⟨2, 2, (.cons (.ifs (.and (.cmp .lt (.ix (.var 1) (.lit (.int 0))) (.b1 .len (.ix (.var 0) (.lit (.int 1))))) (.call "_law_is_empty" (.cons (.var 0) (.cons (.ix (.var 1) (.lit (.int 0))) .nil)))) (.cons (.ret (.bin .add (.tup (.cons (.ix (.call "_law_thread" (.cons (.var 0) (.cons (.ix (.var 1) (.lit (.int 0))) .nil))) (.lit (.int 0))) .nil)) (.sl (.var 1) (.so (.lit (.int 1))) .no))) .nil) .nil) (.cons (.ret (.var 1)) .nil))⟩
def c__law_goes : Fn := ⟨3, 10, (.cons (.asg (.nm 3) (.call "_law_threaded" (.cons (.var 1) .nil))) (.cons (.asg (.nm 4) (.call "_law_core_begin" (.cons (.var 1) (.cons (.var 2) .nil)))) (.cons (.for_ (.nm 5) (.seq (.call "_law_words" (.cons (.var 0) (.cons (.bin .add (.lit (.int 1)) (.call "_law_take" (.cons (.var 0) (.cons (.lit (.int 50)) .nil)))) (.cons (.ix (.var 2) (.lit (.int 0))) .nil))))) (.cons (.asg (.nm 6) (.call "seen_threaded" (.cons (.var 1) (.cons (.var 2) (.cons (.var 4) .nil))))) (.cons (.asg (.nm 7) (.call "left_threaded" (.cons (.var 1) (.cons (.var 2) (.cons (.var 4) .nil))))) (.cons (.ifs (.not (.call "_law_same" (.cons (.var 6) (.cons (.call "_law_seen" (.cons (.var 1) (.cons (.var 4) .nil))) .nil)))) (.cons (.ret (.lit (.bl false))) .nil) .nil) (.cons (.asg (.nm 8) (.ite (.cmp .lt (.ix (.var 4) (.lit (.int 0))) (.b1 .len (.ix (.var 1) (.lit (.int 1))))) (.ix (.call "_law_thread" (.cons (.var 1) (.cons (.ix (.var 4) (.lit (.int 0))) .nil))) (.lit (.int 1))) (.lit (.int 0)))) (.cons (.ifs (.not (.call "_law_same" (.cons (.var 7) (.cons (.var 8) .nil)))) (.cons (.ret (.lit (.bl false))) .nil) .nil) (.cons (.asg (.nm 4) (.call "_law_core_step" (.cons (.var 1) (.cons (.var 2) (.cons (.var 4) (.cons (.var 5) .nil)))))) (.cons (.asg (.nm 9) (.call "seen_threaded" (.cons (.var 1) (.cons (.var 2) (.cons (.var 4) .nil))))) (.cons (.ifs (.and (.cmp .ne (.var 9) (.call "_law_core_step" (.cons (.var 3) (.cons (.var 2) (.cons (.var 6) (.cons (.var 5) .nil)))))) (.or (.cmp .ne (.var 9) (.var 6)) (.cmp .ge (.call "left_threaded" (.cons (.var 1) (.cons (.var 2) (.cons (.var 4) .nil)))) (.var 7)))) (.cons (.ret (.lit (.bl false))) .nil) .nil) .nil))))))))) (.cons (.ret (.lit (.bl true))) .nil))))⟩
def c__law_goes_through : Fn := ⟨3, 12, (.cons (.asg (.nm 3) (.call "_law_threaded" (.cons (.var 1) .nil))) (.cons (.asg (.nm 4) (.call "compiled_core" (.cons (.var 1) (.cons (.var 2) .nil)))) (.cons (.asg (.nm 5) (.call "begin_of_stack" (.cons (.var 4) .nil))) (.cons (.for_ (.nm 6) (.seq (.call "_law_words" (.cons (.var 0) (.cons (.bin .add (.lit (.int 1)) (.call "_law_take" (.cons (.var 0) (.cons (.lit (.int 70)) .nil)))) (.cons (.ix (.var 2) (.lit (.int 0))) .nil))))) (.cons (.asg (.nm 7) (.call "seen_core" (.cons (.var 1) (.cons (.var 2) (.cons (.var 5) .nil))))) (.cons (.asg (.nm 8) (.call "_law_seen" (.cons (.var 1) (.cons (.var 7) .nil)))) (.cons (.asg (.nm 9) (.tup (.cons (.call "left_threaded" (.cons (.var 1) (.cons (.var 2) (.cons (.var 7) .nil)))) (.cons (.call "left_core" (.cons (.var 1) (.cons (.var 2) (.cons (.var 5) .nil)))) .nil)))) (.cons (.asg (.nm 5) (.call "step_of_stack" (.cons (.var 4) (.cons (.var 5) (.cons (.var 6) .nil))))) (.cons (.asg (.nm 7) (.call "seen_core" (.cons (.var 1) (.cons (.var 2) (.cons (.var 5) .nil))))) (.cons (.asg (.nm 10) (.call "_law_seen" (.cons (.var 1) (.cons (.var 7) .nil)))) (.cons (.asg (.nm 11) (.cmp .lt (.tup (.cons (.call "left_threaded" (.cons (.var 1) (.cons (.var 2) (.cons (.var 7) .nil)))) (.cons (.call "left_core" (.cons (.var 1) (.cons (.var 2) (.cons (.var 5) .nil)))) .nil))) (.var 9))) (.cons (.ifs (.and (.cmp .ne (.var 10) (.call "_law_core_step" (.cons (.var 3) (.cons (.var 2) (.cons (.var 8) (.cons (.var 6) .nil)))))) (.not (.and (.cmp .eq (.var 10) (.var 8)) (.var 11)))) (.cons (.ret (.lit (.bl false))) .nil) .nil) .nil))))))))) (.cons (.ret (.lit (.bl true))) .nil)))))⟩
def c_law : Fn := ⟨1, 12, (.cons (.asg (.nm 1) (.call "_law_draws" (.cons (.var 0) (.cons (.lit (.int 460)) .nil)))) (.cons (.asg (.nm 2) (.bin .add (.lit (.int 2)) (.call "_law_take" (.cons (.var 1) (.cons (.lit (.int 3)) .nil))))) (.cons (.asg (.nm 3) (.call "_law_half" (.cons (.var 2) .nil))) (.cons (.asg (.nm 4) (.tup (.cons (.var 2) (.cons (.call "_law_take" (.cons (.var 1) (.cons (.lit (.int 2)) .nil))) (.cons (.lit (.int 1)) .nil))))) (.cons (.for_ (.nm 5) (.rng1 (.lit (.int 3))) (.cons (.asg (.nm 6) (.call "_law_thin" (.cons (.var 1) (.cons (.call "_law_core_program" (.cons (.var 1) (.cons (.bin .add (.lit (.int 1)) (.call "_law_take" (.cons (.var 1) (.cons (.lit (.int 2)) .nil)))) (.cons (.bin .add (.lit (.int 1)) (.call "_law_take" (.cons (.var 1) (.cons (.lit (.int 7)) .nil)))) (.cons (.var 3) (.cons (.lit (.int 2)) (.cons (.lit (.int 1)) .nil))))))) .nil)))) (.cons (.asg (.nm 7) (.call "_law_threaded" (.cons (.var 6) .nil))) (.cons (.ifs (.or (.not (.call "_law_same" (.cons (.call "core_threaded" (.cons (.var 6) .nil)) (.cons (.var 7) .nil)))) (.not (.call "_law_same" (.cons (.call "core_threaded" (.cons (.var 7) .nil)) (.cons (.var 7) .nil))))) (.cons (.ret (.lit (.bl false))) .nil) .nil) (.cons (.for_ (.nm 8) (.rng1 (.b1 .len (.ix (.var 6) (.lit (.int 1))))) (.cons (.ifs (.or (.not (.call "_law_same" (.cons (.call "is_core_empty" (.cons (.var 6) (.cons (.var 8) .nil))) (.cons (.call "_law_is_empty" (.cons (.var 6) (.cons (.var 8) .nil))) .nil)))) (.not (.call "_law_same" (.cons (.call "core_thread" (.cons (.var 6) (.cons (.var 8) .nil))) (.cons (.ix (.call "_law_thread" (.cons (.var 6) (.cons (.var 8) .nil))) (.lit (.int 0))) .nil))))) (.cons (.ret (.lit (.bl false))) .nil) .nil) .nil)) (.cons (.for_ (.nm 8) (.seq (.call "core_reached" (.cons (.var 7) .nil))) (.cons (.ifs (.and (.call "_law_is_empty" (.cons (.var 7) (.cons (.var 8) .nil))) (.cmp .ne (.ix (.ix (.ix (.var 7) (.lit (.int 1))) (.var 8)) (.lit (.int 1))) (.tup (.cons (.lit (.str "goto")) (.cons (.var 8) .nil))))) (.cons (.ret (.lit (.bl false))) .nil) .nil) .nil)) (.cons (.ifs (.or (.not (.call "_law_goes" (.cons (.var 1) (.cons (.var 6) (.cons (.var 4) .nil))))) (.not (.call "_law_goes_through" (.cons (.var 1) (.cons (.var 6) (.cons (.var 4) .nil)))))) (.cons (.ret (.lit (.bl false))) .nil) .nil) .nil))))))) (.cons (.asg (.nm 9) (.tup (.cons (.lit (.int 1)) (.cons (.tup (.cons (.tup (.cons (.tup .nil) (.cons (.tup (.cons (.lit (.str "test")) (.cons (.tup (.cons (.lit (.str "of")) (.cons (.lit (.int 0)) .nil))) (.cons (.lit (.int 1)) (.cons (.lit (.int 3)) .nil))))) .nil))) (.cons (.tup (.cons (.tup .nil) (.cons (.tup (.cons (.lit (.str "goto")) (.cons (.lit (.int 4)) .nil))) .nil))) (.cons (.tup (.cons (.tup .nil) (.cons (.tup (.cons (.lit (.str "goto")) (.cons (.lit (.int 4)) .nil))) .nil))) (.cons (.tup (.cons (.tup (.cons (.tup (.cons (.lit (.str "hear")) (.cons (.lit (.int 0)) .nil))) .nil)) (.cons (.tup (.cons (.lit (.str "goto")) (.cons (.lit (.int 0)) .nil))) .nil))) (.cons (.tup (.cons (.tup .nil) (.cons (.tup (.cons (.lit (.str "goto")) (.cons (.lit (.int 2)) .nil))) .nil))) .nil)))))) .nil)))) (.cons (.asg (.nm 10) (.tup (.cons (.lit (.int 1)) (.cons (.tup (.cons (.tup (.cons (.tup .nil) (.cons (.tup (.cons (.lit (.str "test")) (.cons (.tup (.cons (.lit (.str "of")) (.cons (.lit (.int 0)) .nil))) (.cons (.lit (.int 2)) (.cons (.lit (.int 3)) .nil))))) .nil))) (.cons (.tup (.cons (.tup .nil) (.cons (.tup (.cons (.lit (.str "goto")) (.cons (.lit (.int 2)) .nil))) .nil))) (.cons (.tup (.cons (.tup .nil) (.cons (.tup (.cons (.lit (.str "goto")) (.cons (.lit (.int 2)) .nil))) .nil))) (.cons (.tup (.cons (.tup (.cons (.tup (.cons (.lit (.str "hear")) (.cons (.lit (.int 0)) .nil))) .nil)) (.cons (.tup (.cons (.lit (.str "goto")) (.cons (.lit (.int 0)) .nil))) .nil))) (.cons (.tup (.cons (.tup .nil) (.cons (.tup (.cons (.lit (.str "goto")) (.cons (.lit (.int 2)) .nil))) .nil))) .nil)))))) .nil)))) (.cons (.ifs (.or (.not (.call "_law_same" (.cons (.call "core_threaded" (.cons (.var 9) .nil)) (.cons (.var 10) .nil)))) (.not (.call "_law_same" (.cons (.call "core_thread" (.cons (.var 9) (.cons (.lit (.int 1)) .nil))) (.cons (.lit (.int 2)) .nil))))) (.cons (.ret (.lit (.bl false))) .nil) .nil) (.cons (.ret (.call "_law_same" (.cons (.b1 .tup (.comp (.nm 8) (.rng1 (.lit (.int 5))) [11, 8] (.call "left_threaded" (.cons (.var 9) (.cons (.tup (.cons (.lit (.int 2)) (.cons (.lit (.int 0)) (.cons (.lit (.int 1)) .nil)))) (.cons (.tup (.cons (.var 8) (.cons (.lit (.int 0)) (.cons (.tup (.cons (.b1 .int (.cmp .ne (.var 8) (.lit (.int 3)))) .nil)) (.cons (.tup .nil) (.cons (.tup (.cons (.lit (.int 0)) .nil)) .nil)))))) .nil)))))) (.cons (.tup (.cons (.lit (.int 0)) (.cons (.lit (.int 1)) (.cons (.lit (.int 0)) (.cons (.lit (.int 0)) (.cons (.lit (.int 0)) .nil)))))) .nil)))) .nil)))))))))⟩
def t_half_of : FnT := ⟨"half_of", defArgs (tp 1), defBody (tp 1), defScope (tp 1), ["wide"], ["wide"], c_half_of⟩
def t_number_or_zero : FnT := ⟨"number_or_zero", defArgs (tp 2), defBody (tp 2), defScope (tp 2), ["half", "value"], ["half", "value"], c_number_or_zero⟩
def t_item_referred_to : FnT := ⟨"item_referred_to", defArgs (tp 3), defBody (tp 3), defScope (tp 3), ["half", "value", "cells", "item"], ["half", "value", "cells", "item"], c_item_referred_to⟩
def t_reckoned_in_core : FnT := ⟨"reckoned_in_core", defArgs (tp 4), defBody (tp 4), defScope (tp 4), ["half", "name", "one", "other"], ["half", "name", "one", "other", "left", "right"], c_reckoned_in_core⟩
def t_core_value : FnT := ⟨"core_value", defArgs (tp 5), defBody (tp 5), defScope (tp 5), ["half", "e", "variables", "cells"], ["half", "e", "variables", "cells", "one"], c_core_value⟩
def t_core_goes_to : FnT := ⟨"core_goes_to", defArgs (tp 6), defBody (tp 6), defScope (tp 6), ["jump"], ["jump"], c_core_goes_to⟩
def t_core_reached : FnT := ⟨"core_reached", defArgs (tp 7), defBody (tp 7), defScope (tp 7), ["program"], ["program", "found", "at", "way"], c_core_reached⟩
def t_is_core_empty : FnT := ⟨"is_core_empty", defArgs (tp 9), defBody (tp 9), defScope (tp 9), ["program", "block"], ["program", "block", "commands", "jump"], c_is_core_empty⟩
def t_way_over_empty : FnT := ⟨"way_over_empty", defArgs (tp 10), defBody (tp 10), defScope (tp 10), ["program", "block"], ["program", "block", "gone"], c_way_over_empty⟩
def t_core_thread : FnT := ⟨"core_thread", defArgs (tp 11), defBody (tp 11), defScope (tp 11), ["program", "block"], ["program", "block", "gone", "last"], c_core_thread⟩
def t_threaded_jump : FnT := ⟨"threaded_jump", defArgs (tp 12), defBody (tp 12), defScope (tp 12), ["program", "jump"], ["program", "jump", "ways", ".0", "way"], c_threaded_jump⟩
def t_core_threaded : FnT := ⟨"core_threaded", defArgs (tp 13), defBody (tp 13), defScope (tp 13), ["program"], ["program", ".0", "commands", "jump"], c_core_threaded⟩
def t_seen_threaded : FnT := ⟨"seen_threaded", defArgs (tp 14), defBody (tp 14), defScope (tp 14), ["program", "sizes", "state"], ["program", "sizes", "state", "block"], c_seen_threaded⟩
def t_left_threaded : FnT := ⟨"left_threaded", defArgs (tp 15), defBody (tp 15), defScope (tp 15), ["program", "sizes", "state"], ["program", "sizes", "state", "block", "gone", "last"], c_left_threaded⟩
def t_with_item_at : FnT := ⟨"with_item_at", defArgs (tp 17), defBody (tp 17), defScope (tp 17), ["row", "place", "item"], ["row", "place", "item"], c_with_item_at⟩
def t_core_expression_rows : FnT := ⟨"core_expression_rows", defArgs (tp 19), defBody (tp 19), defScope (tp 19), ["e"], ["e", "rows", "part"], c_core_expression_rows⟩
def t_places_for_expression : FnT := ⟨"places_for_expression", defArgs (tp 20), defBody (tp 20), defScope (tp 20), ["e"], ["e", "needed", "k"], c_places_for_expression⟩
def t_core_command_rows : FnT := ⟨"core_command_rows", defArgs (tp 21), defBody (tp 21), defScope (tp 21), ["command"], ["command"], c_core_command_rows⟩
def t_places_for_command : FnT := ⟨"places_for_command", defArgs (tp 22), defBody (tp 22), defScope (tp 22), ["command"], ["command"], c_places_for_command⟩
def t_length_of_jump : FnT := ⟨"length_of_jump", defArgs (tp 23), defBody (tp 23), defScope (tp 23), ["jump"], ["jump"], c_length_of_jump⟩
def t_lengths_in_block : FnT := ⟨"lengths_in_block", defArgs (tp 24), defBody (tp 24), defScope (tp 24), ["block"], ["block", ".0", "command"], c_lengths_in_block⟩
def t_core_block_addresses : FnT := ⟨"core_block_addresses", defArgs (tp 25), defBody (tp 25), defScope (tp 25), ["program"], ["program", "found", "block"], c_core_block_addresses⟩
def t_core_jump_rows : FnT := ⟨"core_jump_rows", defArgs (tp 26), defBody (tp 26), defScope (tp 26), ["jump", "addresses"], ["jump", "addresses"], c_core_jump_rows⟩
def t_places_for_block : FnT := ⟨"places_for_block", defArgs (tp 27), defBody (tp 27), defScope (tp 27), ["block"], ["block", "commands", "jump", "needed", ".0", "command"], c_places_for_block⟩
def t_core_rows : FnT := ⟨"core_rows", defArgs (tp 28), defBody (tp 28), defScope (tp 28), ["program"], ["program", "addresses", "rows", "commands", "jump", "command"], c_core_rows⟩
def t_compiled_core : FnT := ⟨"compiled_core", defArgs (tp 29), defBody (tp 29), defScope (tp 29), ["program", "sizes"], ["program", "sizes", "wide", "cells", "lights", "places", ".0", "block"], c_compiled_core⟩
def t_place_of_row_in_core : FnT := ⟨"place_of_row_in_core", defArgs (tp 30), defBody (tp 30), defScope (tp 30), ["program", "at"], ["program", "at", "addresses", "block", "left", "lengths", "place", ".0", "address"], c_place_of_row_in_core⟩
def t_is_kept_alone : FnT := ⟨"is_kept_alone", defArgs (tp 31), defBody (tp 31), defScope (tp 31), ["program", "block", "place", "within"], ["program", "block", "place", "within", "commands"], c_is_kept_alone⟩
def t_seen_core : FnT := ⟨"seen_core", defArgs (tp 32), defBody (tp 32), defScope (tp 32), ["program", "sizes", "state"], ["program", "sizes", "state", "at", "stack", "values", "cells", "lights", "block", "place", "within"], c_seen_core⟩
def t_left_at_place : FnT := ⟨"left_at_place", defArgs (tp 33), defBody (tp 33), defScope (tp 33), ["program", "sizes", "seen", "within"], ["program", "sizes", "seen", "within", "block", "place", "values", "cells", "lights", "commands", "jump", "rows", "gone"], c_left_at_place⟩
def t_left_core : FnT := ⟨"left_core", defArgs (tp 34), defBody (tp 34), defScope (tp 34), ["program", "sizes", "state"], ["program", "sizes", "state", "seen", "block", "place", "within"], c_left_core⟩
def t_power_of_two : FnT := ⟨"power_of_two", defArgs (tp 36), defBody (tp 36), defScope (tp 36), ["wide"], ["wide", "found", "_"], c_power_of_two⟩
def t_bits_of_word : FnT := ⟨"bits_of_word", defArgs (tp 37), defBody (tp 37), defScope (tp 37), ["word", "wide"], ["word", "wide", "bits", "_"], c_bits_of_word⟩
def t_half_of_wide : FnT := ⟨"half_of_wide", defArgs (tp 38), defBody (tp 38), defScope (tp 38), ["wide"], ["wide"], c_half_of_wide⟩
def t_is_reference : FnT := ⟨"is_reference", defArgs (tp 39), defBody (tp 39), defScope (tp 39), ["value", "wide"], ["value", "wide"], c_is_reference⟩
def t_number_of_value : FnT := ⟨"number_of_value", defArgs (tp 40), defBody (tp 40), defScope (tp 40), ["value", "wide"], ["value", "wide"], c_number_of_value⟩
def t_number_heard : FnT := ⟨"number_heard", defArgs (tp 41), defBody (tp 41), defScope (tp 41), ["heard", "wide"], ["heard", "wide"], c_number_heard⟩
def t_shown_bits : FnT := ⟨"shown_bits", defArgs (tp 42), defBody (tp 42), defScope (tp 42), ["number", "lights"], ["number", "lights"], c_shown_bits⟩
def t_cell_of : FnT := ⟨"cell_of", defArgs (tp 44), defBody (tp 44), defScope (tp 44), ["value", "wide"], ["value", "wide"], c_cell_of⟩
def t_reference_to : FnT := ⟨"reference_to", defArgs (tp 45), defBody (tp 45), defScope (tp 45), ["cell", "wide"], ["cell", "wide"], c_reference_to⟩
def t_cells_among : FnT := ⟨"cells_among", defArgs (tp 46), defBody (tp 46), defScope (tp 46), ["values", "wide"], ["values", "wide", "found", "value"], c_cells_among⟩
def t_items_of_cell : FnT := ⟨"items_of_cell", defArgs (tp 47), defBody (tp 47), defScope (tp 47), ["cells", "cell"], ["cells", "cell"], c_items_of_cell⟩
def t_cells_found : FnT := ⟨"cells_found", defArgs (tp 48), defBody (tp 48), defScope (tp 48), ["cells", "values", "wide"], ["cells", "values", "wide", "found", "at", "cell"], c_cells_found⟩
def t_cells_come_to : FnT := ⟨"cells_come_to", defArgs (tp 49), defBody (tp 49), defScope (tp 49), ["cells", "values", "wide"], ["cells", "values", "wide"], c_cells_come_to⟩
def t_roots_of_stack : FnT := ⟨"roots_of_stack", defArgs (tp 50), defBody (tp 50), defScope (tp 50), ["state"], ["state"], c_roots_of_stack⟩
def t_collected_cells : FnT := ⟨"collected_cells", defArgs (tp 52), defBody (tp 52), defScope (tp 52), ["cells", "values", "wide"], ["cells", "values", "wide", "come_to", ".0", "cell"], c_collected_cells⟩
def t_free_cell : FnT := ⟨"free_cell", defArgs (tp 53), defBody (tp 53), defScope (tp 53), ["cells"], ["cells"], c_free_cell⟩
def t_are_all_come_to : FnT := ⟨"are_all_come_to", defArgs (tp 54), defBody (tp 54), defScope (tp 54), ["program", "state"], ["program", "state"], c_are_all_come_to⟩
def t_rows_of_calls : FnT := ⟨"rows_of_calls", defArgs (tp 59), defBody (tp 59), defScope (tp 59), ["program"], ["program", ".0", "at"], c_rows_of_calls⟩
def t_begin_of_stack : FnT := ⟨"begin_of_stack", defArgs (tp 60), defBody (tp 60), defScope (tp 60), ["program"], ["program", "wide", "shown", "places", "own", "cells", "rows"], c_begin_of_stack⟩
def t_taken_from_stack : FnT := ⟨"taken_from_stack", defArgs (tp 61), defBody (tp 61), defScope (tp 61), ["stack"], ["stack"], c_taken_from_stack⟩
def t_full_state : FnT := ⟨"full_state", defArgs (tp 62), defBody (tp 62), defScope (tp 62), ["program", "state"], ["program", "state"], c_full_state⟩
def t_put_on_stack : FnT := ⟨"put_on_stack", defArgs (tp 63), defBody (tp 63), defScope (tp 63), ["program", "state", "value", "at"], ["program", "state", "value", "at"], c_put_on_stack⟩
def t_value_of_two : FnT := ⟨"value_of_two", defArgs (tp 64), defBody (tp 64), defScope (tp 64), ["program", "name", "one", "other"], ["program", "name", "one", "other", "half", "first", "second"], c_value_of_two⟩
def t_value_of_one : FnT := ⟨"value_of_one", defArgs (tp 65), defBody (tp 65), defScope (tp 65), ["program", "name", "value", "cells"], ["program", "name", "value", "cells"], c_value_of_one⟩
def t_step_of_two : FnT := ⟨"step_of_two", defArgs (tp 66), defBody (tp 66), defScope (tp 66), ["program", "state", "name"], ["program", "state", "name", "at", "stack", "own", "cells", "lights", "other", "one"], c_step_of_two⟩
def t_step_of_one : FnT := ⟨"step_of_one", defArgs (tp 67), defBody (tp 67), defScope (tp 67), ["program", "state", "name"], ["program", "state", "name", "at", "stack", "own", "cells", "lights", "value"], c_step_of_one⟩
def t_step_of_pair : FnT := ⟨"step_of_pair", defArgs (tp 68), defBody (tp 68), defScope (tp 68), ["program", "state"], ["program", "state", "at", "stack", "own", "cells", "lights", "cell", "other", "one", "made"], c_step_of_pair⟩
def t_value_put : FnT := ⟨"value_put", defArgs (tp 69), defBody (tp 69), defScope (tp 69), ["program", "state", "row", "heard"], ["program", "state", "row", "heard"], c_value_put⟩
def t_step_of_back : FnT := ⟨"step_of_back", defArgs (tp 70), defBody (tp 70), defScope (tp 70), ["program", "state"], ["program", "state", "value", "stack", "calls"], c_step_of_back⟩
def t_step_of_taking : FnT := ⟨"step_of_taking", defArgs (tp 71), defBody (tp 71), defScope (tp 71), ["program", "state", "row"], ["program", "state", "row", "at", "stack", "own", "cells", "lights", "value"], c_step_of_taking⟩
def t_step_of_going : FnT := ⟨"step_of_going", defArgs (tp 72), defBody (tp 72), defScope (tp 72), ["program", "state", "row"], ["program", "state", "row"], c_step_of_going⟩
def t_step_of_stack : FnT := ⟨"step_of_stack", defArgs (tp 73), defBody (tp 73), defScope (tp 73), ["program", "state", "heard"], ["program", "state", "heard", "at", "row"], c_step_of_stack⟩
def t__law_draws : FnT := ⟨"_law_draws", defArgs (tp 75), defBody (tp 75), defScope (tp 75), ["script", "many"], ["script", "many", "cells", "entry", "rest", "k", "draws", "at", "once", "twice"], c__law_draws⟩
def t__law_take : FnT := ⟨"_law_take", defArgs (tp 76), defBody (tp 76), defScope (tp 76), ["draws", "many"], ["draws", "many"], c__law_take⟩
def t__law_half : FnT := ⟨"_law_half", defArgs (tp 77), defBody (tp 77), defScope (tp 77), ["wide"], ["wide", "half", "k"], c__law_half⟩
def t__law_put : FnT := ⟨"_law_put", defArgs (tp 78), defBody (tp 78), defScope (tp 78), ["row", "place", "item"], ["row", "place", "item"], c__law_put⟩
def t__law_number : FnT := ⟨"_law_number", defArgs (tp 79), defBody (tp 79), defScope (tp 79), ["half", "value"], ["half", "value"], c__law_number⟩
def t__law_core_value : FnT := ⟨"_law_core_value", defArgs (tp 80), defBody (tp 80), defScope (tp 80), ["half", "e", "variables", "cells"], ["half", "e", "variables", "cells", "name", "parts", "one", "other", ".0", "part"], c__law_core_value⟩
def t__law_come_to : FnT := ⟨"_law_come_to", defArgs (tp 81), defBody (tp 81), defScope (tp 81), ["half", "cells", "values"], ["half", "cells", "values", "found", "rows", "k", "more", "cell", ".0", "value"], c__law_come_to⟩
def t__law_bits : FnT := ⟨"_law_bits", defArgs (tp 82), defBody (tp 82), defScope (tp 82), ["half", "many", "value"], ["half", "many", "value", "rest", "found", "k"], c__law_bits⟩
def t__law_core_pair : FnT := ⟨"_law_core_pair", defArgs (tp 83), defBody (tp 83), defScope (tp 83), ["program", "half", "state", "command"], ["program", "half", "state", "command", "block", "place", "variables", "cells", "lights", "items", "free", "kept", ".0", "k"], c__law_core_pair⟩
def t__law_core_step : FnT := ⟨"_law_core_step", defArgs (tp 84), defBody (tp 84), defScope (tp 84), ["program", "sizes", "state", "heard"], ["program", "sizes", "state", "heard", "block", "place", "variables", "cells", "lights", "half", "commands", "jump", "command", "value"], c__law_core_step⟩
def t__law_core_begin : FnT := ⟨"_law_core_begin", defArgs (tp 85), defBody (tp 85), defScope (tp 85), ["program", "sizes"], ["program", "sizes"], c__law_core_begin⟩
def t__law_core_expression : FnT := ⟨"_law_core_expression", defArgs (tp 86), defBody (tp 86), defScope (tp 86), ["draws", "many", "half", "deep"], ["draws", "many", "half", "deep", "pick", "one", "other"], c__law_core_expression⟩
def t__law_core_command : FnT := ⟨"_law_core_command", defArgs (tp 87), defBody (tp 87), defScope (tp 87), ["draws", "many", "half", "deep"], ["draws", "many", "half", "deep", "pick", "v", "one"], c__law_core_command⟩
def t__law_core_program : FnT := ⟨"_law_core_program", defArgs (tp 88), defBody (tp 88), defScope (tp 88), ["draws", "many", "size", "half", "most", "deep"], ["draws", "many", "size", "half", "most", "deep", "blocks", "k", "commands", "pick", "jump", ".0", "j"], c__law_core_program⟩
def t__law_words : FnT := ⟨"_law_words", defArgs (tp 89), defBody (tp 89), defScope (tp 89), ["draws", "many", "wide"], ["draws", "many", "wide", "most", ".0", "k"], c__law_words⟩
def t__law_same : FnT := ⟨"_law_same", defArgs (tp 90), defBody (tp 90), defScope (tp 90), ["actual", "due"], ["actual", "due", "k"], c__law_same⟩
def t__law_thin : FnT := ⟨"_law_thin", defArgs (tp 91), defBody (tp 91), defScope (tp 91), ["draws", "program"], ["draws", "program", "size", "blocks", "commands", "jump"], c__law_thin⟩
def t__law_is_empty : FnT := ⟨"_law_is_empty", defArgs (tp 92), defBody (tp 92), defScope (tp 92), ["program", "block"], ["program", "block", "commands", "jump"], c__law_is_empty⟩
def t__law_thread : FnT := ⟨"_law_thread", defArgs (tp 93), defBody (tp 93), defScope (tp 93), ["program", "block"], ["program", "block", "way", "k", "ring", ".0", "own"], c__law_thread⟩
def t__law_threaded : FnT := ⟨"_law_threaded", defArgs (tp 94), defBody (tp 94), defScope (tp 94), ["program"], ["program", "blocks", "commands", "jump"], c__law_threaded⟩
def t__law_seen : FnT := ⟨"_law_seen", defArgs (tp 95), defBody (tp 95), defScope (tp 95), ["program", "state"], ["program", "state"], c__law_seen⟩
def t__law_goes : FnT := ⟨"_law_goes", defArgs (tp 96), defBody (tp 96), defScope (tp 96), ["draws", "program", "sizes"], ["draws", "program", "sizes", "threaded", "state", "heard", "own", "left", "due", "later"], c__law_goes⟩
def t__law_goes_through : FnT := ⟨"_law_goes_through", defArgs (tp 97), defBody (tp 97), defScope (tp 97), ["draws", "program", "sizes"], ["draws", "program", "sizes", "threaded", "code", "state", "heard", "middle", "own", "rank", "later", "fallen"], c__law_goes_through⟩
def t_law : FnT := ⟨"law", defArgs (tp 98), defBody (tp 98), defScope (tp 98), ["script"], ["script", "draws", "wide", "half", "sizes", "k", "program", "threaded", "block", "ring", "due", ".0"], c_law⟩
def tb : List FnT := [t_half_of, t_number_or_zero, t_item_referred_to, t_reckoned_in_core, t_core_value, t_core_goes_to, t_core_reached, t_is_core_empty, t_way_over_empty, t_core_thread, t_threaded_jump, t_core_threaded, t_seen_threaded, t_left_threaded, t_with_item_at, t_core_expression_rows, t_places_for_expression, t_core_command_rows, t_places_for_command, t_length_of_jump, t_lengths_in_block, t_core_block_addresses, t_core_jump_rows, t_places_for_block, t_core_rows, t_compiled_core, t_place_of_row_in_core, t_is_kept_alone, t_seen_core, t_left_at_place, t_left_core, t_power_of_two, t_bits_of_word, t_half_of_wide, t_is_reference, t_number_of_value, t_number_heard, t_shown_bits, t_cell_of, t_reference_to, t_cells_among, t_items_of_cell, t_cells_found, t_cells_come_to, t_roots_of_stack, t_collected_cells, t_free_cell, t_are_all_come_to, t_rows_of_calls, t_begin_of_stack, t_taken_from_stack, t_full_state, t_put_on_stack, t_value_of_two, t_value_of_one, t_step_of_two, t_step_of_one, t_step_of_pair, t_value_put, t_step_of_back, t_step_of_taking, t_step_of_going, t_step_of_stack, t__law_draws, t__law_take, t__law_half, t__law_put, t__law_number, t__law_core_value, t__law_come_to, t__law_bits, t__law_core_pair, t__law_core_step, t__law_core_begin, t__law_core_expression, t__law_core_command, t__law_core_program, t__law_words, t__law_same, t__law_thin, t__law_is_empty, t__law_thread, t__law_threaded, t__law_seen, t__law_goes, t__law_goes_through, t_law]
def gl : List (Str × D) := [("OF_TWO", (.tup [(.str "plus"), (.str "minus"), (.str "less"), (.str "same")])), ("OF_ONE", (.tup [(.str "first"), (.str "second"), (.str "paired")])), ("PUTTING", (.tup [(.str "push"), (.str "load"), (.str "hear")]))]
def sb : List (Str × Str × Bool) := []
def xs : List Str := []
theorem o_half_of : t_half_of.Ok (inF tb) xs.contains := ⟨by kernel_rfl, by decide +kernel, rfl, rfl, fun _ _ _ _ _ _ us hl => match us, hl with | [_], _ => rfl⟩
theorem o_number_or_zero : t_number_or_zero.Ok (inF tb) xs.contains := ⟨by kernel_rfl, by decide +kernel, rfl, rfl, fun _ _ _ _ _ _ us hl => match us, hl with | [_, _], _ => rfl⟩
theorem o_item_referred_to : t_item_referred_to.Ok (inF tb) xs.contains := ⟨by kernel_rfl, by decide +kernel, rfl, rfl, fun _ _ _ _ _ _ us hl => match us, hl with | [_, _, _, _], _ => rfl⟩
theorem o_reckoned_in_core : t_reckoned_in_core.Ok (inF tb) xs.contains := ⟨by kernel_rfl, by decide +kernel, rfl, rfl, fun _ _ _ _ _ _ us hl => match us, hl with | [_, _, _, _], _ => rfl⟩
theorem o_core_value : t_core_value.Ok (inF tb) xs.contains := ⟨by kernel_rfl, by decide +kernel, rfl, rfl, fun _ _ _ _ _ _ us hl => match us, hl with | [_, _, _, _], _ => rfl⟩
theorem o_core_goes_to : t_core_goes_to.Ok (inF tb) xs.contains := ⟨by kernel_rfl, by decide +kernel, rfl, rfl, fun _ _ _ _ _ _ us hl => match us, hl with | [_], _ => rfl⟩
theorem o_core_reached : t_core_reached.Ok (inF tb) xs.contains := ⟨by kernel_rfl, by decide +kernel, rfl, rfl, fun _ _ _ _ _ _ us hl => match us, hl with | [_], _ => rfl⟩
theorem o_is_core_empty : t_is_core_empty.Ok (inF tb) xs.contains := ⟨by kernel_rfl, by decide +kernel, rfl, rfl, fun _ _ _ _ _ _ us hl => match us, hl with | [_, _], _ => rfl⟩
theorem o_way_over_empty : t_way_over_empty.Ok (inF tb) xs.contains := ⟨by kernel_rfl, by decide +kernel, rfl, rfl, fun _ _ _ _ _ _ us hl => match us, hl with | [_, _], _ => rfl⟩
theorem o_core_thread : t_core_thread.Ok (inF tb) xs.contains := ⟨by kernel_rfl, by decide +kernel, rfl, rfl, fun _ _ _ _ _ _ us hl => match us, hl with | [_, _], _ => rfl⟩
theorem o_threaded_jump : t_threaded_jump.Ok (inF tb) xs.contains := ⟨by kernel_rfl, by decide +kernel, rfl, rfl, fun _ _ _ _ _ _ us hl => match us, hl with | [_, _], _ => rfl⟩
theorem o_core_threaded : t_core_threaded.Ok (inF tb) xs.contains := ⟨by kernel_rfl, by decide +kernel, rfl, rfl, fun _ _ _ _ _ _ us hl => match us, hl with | [_], _ => rfl⟩
theorem o_seen_threaded : t_seen_threaded.Ok (inF tb) xs.contains := ⟨by kernel_rfl, by decide +kernel, rfl, rfl, fun _ _ _ _ _ _ us hl => match us, hl with | [_, _, _], _ => rfl⟩
theorem o_left_threaded : t_left_threaded.Ok (inF tb) xs.contains := ⟨by kernel_rfl, by decide +kernel, rfl, rfl, fun _ _ _ _ _ _ us hl => match us, hl with | [_, _, _], _ => rfl⟩
theorem o_with_item_at : t_with_item_at.Ok (inF tb) xs.contains := ⟨by kernel_rfl, by decide +kernel, rfl, rfl, fun _ _ _ _ _ _ us hl => match us, hl with | [_, _, _], _ => rfl⟩
theorem o_core_expression_rows : t_core_expression_rows.Ok (inF tb) xs.contains := ⟨by kernel_rfl, by decide +kernel, rfl, rfl, fun _ _ _ _ _ _ us hl => match us, hl with | [_], _ => rfl⟩
theorem o_places_for_expression : t_places_for_expression.Ok (inF tb) xs.contains := ⟨by kernel_rfl, by decide +kernel, rfl, rfl, fun _ _ _ _ _ _ us hl => match us, hl with | [_], _ => rfl⟩
theorem o_core_command_rows : t_core_command_rows.Ok (inF tb) xs.contains := ⟨by kernel_rfl, by decide +kernel, rfl, rfl, fun _ _ _ _ _ _ us hl => match us, hl with | [_], _ => rfl⟩
theorem o_places_for_command : t_places_for_command.Ok (inF tb) xs.contains := ⟨by kernel_rfl, by decide +kernel, rfl, rfl, fun _ _ _ _ _ _ us hl => match us, hl with | [_], _ => rfl⟩
theorem o_length_of_jump : t_length_of_jump.Ok (inF tb) xs.contains := ⟨by kernel_rfl, by decide +kernel, rfl, rfl, fun _ _ _ _ _ _ us hl => match us, hl with | [_], _ => rfl⟩
theorem o_lengths_in_block : t_lengths_in_block.Ok (inF tb) xs.contains := ⟨by kernel_rfl, by decide +kernel, rfl, rfl, fun _ _ _ _ _ _ us hl => match us, hl with | [_], _ => rfl⟩
theorem o_core_block_addresses : t_core_block_addresses.Ok (inF tb) xs.contains := ⟨by kernel_rfl, by decide +kernel, rfl, rfl, fun _ _ _ _ _ _ us hl => match us, hl with | [_], _ => rfl⟩
theorem o_core_jump_rows : t_core_jump_rows.Ok (inF tb) xs.contains := ⟨by kernel_rfl, by decide +kernel, rfl, rfl, fun _ _ _ _ _ _ us hl => match us, hl with | [_, _], _ => rfl⟩
theorem o_places_for_block : t_places_for_block.Ok (inF tb) xs.contains := ⟨by kernel_rfl, by decide +kernel, rfl, rfl, fun _ _ _ _ _ _ us hl => match us, hl with | [_], _ => rfl⟩
theorem o_core_rows : t_core_rows.Ok (inF tb) xs.contains := ⟨by kernel_rfl, by decide +kernel, rfl, rfl, fun _ _ _ _ _ _ us hl => match us, hl with | [_], _ => rfl⟩
theorem o_compiled_core : t_compiled_core.Ok (inF tb) xs.contains := ⟨by kernel_rfl, by decide +kernel, rfl, rfl, fun _ _ _ _ _ _ us hl => match us, hl with | [_, _], _ => rfl⟩
theorem o_place_of_row_in_core : t_place_of_row_in_core.Ok (inF tb) xs.contains := ⟨by kernel_rfl, by decide +kernel, rfl, rfl, fun _ _ _ _ _ _ us hl => match us, hl with | [_, _], _ => rfl⟩
theorem o_is_kept_alone : t_is_kept_alone.Ok (inF tb) xs.contains := ⟨by kernel_rfl, by decide +kernel, rfl, rfl, fun _ _ _ _ _ _ us hl => match us, hl with | [_, _, _, _], _ => rfl⟩
theorem o_seen_core : t_seen_core.Ok (inF tb) xs.contains := ⟨by kernel_rfl, by decide +kernel, rfl, rfl, fun _ _ _ _ _ _ us hl => match us, hl with | [_, _, _], _ => rfl⟩
theorem o_left_at_place : t_left_at_place.Ok (inF tb) xs.contains := ⟨by kernel_rfl, by decide +kernel, rfl, rfl, fun _ _ _ _ _ _ us hl => match us, hl with | [_, _, _, _], _ => rfl⟩
theorem o_left_core : t_left_core.Ok (inF tb) xs.contains := ⟨by kernel_rfl, by decide +kernel, rfl, rfl, fun _ _ _ _ _ _ us hl => match us, hl with | [_, _, _], _ => rfl⟩
theorem o_power_of_two : t_power_of_two.Ok (inF tb) xs.contains := ⟨by kernel_rfl, by decide +kernel, rfl, rfl, fun _ _ _ _ _ _ us hl => match us, hl with | [_], _ => rfl⟩
theorem o_bits_of_word : t_bits_of_word.Ok (inF tb) xs.contains := ⟨by kernel_rfl, by decide +kernel, rfl, rfl, fun _ _ _ _ _ _ us hl => match us, hl with | [_, _], _ => rfl⟩
theorem o_half_of_wide : t_half_of_wide.Ok (inF tb) xs.contains := ⟨by kernel_rfl, by decide +kernel, rfl, rfl, fun _ _ _ _ _ _ us hl => match us, hl with | [_], _ => rfl⟩
theorem o_is_reference : t_is_reference.Ok (inF tb) xs.contains := ⟨by kernel_rfl, by decide +kernel, rfl, rfl, fun _ _ _ _ _ _ us hl => match us, hl with | [_, _], _ => rfl⟩
theorem o_number_of_value : t_number_of_value.Ok (inF tb) xs.contains := ⟨by kernel_rfl, by decide +kernel, rfl, rfl, fun _ _ _ _ _ _ us hl => match us, hl with | [_, _], _ => rfl⟩
theorem o_number_heard : t_number_heard.Ok (inF tb) xs.contains := ⟨by kernel_rfl, by decide +kernel, rfl, rfl, fun _ _ _ _ _ _ us hl => match us, hl with | [_, _], _ => rfl⟩
theorem o_shown_bits : t_shown_bits.Ok (inF tb) xs.contains := ⟨by kernel_rfl, by decide +kernel, rfl, rfl, fun _ _ _ _ _ _ us hl => match us, hl with | [_, _], _ => rfl⟩
theorem o_cell_of : t_cell_of.Ok (inF tb) xs.contains := ⟨by kernel_rfl, by decide +kernel, rfl, rfl, fun _ _ _ _ _ _ us hl => match us, hl with | [_, _], _ => rfl⟩
theorem o_reference_to : t_reference_to.Ok (inF tb) xs.contains := ⟨by kernel_rfl, by decide +kernel, rfl, rfl, fun _ _ _ _ _ _ us hl => match us, hl with | [_, _], _ => rfl⟩
theorem o_cells_among : t_cells_among.Ok (inF tb) xs.contains := ⟨by kernel_rfl, by decide +kernel, rfl, rfl, fun _ _ _ _ _ _ us hl => match us, hl with | [_, _], _ => rfl⟩
theorem o_items_of_cell : t_items_of_cell.Ok (inF tb) xs.contains := ⟨by kernel_rfl, by decide +kernel, rfl, rfl, fun _ _ _ _ _ _ us hl => match us, hl with | [_, _], _ => rfl⟩
theorem o_cells_found : t_cells_found.Ok (inF tb) xs.contains := ⟨by kernel_rfl, by decide +kernel, rfl, rfl, fun _ _ _ _ _ _ us hl => match us, hl with | [_, _, _], _ => rfl⟩
theorem o_cells_come_to : t_cells_come_to.Ok (inF tb) xs.contains := ⟨by kernel_rfl, by decide +kernel, rfl, rfl, fun _ _ _ _ _ _ us hl => match us, hl with | [_, _, _], _ => rfl⟩
theorem o_roots_of_stack : t_roots_of_stack.Ok (inF tb) xs.contains := ⟨by kernel_rfl, by decide +kernel, rfl, rfl, fun _ _ _ _ _ _ us hl => match us, hl with | [_], _ => rfl⟩
theorem o_collected_cells : t_collected_cells.Ok (inF tb) xs.contains := ⟨by kernel_rfl, by decide +kernel, rfl, rfl, fun _ _ _ _ _ _ us hl => match us, hl with | [_, _, _], _ => rfl⟩
theorem o_free_cell : t_free_cell.Ok (inF tb) xs.contains := ⟨by kernel_rfl, by decide +kernel, rfl, rfl, fun _ _ _ _ _ _ us hl => match us, hl with | [_], _ => rfl⟩
theorem o_are_all_come_to : t_are_all_come_to.Ok (inF tb) xs.contains := ⟨by kernel_rfl, by decide +kernel, rfl, rfl, fun _ _ _ _ _ _ us hl => match us, hl with | [_, _], _ => rfl⟩
theorem o_rows_of_calls : t_rows_of_calls.Ok (inF tb) xs.contains := ⟨by kernel_rfl, by decide +kernel, rfl, rfl, fun _ _ _ _ _ _ us hl => match us, hl with | [_], _ => rfl⟩
theorem o_begin_of_stack : t_begin_of_stack.Ok (inF tb) xs.contains := ⟨by kernel_rfl, by decide +kernel, rfl, rfl, fun _ _ _ _ _ _ us hl => match us, hl with | [_], _ => rfl⟩
theorem o_taken_from_stack : t_taken_from_stack.Ok (inF tb) xs.contains := ⟨by kernel_rfl, by decide +kernel, rfl, rfl, fun _ _ _ _ _ _ us hl => match us, hl with | [_], _ => rfl⟩
theorem o_full_state : t_full_state.Ok (inF tb) xs.contains := ⟨by kernel_rfl, by decide +kernel, rfl, rfl, fun _ _ _ _ _ _ us hl => match us, hl with | [_, _], _ => rfl⟩
theorem o_put_on_stack : t_put_on_stack.Ok (inF tb) xs.contains := ⟨by kernel_rfl, by decide +kernel, rfl, rfl, fun _ _ _ _ _ _ us hl => match us, hl with | [_, _, _, _], _ => rfl⟩
theorem o_value_of_two : t_value_of_two.Ok (inF tb) xs.contains := ⟨by kernel_rfl, by decide +kernel, rfl, rfl, fun _ _ _ _ _ _ us hl => match us, hl with | [_, _, _, _], _ => rfl⟩
theorem o_value_of_one : t_value_of_one.Ok (inF tb) xs.contains := ⟨by kernel_rfl, by decide +kernel, rfl, rfl, fun _ _ _ _ _ _ us hl => match us, hl with | [_, _, _, _], _ => rfl⟩
theorem o_step_of_two : t_step_of_two.Ok (inF tb) xs.contains := ⟨by kernel_rfl, by decide +kernel, rfl, rfl, fun _ _ _ _ _ _ us hl => match us, hl with | [_, _, _], _ => rfl⟩
theorem o_step_of_one : t_step_of_one.Ok (inF tb) xs.contains := ⟨by kernel_rfl, by decide +kernel, rfl, rfl, fun _ _ _ _ _ _ us hl => match us, hl with | [_, _, _], _ => rfl⟩
theorem o_step_of_pair : t_step_of_pair.Ok (inF tb) xs.contains := ⟨by kernel_rfl, by decide +kernel, rfl, rfl, fun _ _ _ _ _ _ us hl => match us, hl with | [_, _], _ => rfl⟩
theorem o_value_put : t_value_put.Ok (inF tb) xs.contains := ⟨by kernel_rfl, by decide +kernel, rfl, rfl, fun _ _ _ _ _ _ us hl => match us, hl with | [_, _, _, _], _ => rfl⟩
theorem o_step_of_back : t_step_of_back.Ok (inF tb) xs.contains := ⟨by kernel_rfl, by decide +kernel, rfl, rfl, fun _ _ _ _ _ _ us hl => match us, hl with | [_, _], _ => rfl⟩
theorem o_step_of_taking : t_step_of_taking.Ok (inF tb) xs.contains := ⟨by kernel_rfl, by decide +kernel, rfl, rfl, fun _ _ _ _ _ _ us hl => match us, hl with | [_, _, _], _ => rfl⟩
theorem o_step_of_going : t_step_of_going.Ok (inF tb) xs.contains := ⟨by kernel_rfl, by decide +kernel, rfl, rfl, fun _ _ _ _ _ _ us hl => match us, hl with | [_, _, _], _ => rfl⟩
theorem o_step_of_stack : t_step_of_stack.Ok (inF tb) xs.contains := ⟨by kernel_rfl, by decide +kernel, rfl, rfl, fun _ _ _ _ _ _ us hl => match us, hl with | [_, _, _], _ => rfl⟩
theorem o__law_draws : t__law_draws.Ok (inF tb) xs.contains := ⟨by kernel_rfl, by decide +kernel, rfl, rfl, fun _ _ _ _ _ _ us hl => match us, hl with | [_, _], _ => rfl⟩
theorem o__law_take : t__law_take.Ok (inF tb) xs.contains := ⟨by kernel_rfl, by decide +kernel, rfl, rfl, fun _ _ _ _ _ _ us hl => match us, hl with | [_, _], _ => rfl⟩
theorem o__law_half : t__law_half.Ok (inF tb) xs.contains := ⟨by kernel_rfl, by decide +kernel, rfl, rfl, fun _ _ _ _ _ _ us hl => match us, hl with | [_], _ => rfl⟩
theorem o__law_put : t__law_put.Ok (inF tb) xs.contains := ⟨by kernel_rfl, by decide +kernel, rfl, rfl, fun _ _ _ _ _ _ us hl => match us, hl with | [_, _, _], _ => rfl⟩
theorem o__law_number : t__law_number.Ok (inF tb) xs.contains := ⟨by kernel_rfl, by decide +kernel, rfl, rfl, fun _ _ _ _ _ _ us hl => match us, hl with | [_, _], _ => rfl⟩
theorem o__law_core_value : t__law_core_value.Ok (inF tb) xs.contains := ⟨by kernel_rfl, by decide +kernel, rfl, rfl, fun _ _ _ _ _ _ us hl => match us, hl with | [_, _, _, _], _ => rfl⟩
theorem o__law_come_to : t__law_come_to.Ok (inF tb) xs.contains := ⟨by kernel_rfl, by decide +kernel, rfl, rfl, fun _ _ _ _ _ _ us hl => match us, hl with | [_, _, _], _ => rfl⟩
theorem o__law_bits : t__law_bits.Ok (inF tb) xs.contains := ⟨by kernel_rfl, by decide +kernel, rfl, rfl, fun _ _ _ _ _ _ us hl => match us, hl with | [_, _, _], _ => rfl⟩
theorem o__law_core_pair : t__law_core_pair.Ok (inF tb) xs.contains := ⟨by kernel_rfl, by decide +kernel, rfl, rfl, fun _ _ _ _ _ _ us hl => match us, hl with | [_, _, _, _], _ => rfl⟩
theorem o__law_core_step : t__law_core_step.Ok (inF tb) xs.contains := ⟨by kernel_rfl, by decide +kernel, rfl, rfl, fun _ _ _ _ _ _ us hl => match us, hl with | [_, _, _, _], _ => rfl⟩
theorem o__law_core_begin : t__law_core_begin.Ok (inF tb) xs.contains := ⟨by kernel_rfl, by decide +kernel, rfl, rfl, fun _ _ _ _ _ _ us hl => match us, hl with | [_, _], _ => rfl⟩
theorem o__law_core_expression : t__law_core_expression.Ok (inF tb) xs.contains := ⟨by kernel_rfl, by decide +kernel, rfl, rfl, fun _ _ _ _ _ _ us hl => match us, hl with | [_, _, _, _], _ => rfl⟩
theorem o__law_core_command : t__law_core_command.Ok (inF tb) xs.contains := ⟨by kernel_rfl, by decide +kernel, rfl, rfl, fun _ _ _ _ _ _ us hl => match us, hl with | [_, _, _, _], _ => rfl⟩
theorem o__law_core_program : t__law_core_program.Ok (inF tb) xs.contains := ⟨by kernel_rfl, by decide +kernel, rfl, rfl, fun _ _ _ _ _ _ us hl => match us, hl with | [_, _, _, _, _, _], _ => rfl⟩
theorem o__law_words : t__law_words.Ok (inF tb) xs.contains := ⟨by kernel_rfl, by decide +kernel, rfl, rfl, fun _ _ _ _ _ _ us hl => match us, hl with | [_, _, _], _ => rfl⟩
theorem o__law_same : t__law_same.Ok (inF tb) xs.contains := ⟨by kernel_rfl, by decide +kernel, rfl, rfl, fun _ _ _ _ _ _ us hl => match us, hl with | [_, _], _ => rfl⟩
theorem o__law_thin : t__law_thin.Ok (inF tb) xs.contains := ⟨by kernel_rfl, by decide +kernel, rfl, rfl, fun _ _ _ _ _ _ us hl => match us, hl with | [_, _], _ => rfl⟩
theorem o__law_is_empty : t__law_is_empty.Ok (inF tb) xs.contains := ⟨by kernel_rfl, by decide +kernel, rfl, rfl, fun _ _ _ _ _ _ us hl => match us, hl with | [_, _], _ => rfl⟩
theorem o__law_thread : t__law_thread.Ok (inF tb) xs.contains := ⟨by kernel_rfl, by decide +kernel, rfl, rfl, fun _ _ _ _ _ _ us hl => match us, hl with | [_, _], _ => rfl⟩
theorem o__law_threaded : t__law_threaded.Ok (inF tb) xs.contains := ⟨by kernel_rfl, by decide +kernel, rfl, rfl, fun _ _ _ _ _ _ us hl => match us, hl with | [_], _ => rfl⟩
theorem o__law_seen : t__law_seen.Ok (inF tb) xs.contains := ⟨by kernel_rfl, by decide +kernel, rfl, rfl, fun _ _ _ _ _ _ us hl => match us, hl with | [_, _], _ => rfl⟩
theorem o__law_goes : t__law_goes.Ok (inF tb) xs.contains := ⟨by kernel_rfl, by decide +kernel, rfl, rfl, fun _ _ _ _ _ _ us hl => match us, hl with | [_, _, _], _ => rfl⟩
theorem o__law_goes_through : t__law_goes_through.Ok (inF tb) xs.contains := ⟨by kernel_rfl, by decide +kernel, rfl, rfl, fun _ _ _ _ _ _ us hl => match us, hl with | [_, _, _], _ => rfl⟩
theorem o_law : t_law.Ok (inF tb) xs.contains := ⟨by kernel_rfl, by decide +kernel, rfl, rfl, fun _ _ _ _ _ _ us hl => match us, hl with | [_], _ => rfl⟩
theorem tok : TOk tb gl xs := ⟨(mC o_half_of (mC o_number_or_zero (mC o_item_referred_to (mC o_reckoned_in_core (mC o_core_value (mC o_core_goes_to (mC o_core_reached (mC o_is_core_empty (mC o_way_over_empty (mC o_core_thread (mC o_threaded_jump (mC o_core_threaded (mC o_seen_threaded (mC o_left_threaded (mC o_with_item_at (mC o_core_expression_rows (mC o_places_for_expression (mC o_core_command_rows (mC o_places_for_command (mC o_length_of_jump (mC o_lengths_in_block (mC o_core_block_addresses (mC o_core_jump_rows (mC o_places_for_block (mC o_core_rows (mC o_compiled_core (mC o_place_of_row_in_core (mC o_is_kept_alone (mC o_seen_core (mC o_left_at_place (mC o_left_core (mC o_power_of_two (mC o_bits_of_word (mC o_half_of_wide (mC o_is_reference (mC o_number_of_value (mC o_number_heard (mC o_shown_bits (mC o_cell_of (mC o_reference_to (mC o_cells_among (mC o_items_of_cell (mC o_cells_found (mC o_cells_come_to (mC o_roots_of_stack (mC o_collected_cells (mC o_free_cell (mC o_are_all_come_to (mC o_rows_of_calls (mC o_begin_of_stack (mC o_taken_from_stack (mC o_full_state (mC o_put_on_stack (mC o_value_of_two (mC o_value_of_one (mC o_step_of_two (mC o_step_of_one (mC o_step_of_pair (mC o_value_put (mC o_step_of_back (mC o_step_of_taking (mC o_step_of_going (mC o_step_of_stack (mC o__law_draws (mC o__law_take (mC o__law_half (mC o__law_put (mC o__law_number (mC o__law_core_value (mC o__law_come_to (mC o__law_bits (mC o__law_core_pair (mC o__law_core_step (mC o__law_core_begin (mC o__law_core_expression (mC o__law_core_command (mC o__law_core_program (mC o__law_words (mC o__law_same (mC o__law_thin (mC o__law_is_empty (mC o__law_thread (mC o__law_threaded (mC o__law_seen (mC o__law_goes (mC o__law_goes_through (mC o_law mN))))))))))))))))))))))))))))))))))))))))))))))))))))))))))))))))))))))))))))))))))))))), by kernel_rfl⟩
abbrev Pg : Prog := progOf tb gl sb
end Lk38

namespace Lk38
open Py
theorem hk1 : K38.Hk Pg := ⟨by kernel_rfl, by kernel_rfl, by kernel_rfl, by kernel_rfl, by kernel_rfl, by kernel_rfl, by kernel_rfl, by kernel_rfl, by kernel_rfl, by kernel_rfl, by kernel_rfl, by kernel_rfl, by kernel_rfl, by kernel_rfl, by kernel_rfl, by kernel_rfl, by kernel_rfl, by kernel_rfl, by kernel_rfl, by kernel_rfl, by kernel_rfl, by kernel_rfl, by kernel_rfl, by kernel_rfl, by kernel_rfl, by kernel_rfl, by kernel_rfl, by kernel_rfl, by kernel_rfl, by kernel_rfl, by kernel_rfl, by kernel_rfl, by kernel_rfl, by kernel_rfl, by kernel_rfl, by kernel_rfl, by kernel_rfl, by kernel_rfl, by kernel_rfl, by kernel_rfl, by kernel_rfl, by kernel_rfl, by kernel_rfl, by kernel_rfl, by kernel_rfl, by kernel_rfl, by kernel_rfl, by kernel_rfl, by kernel_rfl, by kernel_rfl, by kernel_rfl, by kernel_rfl, by kernel_rfl, by kernel_rfl, by kernel_rfl, by kernel_rfl, by kernel_rfl, by kernel_rfl, by kernel_rfl, by kernel_rfl, by kernel_rfl, by kernel_rfl, by kernel_rfl, by kernel_rfl, by kernel_rfl, by kernel_rfl, by kernel_rfl, by kernel_rfl, by kernel_rfl, by kernel_rfl, by kernel_rfl, by kernel_rfl, by kernel_rfl, by kernel_rfl, by kernel_rfl, by kernel_rfl, by kernel_rfl, by kernel_rfl, by kernel_rfl, by kernel_rfl, by kernel_rfl, by kernel_rfl, by kernel_rfl, by kernel_rfl, by kernel_rfl, by kernel_rfl, by kernel_rfl, by kernel_rfl⟩
theorem fact (ns : List Int) (h : ns.length ≤ 63) : wC Pg 15 (HandSHeadRun.topDef (PySem.W.OpenLaw.row PySem.Challenge.rw_texttoticks_k38_whole_threads_of_core_pr).prog 98).name [.fl (ns.map D.int)] (fun _ => none) (fun v _ => v = .bl true) noX := by
  have e : (HandSHeadRun.topDef (PySem.W.OpenLaw.row PySem.Challenge.rw_texttoticks_k38_whole_threads_of_core_pr).prog 98).name = ("law" : PySem.Str) := by kernel_rfl
  rw [e]
  exact K38.law38 hk1 ns h
end Lk38
namespace Lk38
open L2 Py PySem
def lo0 : List Str := ["half_of", "number_or_zero", "item_referred_to", "reckoned_in_core", "core_value", "core_goes_to", "core_reached", "is_core_empty", "way_over_empty", "core_thread", "threaded_jump", "core_threaded", "seen_threaded", "left_threaded", "with_item_at", "core_expression_rows", "places_for_expression", "core_command_rows", "places_for_command", "length_of_jump", "lengths_in_block", "core_block_addresses", "core_jump_rows", "places_for_block", "core_rows", "compiled_core", "place_of_row_in_core", "is_kept_alone", "seen_core", "left_at_place"]
def lo1 : List Str := ["left_core", "power_of_two", "bits_of_word", "half_of_wide", "is_reference", "number_of_value", "number_heard", "shown_bits", "cell_of", "reference_to", "cells_among", "items_of_cell", "cells_found", "cells_come_to", "roots_of_stack", "collected_cells", "free_cell", "are_all_come_to", "rows_of_calls", "begin_of_stack", "taken_from_stack", "full_state", "put_on_stack", "value_of_two", "value_of_one", "step_of_two", "step_of_one", "step_of_pair", "value_put", "step_of_back"]
def lo2 : List Str := ["step_of_taking", "step_of_going", "step_of_stack", "_law_draws", "_law_take", "_law_half", "_law_put", "_law_number", "_law_core_value", "_law_come_to", "_law_bits", "_law_core_pair", "_law_core_step", "_law_core_begin", "_law_core_expression", "_law_core_command", "_law_core_program", "_law_words", "_law_same", "_law_thin", "_law_is_empty", "_law_thread", "_law_threaded", "_law_seen", "_law_goes", "_law_goes_through", "OF_TWO", "OF_ONE", "PUTTING"]
def loo : List Str := lo0 ++ lo1 ++ lo2
abbrev rr : PySem.W.OpenRow := PySem.W.OpenLaw.row PySem.Challenge.rw_texttoticks_k38_whole_threads_of_core_pr
abbrev hk : PySem.W.Hook := hookP 2 (faOf tb sb xs) (tb.map FnT.d) gl
def ob (s : PySem.W.SharedT) : AlP := obsP 2 (faOf tb sb xs) (tb.map FnT.d) gl (HandSHeadRun.getT s)
theorem obe (s : PySem.W.SharedT) : ob s = hk.obs s.abs := obsP_eq (HandSHeadRun.getT_eq s)
open PySem.W PySem.Calls
theorem at_of {α β : Type} {x : Option α} {s : α} {f : α → β} {b : β} (e : x = some s) (h : x.map f = some b) : f s = b := by
  subst e
  exact Option.some.inj h
theorem run_of {α β γ δ : Type} {x : Option α} {A : α → β} {B : α → γ} {C : α → δ} {a : β} {b : γ} {c : δ} (hA : x.map A = some a) (hB : x.map B = some b) (hC : ∀ s, x = some s → C s = c) : x.map (fun s => (A s, B s, C s)) = some (a, b, c) := by
  cases x with
  | none => cases hA
  | some s => rw [Option.map_some, at_of rfl hA, at_of rfl hB, hC s rfl]
theorem rnA (w : World) (os : OsState) : (HandSHeadRun.endF (HandSHeadRun.stepQ (HandSHeadRun.denQ HandSHeadRun.tabQ) rr.prog w) 4000 rr.prog w os).map (fun s => HandSHeadRun.looksF rr.prog (boot_heap w.params) s.abs) = some true := by
  kernel_rfl
theorem rnB (w : World) (os : OsState) : (HandSHeadRun.endF (HandSHeadRun.stepQ (HandSHeadRun.denQ HandSHeadRun.tabQ) rr.prog w) 4000 rr.prog w os).map (fun s => HandSHeadRun.seenQ (PySem.W.view rr.prog [98]) loo (importedModules rr.prog.main.body) (fun s => PySem.W.xlAt (PySem.W.view rr.prog [98]) [] s && PySem.W.recOk rr.toRowW.records s) s.abs) = some (PySem.W.openGood (PySem.W.view rr.prog [98]) loo) := by
  kernel_rfl
theorem rnO (w : World) (os : OsState) : (HandSHeadRun.endF (HandSHeadRun.stepQ (HandSHeadRun.denQ HandSHeadRun.tabQ) rr.prog w) 4000 rr.prog w os).map (fun s => obsP 2 (faOf tb sb xs) (tb.map FnT.d) gl (HandSHeadRun.getT s)) = some (He.valD (tb.map FnT.d), true) := by
  kernel_rfl
theorem run_fin {r : PySem.W.OpenRow} {q : Program} {H : PySem.W.Hook} {ob : PySem.W.SharedT → H.α} {M : Nat} {loose : List Str} {w : World} (hA : ∀ os : OsState, (HandSHeadRun.endF (HandSHeadRun.stepQ (HandSHeadRun.denQ HandSHeadRun.tabQ) r.prog w) M r.prog w os).map (fun s => HandSHeadRun.looksF r.prog (boot_heap w.params) s.abs) = some true) (hB : ∀ os : OsState, (HandSHeadRun.endF (HandSHeadRun.stepQ (HandSHeadRun.denQ HandSHeadRun.tabQ) r.prog w) M r.prog w os).map (fun s => HandSHeadRun.seenQ q loose (importedModules r.prog.main.body) (fun s => PySem.W.xlAt q [] s && PySem.W.recOk r.toRowW.records s) s.abs) = some (PySem.W.openGood q loose)) (hC : ∀ (os : OsState) (s : PySem.W.SharedT), (HandSHeadRun.endF (HandSHeadRun.stepQ (HandSHeadRun.denQ HandSHeadRun.tabQ) r.prog w) M r.prog w os) = some s → ob s = H.val w) : HandSHeadRun.RunEq r q H ob M loose w := fun os => run_of (hA os) (hB os) (hC os)
theorem rnC (w : World) (os : OsState) (s : PySem.W.SharedT) (e : (HandSHeadRun.endF (HandSHeadRun.stepQ (HandSHeadRun.denQ HandSHeadRun.tabQ) rr.prog w) 4000 rr.prog w os) = some s) : obsP 2 (faOf tb sb xs) (tb.map FnT.d) gl (HandSHeadRun.getT s) = (He.valD (tb.map FnT.d), true) := by
  have h := at_of e (rnO w os)
  exact h
theorem rn (w : World) : HandSHeadRun.RunEq rr (PySem.W.view rr.prog [98]) hk ob 4000 loo w := run_fin (rnA w) (rnB w) (rnC w)
end Lk38
open PySem PySem.W PySem.Calls in
theorem PySem.Challenge.cw_texttoticks_k38_whole_threads_of_core_pr_holds : PySem.Challenge.rw_texttoticks_k38_whole_threads_of_core_pr.Holds := by
  w_on; o_law
  refine HandSHeadRun.head_any (r := Lk38.rr) (q := view Lk38.rr.prog [98]) (H := Lk38.hk) (ob := Lk38.ob) (M := 4000) (loose := Lk38.loo) (d := HandSHeadRun.topDef Lk38.rr.prog 98) (kwd := []) Lk38.obe
    (by kernel_rfl) (fun s => by kernel_rfl) Lk38.rn (by kernel_rfl) (by kernel_rfl) (by kernel_rfl) rfl (by first | assumption | decide +kernel) (by decide +kernel) ⟨rfl, rfl, rfl, rfl, rfl, by decide +kernel⟩ ?hw ?hc
  case hw => w_witness2
  case hc => exact Py.law_end (k := 15) (x := "script") (t := Lk38.t_law) rfl (by kernel_rfl) ⟨rfl, by decide, by decide⟩ Lk38.tok (by kernel_rfl) (by kernel_rfl) rfl Lk38.fact

