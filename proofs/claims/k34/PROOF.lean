import PyProof.Rows.All
import Wide.All
import OpenK.AllK
import Wide.FinOn
import HandS.ForMost
import HandS.TupAny
import HandS.IsInst
import HandS.SortInts
import HandS.Walk
import HandS.More
import HandS.TupLe
import HandS.Codes
import HandS.Comp
import HandS.Rev
import HandS.RevRange
import KE.GoesEnum
import KE.DataEq
import PyProof.StrOps2
import PyProof.ReprReads
import HandS.Wide
import PyProof.Rows.IntBool
import HandS.Dict
import PyProof.Rows.StrMul
import KE.DataMinMax
import PyProof.SumAny
import PyProof.TupleOfStr
import PyProof.ListStr
import KE.SortData
import PyProof.ReprRoads
import PyProof.FitsInt
import HandS.Text
import PyProof.ReprLen
import PyProof.CallFns
import HandS.TupSets
import HandS.Conv
import HandS.Style
import HandS.TupMul
import HandS.Sort
import HandS.Flow
import HandS.Iter
import HandS.Small
import HandS.SetKeys
import HandS.SetFor
import HandS.Deep
import HandS.Strs
import HandS.ReplaceList
import PyProof.Rows.RegReprOcc
import PySem.Challenge.RW_glitchnet_k34_what_products_hold
set_option Elab.async false
section
set_option linter.all false
namespace GN
/-! The little language ML: programs as data, run over values (D) with owned lists. -/

inductive Kx where | i (n : Int) | s (l : List Nat)
  deriving DecidableEq
inductive Ky where | x (k : Kx) | t (l : List Kx)
  deriving DecidableEq

/-- own: the list is this frame's alone (it may be changed); shr: frozen; ext: handed in, only read -/
inductive Ow where | own | shr | ext
  deriving DecidableEq, Inhabited
def Ow.frz : Ow → Ow
  | .ext => .ext
  | _ => .shr
def Ow.isOwn : Ow → Bool
  | .own => true
  | _ => false
/-- values -/
inductive D where
  | non | bl (b : Bool) | int (i : Int) | str (s : List Nat)
  | tup (xs : List D) | lst (o : Ow) (xs : List D) | dct (o : Ow) (ks : List Ky) (vs : List D)
  deriving Inhabited

mutual
def D.plain : D → Bool
  | .tup xs => D.plainL xs
  | .lst o xs => !o.isOwn && D.plainL xs
  | .dct o _ vs => !o.isOwn && D.plainL vs
  | .non => true | .bl _ => true | .int _ => true | .str _ => true
def D.plainL : List D → Bool
  | [] => true
  | x :: r => x.plain && D.plainL r
end
mutual
def D.frz : D → D
  | .tup xs => .tup (D.frzL xs)
  | .lst o xs => .lst o.frz (D.frzL xs)
  | .dct o ks vs => .dct o.frz ks (D.frzL vs)
  | .non => .non | .bl b => .bl b | .int i => .int i | .str s => .str s
def D.frzL : List D → List D
  | [] => []
  | x :: r => x.frz :: D.frzL r
end
mutual
def D.deep : D → Nat
  | .tup xs => D.deepL xs + 1
  | .lst _ xs => D.deepL xs + 1
  | .dct _ _ _ => 1000
  | .non => 1 | .bl _ => 1 | .int _ => 1 | .str _ => 1
def D.deepL : List D → Nat
  | [] => 0
  | x :: r => max x.deep (D.deepL r)
end
mutual
/-- how deep it is, dicts too -/
def D.dph : D → Nat
  | .tup xs => D.dphL xs + 1
  | .lst _ xs => D.dphL xs + 1
  | .dct _ _ xs => D.dphL xs + 1
  | .non => 1 | .bl _ => 1 | .int _ => 1 | .str _ => 1
def D.dphL : List D → Nat
  | [] => 0
  | x :: r => max x.dph (D.dphL r)
end
mutual
/-- == -/
def D.eqv : D → D → Bool
  | .non, e => match e with | .non => true | _ => false
  | .bl a, e => match e with | .bl b => a == b | .int j => (if a then 1 else 0) == j | _ => false
  | .int i, e => match e with | .int j => i == j | .bl b => i == (if b then 1 else 0) | _ => false
  | .str a, e => match e with | .str b => a == b | _ => false
  | .tup xs, e => match e with | .tup ys => D.eqvL xs ys | _ => false
  | .lst _ xs, e => match e with | .lst _ ys => D.eqvL xs ys | _ => false
  | .dct _ _ _, _ => false
def D.eqvL : List D → List D → Bool
  | [], ys => match ys with | [] => true | _ => false
  | x :: xs, ys => match ys with | y :: r => D.eqv x y && D.eqvL xs r | [] => false
end

def strLt : List Nat → List Nat → Bool
  | _, [] => false
  | [], _ :: _ => true
  | a :: r, b :: s => if a = b then strLt r s else decide (a < b)
mutual
/-- < of two of the same shape -/
def D.ltD : D → D → Bool
  | .bl a, e => match e with | .bl b => !a && b | _ => false
  | .int a, e => match e with | .int b => decide (a < b) | _ => false
  | .str a, e => match e with | .str b => strLt a b | _ => false
  | .tup xs, e => match e with | .tup ys => D.ltL xs ys | _ => false
  | _, _ => false
def D.ltL : List D → List D → Bool
  | [], ys => match ys with | [] => false | _ :: _ => true
  | x :: xs, ys => match ys with | [] => false | y :: r => if D.eqv x y = true then D.ltL xs r else D.ltD x y
end
mutual
/-- of the same shape, and such as can be compared -/
def D.shp : D → D → Bool
  | .bl _, e => match e with | .bl _ => true | _ => false
  | .int _, e => match e with | .int _ => true | _ => false
  | .str _, e => match e with | .str _ => true | _ => false
  | .tup xs, e => match e with | .tup ys => D.shpL xs ys | _ => false
  | _, _ => false
def D.shpL : List D → List D → Bool
  | [], ys => match ys with | [] => true | _ :: _ => false
  | x :: xs, ys => match ys with | [] => false | y :: r => D.shp x y && D.shpL xs r
end
def Kx.wt : Kx → Nat
  | .i n => n.natAbs.log2 + 3
  | .s l => 10 * l.length + 2
def Ky.wt : Ky → Nat
  | .x k => k.wt
  | .t _ => 0
def kwt : List Ky → Nat
  | [] => 0
  | k :: r => k.wt + 4 + kwt r
def Kx.shw : Kx → Bool
  | .i n => decide (n.natAbs.log2 < 1920)
  | .s l => l.all fun c => decide (c < 1114112)
def Ky.shw : Ky → Bool
  | .x k => k.shw
  | .t _ => false
mutual
/-- signs of a text that tells it, at most -/
def D.wt : D → Nat
  | .non => 4 | .bl _ => 5 | .int i => i.natAbs.log2 + 3 | .str s => 10 * s.length + 2
  | .tup xs => D.wtL xs + 3
  | .lst _ xs => D.wtL xs + 3
  | .dct _ ks xs => kwt ks + D.wtL xs + 3
def D.wtL : List D → Nat
  | [] => 0
  | x :: r => x.wt + 2 + D.wtL r
end
mutual
def D.shw : D → Bool
  | .non => true | .bl _ => true | .int i => decide (i.natAbs.log2 < 1920) | .str s => s.all fun c => decide (c < 1114112)
  | .tup xs => D.shwL xs
  | .lst _ xs => D.shwL xs
  | .dct _ ks xs => (ks.all Ky.shw) && D.shwL xs
def D.shwL : List D → Bool
  | [] => true
  | x :: r => x.shw && D.shwL r
end
def toS (l : List Nat) : PySem.Str := ⟨l.toArray⟩
def erK : Ky → PySem.PyData
  | .x (.i n) => .int n
  | .x (.s l) => .str (toS l)
  | .t _ => .none
def erKs (ks : List Ky) (xs : List PySem.PyData) : List (PySem.PyData × PySem.PyData) := (ks.map erK).zip xs
mutual
def er : D → PySem.PyData
  | .non => .none | .bl b => .bool b | .int i => .int i | .str s => .str (toS s)
  | .tup xs => .tuple (erL xs) | .lst _ xs => .list (erL xs) | .dct _ ks xs => .dict (erKs ks (erL xs))
def erL : List D → List PySem.PyData
  | [] => []
  | x :: r => er x :: erL r
end
/-- the text that repr tells -/
def reprD (d : D) : List Nat := (er d).shown.cps.toList

def line : Nat := 16777216
def small (i : Int) : Bool := decide (-18446744073709551616 < i) && decide (i < 18446744073709551616)
/-- the place that an index tells in a sequence of n -/
def ixAt (n : Nat) (i : Int) : Option Nat :=
  if 0 ≤ i then (if i < n then some i.toNat else none) else if 0 ≤ i + n then some (i + n).toNat else none
def at_ {α : Type} (xs : List α) (i : Int) : Option α := (ixAt xs.length i).bind fun j => xs[j]?
/-- a slice's end, brought into 0 .. n -/
def sEnd (n d : Nat) : Option Int → Nat
  | none => d
  | some i => if i < 0 then (i + n).toNat else min i.toNat n
def cut {α : Type} (xs : List α) (lo hi : Option Int) : List α := (xs.drop (sEnd xs.length 0 lo)).take (sEnd xs.length xs.length hi - sEnd xs.length 0 lo)

inductive Cop where | eq | ne | lt | le | gt | ge | isin | notin
  deriving DecidableEq
inductive Ty where | int | bool | str | tuple | list | dict
  deriving DecidableEq
inductive Prim where
  | add | sub | mul | fdiv | mod | pow | neg
  | cmp (c : Cop) | isN | isNotN | isB | isNotB
  | idx | slc (lo hi : Bool) | rev
  | len | tuple | list | str | int | sum | sorted | max | min | max2 | min2 | abs | all | any | repr | joinC (sep : List Nat) | sortSet | lstRg | lrev
  | isi (ts : List Ty)
  | stp | band | bor | shl | shr | inv
  | inRg | ninRg
  deriving DecidableEq

def tyIs : Ty → D → Bool
  | .int, .int _ => true | .int, .bl _ => true
  | .bool, .bl _ => true
  | .str, .str _ => true
  | .tuple, .tup _ => true
  | .list, .lst _ _ => true
  | .dict, .dct _ _ _ => true
  | _, _ => false

def intsD : List D → Option (List Int)
  | [] => some []
  | .int i :: r => (intsD r).map (i :: ·)
  | _ :: _ => none
def strsD : List D → Option (List (List Nat))
  | [] => some []
  | .str i :: r => (strsD r).map (i :: ·)
  | _ :: _ => none
def boolsD : List D → Option (List Bool)
  | [] => some []
  | .bl i :: r => (boolsD r).map (i :: ·)
  | _ :: _ => none

/-- digits of a whole number -/
def decI (i : Int) : List Nat := (toString i).toList.map Char.toNat

/-- insertion sort: what sorted says of whole numbers and texts -/
def insBy {α : Type} (lt : α → α → Bool) (x : α) : List α → List α
  | [] => [x]
  | y :: r => if lt y x then y :: insBy lt x r else x :: y :: r
def sortBy {α : Type} (lt : α → α → Bool) : List α → List α
  | [] => []
  | x :: r => insBy lt x (sortBy lt r)
def joinS (sep : List Nat) : List (List Nat) → List Nat
  | [] => []
  | [x] => x
  | x :: y :: r => x ++ sep ++ joinS sep (y :: r)

/-- the place of a key -/
def kAt (ks : List Ky) (k : Kx) : Option Nat := ks.findIdx? fun y => decide (y = .x k)
def kxOf : D → Option Kx
  | .int i => some (.i i)
  | .str s => some (.s s)
  | _ => none
def evIn (a b : D) : Option Bool := match b with
  | .lst o xs => if a.deep ≤ 60 ∧ D.deepL xs ≤ 59 then some (xs.any fun x => x.eqv a) else none
  | .tup xs => if a.deep ≤ 60 ∧ D.deepL xs ≤ 59 then some (xs.any fun x => x.eqv a) else none
  | .str s => match a with
    | .str [c] => some (s.contains c)
    | _ => none
  | .dct .own ks _ => (kxOf a).map fun k => (kAt ks k).isSome
  | .dct .shr ks _ => (kxOf a).map fun k => (kAt ks k).isSome
  | _ => none
/-- beside the empty one of its own kind: no item is looked at -/
def eE : D → D → Bool
  | .tup _, .tup [] => true
  | .lst _ _, .lst _ [] => true
  | _, _ => false
def evCmp : Cop → D → D → Option D
  | .eq, a, b => if (a.deep ≤ 60 ∧ b.deep ≤ 60) ∨ eE a b = true then some (.bl (a.eqv b)) else none
  | .ne, a, b => if (a.deep ≤ 60 ∧ b.deep ≤ 60) ∨ eE a b = true then some (.bl (!a.eqv b)) else none
  | .lt, .int a, .int b => some (.bl (decide (a < b)))
  | .lt, .str a, .str b => some (.bl (strLt a b))
  | .le, .int a, .int b => some (.bl (decide (a ≤ b)))
  | .gt, .int a, .int b => some (.bl (decide (b < a)))
  | .gt, .bl a, .int b => some (.bl (decide (b < if a = true then 1 else 0)))
  | .ge, .int a, .int b => some (.bl (decide (b ≤ a)))
  | .isin, a, b => (evIn a b).map fun c => .bl c
  | .notin, a, b => (evIn a b).map fun c => .bl (!c)
  | _, _, _ => none

def optInt : List D → List Bool → Option (List (Option Int))
  | [], [] => some []
  | ds, false :: r => (optInt ds r).map (none :: ·)
  | .int i :: ds, true :: r => (optInt ds r).map (some i :: ·)
  | _, _ => none

def evSlc (x : D) (lo hi : Option Int) : Option D :=
  match x with
  | .lst o xs => if D.plainL xs = true then some (.lst .own (cut xs lo hi)) else none
  | .tup xs => if D.plainL xs = true then some (.tup (cut xs lo hi)) else none
  | .str s => if s.length ≤ line then some (.str (cut s lo hi)) else none
  | _ => none

def evAdd : D → D → Option D
  | .int a, .int b => some (.int (a + b))
  | .int a, .bl b => some (.int (a + if b = true then 1 else 0))
  | .bl a, .int b => some (.int ((if a = true then 1 else 0) + b))
  | .str a, .str b => if a.length + b.length ≤ line then some (.str (a ++ b)) else none
  | .tup a, .tup b => if a.length + b.length ≤ line ∧ D.plainL a = true ∧ D.plainL b = true then some (.tup (a ++ b)) else none
  | .lst o a, .lst p b => if o ≠ .ext ∧ p ≠ .ext ∧ a.length + b.length ≤ line ∧ D.plainL a = true ∧ D.plainL b = true then some (.lst .own (a ++ b)) else none
  | _, _ => none
def evSub : D → D → Option D
  | .int a, .int b => some (.int (a - b))
  | .int a, .bl b => some (.int (a - if b = true then 1 else 0))
  | .bl a, .int b => some (.int ((if a = true then 1 else 0) - b))
  | _, _ => none
def evMul : D → D → Option D
  | .int a, .int b => if (small a || small b) = true ∨ a.natAbs.log2 + b.natAbs.log2 < 1000000 then some (.int (a * b)) else none
  | .str a, .int k => if -(2 ^ 63) ≤ k ∧ k < 2 ^ 63 ∧ a.length * k.toNat ≤ line then some (.str (List.replicate k.toNat a).flatten) else none
  | .lst o a, .int k => if o ≠ .ext ∧ D.plainL a = true ∧ -(2 ^ 63) ≤ k ∧ k < 2 ^ 63 ∧ a.length * k.toNat ≤ line then some (.lst .own (List.replicate k.toNat a).flatten) else none
  | .tup a, .int k => if a ≠ [] ∧ D.plainL a = true ∧ 1 ≤ k ∧ k ≤ 1000 ∧ a.length ≤ 1000 then some (.tup (List.replicate k.toNat a).flatten) else none
  | _, _ => none
def evFdiv : D → D → Option D
  | .int a, .int b => if 0 < b ∧ (b < 1073741824 ∨ b.natAbs.log2 < 9000) then some (.int (a / b)) else none
  | _, _ => none
def evMod : D → D → Option D
  | .int a, .int b => if 0 < b then some (.int (a % b)) else none
  | _, _ => none
def evPow : D → D → Option D
  | .int a, .int b => if 0 ≤ b ∧ b ≤ 1000000 ∧ a.natAbs < 18446744073709551616 then some (.int (a ^ b.toNat)) else none
  | _, _ => none
def evNeg : D → Option D
  | .int a => some (.int (-a))
  | _ => none
def isNon : D → Bool
  | .non => true
  | _ => false
def evIsB (n : Bool) : D → D → Option D
  | .bl a, .bl b => some (.bl (if n then a != b else a == b))
  | _, _ => none
/-- an item, whatever it is -/
def evItem : D → D → Option D
  | .dct .own ks vs, e => (kxOf e).bind fun k => (kAt ks k).bind fun j => vs[j]?
  | .dct .shr ks vs, e => (kxOf e).bind fun k => (kAt ks k).bind fun j => vs[j]?
  | .lst o xs, .int i => at_ xs i
  | .tup xs, .int i => at_ xs i
  | .str s, .int i => if s.length ≤ line then (at_ s i).map fun c => .str [c] else none
  | _, _ => none
def evIdx (a b : D) : Option D := (evItem a b).bind fun d => if d.plain = true then some d else none
/-- xs[a::s] of a list -/
def evStp : D → D → D → Option D
  | .lst o xs, .int a, .int s => if D.plainL xs = true ∧ 0 ≤ a ∧ 1 ≤ s then some (.lst .own ((PySem.sliceRange (min a xs.length) xs.length s).filterMap (xs[·]?))) else none
  | _, _, _ => none
def evBand : D → D → Option D
  | .int a, .int b => some (.int (PySem.Builtin.bitAnd a b))
  | _, _ => none
def evBor : D → D → Option D
  | .int a, .int b => some (.int (PySem.Builtin.bitOr a b))
  | _, _ => none
def evShl : D → D → Option D
  | .int a, .int b => if 0 ≤ b ∧ b ≤ 100000 ∧ a.natAbs < 18446744073709551616 then some (.int (a * 2 ^ b.toNat)) else none
  | _, _ => none
def evShr : D → D → Option D
  | .int a, .int b => if 0 ≤ b then some (.int (a / 2 ^ b.toNat)) else none
  | _, _ => none
def evInv : D → Option D
  | .int a => some (.int (PySem.Builtin.bitNot a))
  | _ => none
def evRev : D → Option D
  | .lst o xs => if D.plainL xs = true then some (.lst .own xs.reverse) else none
  | .tup xs => if D.plainL xs = true then some (.tup xs.reverse) else none
  | .str s => if s.length ≤ line then some (.str s.reverse) else none
  | _ => none
/-- list(reversed(..)) of a list -/
def evLrev : D → Option D
  | .lst o xs => if D.plainL xs = true then some (.lst .own xs.reverse) else none
  | _ => none
def evLen : D → Option D
  | .lst o xs => some (.int xs.length)
  | .tup xs => some (.int xs.length)
  | .str xs => if xs.length ≤ line then some (.int xs.length) else none
  | .dct o ks vs => some (.int vs.length)
  | _ => none
def evTuple : D → Option D
  | .lst o xs => if D.plainL xs = true then some (.tup xs) else none
  | .tup xs => if D.plainL xs = true then some (.tup xs) else none
  | .str s => if s.length ≤ line then some (.tup (s.map fun c => .str [c])) else none
  | _ => none
def evList : D → Option D
  | .lst o xs => if D.plainL xs = true then some (.lst .own xs) else none
  | .tup xs => if D.plainL xs = true then some (.lst .own xs) else none
  | .str s => if s.length ≤ line then some (.lst .own (s.map fun c => .str [c])) else none
  | _ => none
/-- tuple(x or ()) -/
def torD : D → Option D
  | .non => some (.tup [])
  | .lst _ xs => if D.plainL xs = true then some (.tup xs) else none
  | .dct o [] [] => if o = .ext then none else some (.tup [])
  | _ => none
def evStr : D → Option D
  | .int i => if i.natAbs.log2 < 1920 then some (.str (decI i)) else none
  | .bl b => some (.str (if b = true then [84, 114, 117, 101] else [70, 97, 108, 115, 101]))
  | _ => none
def evInt : D → Option D
  | .int i => some (.int i)
  | .bl b => some (.int (if b then 1 else 0))
  | .str [c] => if 48 ≤ c ∧ c ≤ 57 then some (.int (c - 48 : Nat)) else none
  | _ => none
def evSum : D → Option D
  | .lst o xs => (intsD xs).map fun l => .int l.sum
  | .tup xs => (intsD xs).map fun l => .int l.sum
  | _ => none
def evAll : D → Option D
  | .lst o xs => (boolsD xs).map fun l => .bl (l.all id)
  | _ => none
def evAny : D → Option D
  | .lst o xs => (boolsD xs).map fun l => .bl (l.any id)
  | _ => none
def maxL : List Int → Option Int
  | [] => none
  | x :: r => some (r.foldl (fun a b => if b > a then b else a) x)
def minL : List Int → Option Int
  | [] => none
  | x :: r => some (r.foldl (fun a b => if b < a then b else a) x)
def evMax : D → Option D
  | .lst o xs => (intsD xs).bind fun l => (maxL l).map D.int
  | _ => none
def evMin : D → Option D
  | .lst o xs => (intsD xs).bind fun l => (minL l).map D.int
  | _ => none
def evMax2 : D → D → Option D
  | .int a, .int b => some (.int (if b > a then b else a))
  | _, _ => none
def evMin2 : D → D → Option D
  | .int a, .int b => some (.int (if b < a then b else a))
  | _, _ => none
def evAbs : D → Option D
  | .int a => some (.int (if a < 0 then -a else a))
  | _ => none
/-- can be compared -/
def headS : D → Bool
  | .bl _ => true | .int _ => true | .str _ => true
  | .tup xs => !xs.isEmpty
  | _ => false
def kxD : Kx → D
  | .i n => .int n
  | .s l => .str l
/-- a dict's keys -/
def keysD : List Ky → Option (List D)
  | [] => some []
  | .x k :: r => (keysD r).map (kxD k :: ·)
  | .t _ :: _ => none
def sortL : List D → Option D
  | [] => some (.lst .own [])
  | x :: r => if (headS x = true ∧ x.deep ≤ 60 ∧ (x :: r).length ≤ line) ∧ ((x :: r).all fun y => D.shp x y) = true then some (.lst .own (sortBy D.ltD (x :: r))) else none
def evSorted : D → Option D
  | .dct o ks vs => if o = .ext then none else (keysD ks).bind sortL
  | .lst o [] => some (.lst .own [])
  | .lst o (x :: r) => if (headS x = true ∧ x.deep ≤ 60 ∧ (x :: r).length ≤ line) ∧ ((x :: r).all fun y => D.shp x y) = true then some (.lst .own (sortBy D.ltD (x :: r))) else none
  | _ => none
def evRepr (d : D) : Option D := if d.dph ≤ 60 ∧ d.wt ≤ line ∧ d.shw = true then some (.str (reprD d)) else none
/-- tuples of whole numbers -/
def tupsI : List D → Option (List (List Int))
  | [] => some []
  | .tup xs :: r => (intsD xs).bind fun k => (tupsI r).map (k :: ·)
  | _ :: _ => none
def codeI : List Int → Int
  | [] => 0
  | x :: r => x * 64 ^ r.length + codeI r
def dedupI : List (List Int) → List (List Int)
  | [] => []
  | x :: r => if r.contains x then dedupI r else x :: dedupI r
def rowI (k : List Int) : D := .tup (k.map D.int)
/-- sorted(set(..)) of tuples of as many small whole numbers -/
def evSortSet : D → Option D
  | .lst o xs => (tupsI xs).bind fun l => if l.length < 64 ∧ (l.all fun k => k.length == (l.headD [0]).length && !k.isEmpty && k.all fun e => decide (0 ≤ e) && decide (e < 64)) = true then
      some (.lst .own ((sortBy (fun a b => decide (codeI a < codeI b)) (dedupI l)).map rowI)) else none
  | _ => none
def rangeL (lo : Int) : Nat → List Int
  | 0 => []
  | n + 1 => lo :: rangeL (lo + 1) n
/-- list(range(..)) -/
def evLstRg : D → Option D
  | .int n => if n ≤ 16777216 ∧ -16777216 ≤ n then some (.lst .own ((rangeL 0 n.toNat).map D.int)) else none
  | _ => none
def evJoin : D → D → Option D
  | .str s, .lst o xs => (strsD xs).bind fun l => if (l.map List.length).sum + l.length * s.length ≤ line then some (.str (joinS s l)) else none
  | _, _ => none

/-- x in range(n) -/
def evInRg (neg : Bool) : D → D → Option D
  | .int x, .int n => some (.bl (neg != (decide (0 ≤ x) && decide (x < n))))
  | _, _ => none

def evPrim : Prim → List D → Option D
  | .add, [a, b] => evAdd a b
  | .sub, [a, b] => evSub a b
  | .mul, [a, b] => evMul a b
  | .fdiv, [a, b] => evFdiv a b
  | .mod, [a, b] => evMod a b
  | .pow, [a, b] => evPow a b
  | .neg, [a] => evNeg a
  | .cmp c, [a, b] => evCmp c a b
  | .isN, [a] => some (.bl (isNon a))
  | .isNotN, [a] => some (.bl (!isNon a))
  | .isB, [a, b] => evIsB false a b
  | .isNotB, [a, b] => evIsB true a b
  | .idx, [a, b] => evIdx a b
  | .slc lo hi, x :: r => match optInt r [lo, hi] with
    | some [a, b] => evSlc x a b
    | _ => none
  | .rev, [a] => evRev a
  | .lrev, [a] => evLrev a
  | .len, [a] => evLen a
  | .tuple, [a] => evTuple a
  | .list, [a] => evList a
  | .str, [a] => evStr a
  | .int, [a] => evInt a
  | .sum, [a] => evSum a
  | .all, [a] => evAll a
  | .any, [a] => evAny a
  | .max, [a] => evMax a
  | .min, [a] => evMin a
  | .max2, [a, b] => evMax2 a b
  | .min2, [a, b] => evMin2 a b
  | .abs, [a] => evAbs a
  | .sorted, [a] => evSorted a
  | .joinC s, [b] => evJoin (.str s) b
  | .repr, [a] => evRepr a
  | .sortSet, [a] => evSortSet a
  | .lstRg, [a] => evLstRg a
  | .isi ts, [a] => some (.bl (ts.any fun t => tyIs t a))
  | .stp, [a, b, c] => evStp a b c
  | .band, [a, b] => evBand a b
  | .bor, [a, b] => evBor a b
  | .shl, [a, b] => evShl a b
  | .shr, [a, b] => evShr a b
  | .inv, [a] => evInv a
  | .inRg, [a, b] => evInRg false a b
  | .ninRg, [a, b] => evInRg true a b
  | _, _ => none

/-- methods that change nothing -/
inductive Mt where | lcount | scount | lindex | tindex | dget | ssplit | sends | dget1
  deriving DecidableEq
/-- the first place of what is equal -/
def ixD (a : D) : List D → Option Nat
  | [] => none
  | x :: r => if x.eqv a = true then some 0 else (ixD a r).map (· + 1)
def ixS (a : List Nat) : List (List Nat) → Option Nat
  | [] => none
  | x :: r => if x = a then some 0 else (ixS a r).map (· + 1)
def plO (d : D) : Option D := if d.plain = true then some d else none
def consH (c : Nat) : List (List Nat) → List (List Nat)
  | w :: ws => (c :: w) :: ws
  | [] => [[c]]
/-- split at a text: leftmost first; the number says how many signs are skipped -/
def splitY (y : List Nat) : Nat → List Nat → List (List Nat)
  | _, [] => [[]]
  | 0, c :: r => if (c :: r).take y.length = y then [] :: splitY y (y.length - 1) r else consH c (splitY y 0 r)
  | s + 1, _ :: r => splitY y s r
def endsW (s t : List Nat) : Bool := decide (t.length ≤ s.length) && decide (s.drop (s.length - t.length) = t)
def evMt : Mt → D → List D → Option D
  | .lcount, .lst o xs, [.int k] => (intsD xs).map fun l => .int (l.count k : Nat)
  | .scount, .str s, [.str [c]] => some (.int (s.count c : Nat))
  | .lindex, .lst o xs, [a] => if a.deep ≤ 60 ∧ D.deepL xs ≤ 59 then (ixD a xs).map fun n => .int (n : Nat) else none
  | .tindex, .tup xs, [.str a] => (strsD xs).bind fun l => (ixS a l).map fun n => .int (n : Nat)
  | .dget, .dct o ks vs, [k, x] => if o = .ext then none else (kxOf k).bind fun kx => match kAt ks kx with
    | some n => (vs[n]?).bind plO
    | none => plO x
  | .ssplit, .str s, [.str y] => if (y ≠ [] ∧ (y.all fun c => decide (c < 256)) = true) ∧ s.length + 2 ≤ line then some (.lst .own ((splitY y 0 s).map D.str)) else none
  | .sends, .str s, [.str t] => some (.bl (endsW s t))
  | .dget1, .dct o ks vs, [k] => if o = .ext then none else (kxOf k).bind fun kx => match kAt ks kx with
    | some n => (vs[n]?).bind plO
    | none => some .non
  | _, _, _ => none
def mtTy : Mt → D → Bool
  | .lcount, .lst _ _ => true
  | .scount, .str _ => true
  | .lindex, .lst _ _ => true
  | .dget, .dct o _ _ => decide (o ≠ .ext)
  | .ssplit, .str _ => true
  | .sends, .str _ => true
  | .dget1, .dct o _ _ => decide (o ≠ .ext)
  | _, _ => false
abbrev Env := List (Option D)
/-- what a program's functions and constants are -/
structure Cfg where
  call : Nat → List D → Option (D × List (Option D))
  gbl : Nat → Option D
  fuel : Nat

def get (ρ : Env) (i : Nat) : Option D := (ρ[i]?).join
def put (ρ : Env) (i : Nat) (d : Option D) : Env := ρ.set i d
def asB : D → Option Bool
  | .bl b => some b
  | _ => none
end GN
end

section
set_option linter.all false
set_option maxRecDepth 100000
set_option maxHeartbeats 1000000
namespace GN
open PySem PySem.Spec PyProof.Rows L2

def kxK : Kx → Key
  | .i n => .inl n
  | .s l => .inr (toS l)

/-- keys of a dict -/
def kyOk : List Ky → List Key → Prop
  | [], ks => ks = []
  | .x k :: r, ks => ∃ ks', ks = kxK k :: ks' ∧ kyOk r ks'
  | .t _ :: _, _ => False
section
variable (K : PySem.W.Frag) (Z : Addr → Prop) (H : Hp)
/-- a list that is handed in: locked, or written in the module -/
def Shr (a : Addr) (vs : List V) : Prop := (∃ o, H a = some (.frz o (.lst vs))) ∨
  ∃ (o : Obj) (its : Array Value) (n : Nat), K.lookup a = some o ∧ o.cls = .type "list" ∧ o.dict = none ∧ o.data = .seq its n ∧ its.size ≤ sizeLine ∧ Vals vs its.toList
mutual
def Rel : D → V → List Addr → Prop
  | .non, v, f => v = .non ∧ f = []
  | .bl b, v, f => v = .bl b ∧ f = []
  | .int i, v, f => v = .int i ∧ f = []
  | .str s, v, f => v = .str (toS s) ∧ f = []
  | .tup xs, v, f => ∃ a vs, v = .ref a ∧ SqT K H a vs ∧ RelL xs vs f
  | .lst o xs, v, f => match o with
    | .own => ∃ a vs f', v = .ref a ∧ H a = some (.lst vs) ∧ f = a :: f' ∧ RelL xs vs f'
    | .shr => ∃ a vs, v = .ref a ∧ H a = some (.lst vs) ∧ Z a ∧ RelL xs vs [] ∧ f = []
    | .ext => ∃ a vs, v = .ref a ∧ Shr K H a vs ∧ RelL xs vs [] ∧ f = []
  | .dct o ks xs, v, f => match o with
    | .own => ∃ a kvs f', v = .ref a ∧ H a = some (.dK kvs) ∧ kyOk ks (kvs.map (·.1)) ∧ f = a :: f' ∧ RelL xs (kvs.map (·.2)) f'
    | .shr => ∃ a kvs, v = .ref a ∧ H a = some (.dK kvs) ∧ Z a ∧ kyOk ks (kvs.map (·.1)) ∧ RelL xs (kvs.map (·.2)) [] ∧ f = []
    | .ext => False
def RelL : List D → List V → List Addr → Prop
  | [], vs, f => vs = [] ∧ f = []
  | d :: ds, vs, f => ∃ v r f1 f2, vs = v :: r ∧ f = f1 ++ f2 ∧ Rel d v f1 ∧ RelL ds r f2
end
/-- the frame's names -/
def EnvRel : Env → L2.St → List Addr → Prop
  | [], σ, g => σ = [] ∧ g = []
  | none :: ρ, σ, g => ∃ s r, σ = s :: r ∧ EnvRel ρ r g
  | some d :: ρ, σ, g => ∃ v r f g', σ = some v :: r ∧ g = f ++ g' ∧ Rel K Z H d v f ∧ EnvRel ρ r g'
end
/-- what may be changed -/
def isM : Option HO → Prop
  | some (.lst _) => True
  | some (.dK _) => True
  | _ => False
structure Ok (Z : Addr → Prop) (H : Hp) (g : List Addr) : Prop where
  nd : g.Nodup
  nz : ∀ a ∈ g, ¬ Z a
  mu : ∀ a ∈ g, isM (H a)
  zh : ∀ b, Z b → H b ≠ none
/-- an item of a container, by an int or a text -/
inductive AK where | i (n : Nat) | s (l : Str)
def ItemAt (H : Hp) (a : Addr) : AK → V → Prop
  | .i n, v => ∃ vs, H a = some (.lst vs) ∧ vs[n]? = some v
  | .s l, v => ∃ kvs, H a = some (.dK kvs) ∧ valV kvs (.inr l) = some v
/-- names that stand for an item of a container at a name -/
abbrev Al := List (Nat × Nat × AK)
def AlOk (Γ : Al) (σ : L2.St) (H : Hp) : Prop := ∀ j i k, (j, i, k) ∈ Γ → ∃ a v, σ[i]? = some (some (.ref a)) ∧ σ[j]? = some (some v) ∧ ItemAt H a k v
structure Stp (Γ : Al) (σ : L2.St) (Z : Addr → Prop) (H : Hp) (g : List Addr) (Z' : Addr → Prop) (H' : Hp) (g' : List Addr) : Prop where
  zs : ∀ b, Z b → Z' b
  zn : ∀ b, Z' b → Z b ∨ b ∈ g ∨ H b = none
  fr : ∀ b, H b ≠ none → b ∉ g → H' b = H b
  own : ∀ b ∈ g', b ∈ g ∨ H b = none
  al : AlOk Γ σ H → AlOk Γ σ H'
theorem isM_ne {H : Hp} {a : Addr} (h : isM (H a)) : H a ≠ none := by
  intro e; rw [e] at h; exact h

section
variable {K : PySem.W.Frag} {Z Z' : Addr → Prop} {H H' : Hp}
mutual
theorem Rel.isM : ∀ (d : D) (v : V) (f : List Addr), Rel K Z H d v f → ∀ a ∈ f, isM (H a)
  | .non, v, f, h, a, ha => by obtain ⟨_, rfl⟩ := h; cases ha
  | .bl _, v, f, h, a, ha => by obtain ⟨_, rfl⟩ := h; cases ha
  | .int _, v, f, h, a, ha => by obtain ⟨_, rfl⟩ := h; cases ha
  | .str _, v, f, h, a, ha => by obtain ⟨_, rfl⟩ := h; cases ha
  | .tup xs, v, f, h, a, ha => by
    obtain ⟨b, vs, _, _, r⟩ := h
    exact RelL.isM xs vs f r a ha
  | .lst .own xs, v, f, h, a, ha => by
    obtain ⟨b, vs, f', _, e, rfl, r⟩ := h
    rcases List.mem_cons.mp ha with rfl | ha
    · rw [e]; trivial
    · exact RelL.isM xs vs f' r a ha
  | .lst .shr xs, v, f, h, a, ha => by obtain ⟨b, vs, _, _, _, _, rfl⟩ := h; cases ha
  | .lst .ext xs, v, f, h, a, ha => by obtain ⟨b, vs, _, _, _, rfl⟩ := h; cases ha
  | .dct .own ks xs, v, f, h, a, ha => by
    obtain ⟨b, kvs, f', _, e, _, rfl, r⟩ := h
    rcases List.mem_cons.mp ha with rfl | ha
    · rw [e]; trivial
    · exact RelL.isM xs _ f' r a ha
  | .dct .shr ks xs, v, f, h, a, ha => by obtain ⟨b, kvs, _, _, _, _, _, rfl⟩ := h; cases ha
  | .dct .ext ks xs, v, f, h, a, ha => h.elim
theorem RelL.isM : ∀ (ds : List D) (vs : List V) (f : List Addr), RelL K Z H ds vs f → ∀ a ∈ f, isM (H a)
  | [], vs, f, h, a, ha => by obtain ⟨_, rfl⟩ := h; cases ha
  | d :: ds, vs, f, h, a, ha => by
    obtain ⟨v, r, f1, f2, rfl, rfl, h1, h2⟩ := h
    rcases List.mem_append.mp ha with ha | ha
    · exact Rel.isM d v f1 h1 a ha
    · exact RelL.isM ds r f2 h2 a ha
end
/-- where H' has what H has at f and at what is frozen, and the tuples -/
structure Agr (Z : Addr → Prop) (H : Hp) (f : List Addr) (Z' : Addr → Prop) (H' : Hp) : Prop where
  zs : ∀ b, Z b → Z' b
  fz : ∀ b, Z b → H b ≠ none → H' b = H b
  tp : ∀ b, H b ≠ none → ¬ GN.isM (H b) → H' b = H b
  at_ : ∀ b ∈ f, H' b = H b
theorem Agr.rd (q : Agr Z H f Z' H') {a : Addr} {u : HO} (h : Rd H a u) (hu : Z a ∨ ¬ GN.isM (some u)) : Rd H' a u := by
  rcases h with h | ⟨o, h⟩
  · left
    rcases hu with hu | hu
    · rw [q.fz a hu (by rw [h]; simp)]; exact h
    · rw [q.tp a (by rw [h]; simp) (by rw [h]; exact hu)]; exact h
  · right
    refine ⟨o, ?_⟩
    rw [q.tp a (by rw [h]; simp) (by rw [h]; exact fun z => z)]; exact h
theorem Agr.sqT (q : Agr Z H f Z' H') {a : Addr} {vs : List V} (h : SqT K H a vs) : SqT K H' a vs := by
  rcases h with h | h
  · exact .inl (q.rd h (.inr fun z => z))
  · exact .inr h
theorem Agr.shr (q : Agr Z H f Z' H') {a : Addr} {vs : List V} (h : Shr K H a vs) : Shr K H' a vs := by
  rcases h with ⟨o, h⟩ | h
  · exact .inl ⟨o, by rw [q.tp a (by rw [h]; simp) (by rw [h]; exact fun z => z)]; exact h⟩
  · exact .inr h
theorem Agr.sub {f f' : List Addr} (q : Agr Z H f Z' H') (h : ∀ a ∈ f', a ∈ f) : Agr Z H f' Z' H' := ⟨q.zs, q.fz, q.tp, fun b hb => q.at_ b (h b hb)⟩
mutual
theorem Rel.agr : ∀ (d : D) (v : V) (f : List Addr), Rel K Z H d v f → Agr Z H f Z' H' → Rel K Z' H' d v f
  | .non, v, f, h, q => h
  | .bl _, v, f, h, q => h
  | .int _, v, f, h, q => h
  | .str _, v, f, h, q => h
  | .tup xs, v, f, h, q => by
    obtain ⟨b, vs, e, s, r⟩ := h
    exact ⟨b, vs, e, q.sqT s, RelL.agr xs vs f r q⟩
  | .lst .own xs, v, f, h, q => by
    obtain ⟨b, vs, f', e, s, rfl, r⟩ := h
    exact ⟨b, vs, f', e, by rw [q.at_ b (by simp)]; exact s, rfl, RelL.agr xs vs f' r (q.sub fun a ha => by simp [ha])⟩
  | .lst .shr xs, v, f, h, q => by
    obtain ⟨b, vs, e, s, z, r, rfl⟩ := h
    exact ⟨b, vs, e, by rw [q.fz b z (by rw [s]; simp)]; exact s, q.zs b z, RelL.agr xs vs [] r q, rfl⟩
  | .lst .ext xs, v, f, h, q => by
    obtain ⟨b, vs, e, s, r, rfl⟩ := h
    exact ⟨b, vs, e, q.shr s, RelL.agr xs vs [] r q, rfl⟩
  | .dct .own ks xs, v, f, h, q => by
    obtain ⟨b, kvs, f', e, s, k, rfl, r⟩ := h
    exact ⟨b, kvs, f', e, by rw [q.at_ b (by simp)]; exact s, k, rfl, RelL.agr xs _ f' r (q.sub fun a ha => by simp [ha])⟩
  | .dct .ext ks xs, v, f, h, q => h.elim
  | .dct .shr ks xs, v, f, h, q => by
    obtain ⟨b, kvs, e, s, z, k, r, rfl⟩ := h
    exact ⟨b, kvs, e, by rw [q.fz b z (by rw [s]; simp)]; exact s, q.zs b z, k, RelL.agr xs _ [] r q, rfl⟩
theorem RelL.agr : ∀ (ds : List D) (vs : List V) (f : List Addr), RelL K Z H ds vs f → Agr Z H f Z' H' → RelL K Z' H' ds vs f
  | [], vs, f, h, q => h
  | d :: ds, vs, f, h, q => by
    obtain ⟨v, r, f1, f2, rfl, rfl, h1, h2⟩ := h
    exact ⟨v, r, f1, f2, rfl, rfl, Rel.agr d v f1 h1 (q.sub fun a ha => by simp [ha]), RelL.agr ds r f2 h2 (q.sub fun a ha => by simp [ha])⟩
end
theorem EnvRel.agr : ∀ (ρ : Env) (σ : L2.St) (g : List Addr), EnvRel K Z H ρ σ g → Agr Z H g Z' H' → EnvRel K Z' H' ρ σ g
  | [], _, _, h, _ => h
  | none :: ρ, σ, g, h, q => by
    obtain ⟨s, r, rfl, h⟩ := h
    exact ⟨s, r, rfl, EnvRel.agr ρ r g h q⟩
  | some d :: ρ, σ, g, h, q => by
    obtain ⟨v, r, f, g', rfl, rfl, h1, h2⟩ := h
    exact ⟨v, r, f, g', rfl, rfl, Rel.agr d v f h1 (q.sub fun a ha => by simp [ha]), EnvRel.agr ρ r g' h2 (q.sub fun a ha => by simp [ha])⟩
theorem EnvRel.isM : ∀ (ρ : Env) (σ : L2.St) (g : List Addr), EnvRel K Z H ρ σ g → ∀ a ∈ g, GN.isM (H a)
  | [], _, _, h, a, ha => by obtain ⟨_, rfl⟩ := h; cases ha
  | none :: ρ, σ, g, h, a, ha => by
    obtain ⟨s, r, rfl, h⟩ := h
    exact EnvRel.isM ρ r g h a ha
  | some d :: ρ, σ, g, h, a, ha => by
    obtain ⟨v, r, f, g', rfl, rfl, h1, h2⟩ := h
    rcases List.mem_append.mp ha with ha | ha
    · exact Rel.isM d v f h1 a ha
    · exact EnvRel.isM ρ r g' h2 a ha
theorem EnvRel.len : ∀ {ρ : Env} {σ : L2.St} {g : List Addr}, EnvRel K Z H ρ σ g → σ.length = ρ.length
  | [], _, _, h => by obtain ⟨rfl, _⟩ := h; rfl
  | none :: ρ, σ, g, h => by
    obtain ⟨s, r, rfl, h⟩ := h
    simp [EnvRel.len h]
  | some d :: ρ, σ, g, h => by
    obtain ⟨v, r, f, g', rfl, rfl, h1, h2⟩ := h
    simp [EnvRel.len h2]
end

section
variable {K : PySem.W.Frag} {Γ : Al} {σ : L2.St} {Z Z1 Z2 : Addr → Prop} {H H1 H2 : Hp} {f g g1 g2 : List Addr}
theorem Stp.refl : Stp Γ σ Z H g Z H g := ⟨fun _ h => h, fun _ h => .inl h, fun _ _ _ => rfl, fun _ h => .inl h, fun h => h⟩
theorem Stp.trans (a : Stp Γ σ Z H g Z1 H1 g1) (b : Stp Γ σ Z1 H1 g1 Z2 H2 g2) : Stp Γ σ Z H g Z2 H2 g2 := by
  have h1 : ∀ x, H1 x = none → H x = none ∨ x ∈ g := fun x e => by
    by_cases q : H x = none
    · exact .inl q
    · by_cases m : x ∈ g
      · exact .inr m
      · exact absurd (a.fr x q m ▸ e) q
  refine ⟨fun x h => b.zs x (a.zs x h), fun x h => ?_, fun x h m => ?_, fun x h => ?_, fun h => b.al (a.al h)⟩
  · rcases b.zn x h with h | h | h
    · exact a.zn x h
    · exact .inr (a.own x h)
    · rcases h1 x h with h | h
      · exact .inr (.inr h)
      · exact .inr (.inl h)
  · have e := a.fr x h m
    have q : x ∉ g1 := fun z => (a.own x z).elim m h
    rw [b.fr x (by rw [e]; exact h) q, e]
  · rcases b.own x h with h | h
    · exact a.own x h
    · exact (h1 x h).symm
/-- what is besides stays -/
theorem Stp.agr (a : Stp Γ σ Z H g Z1 H1 g1) (ok : Ok Z H (f ++ g)) : Agr Z H f Z1 H1 := by
  have nd := List.nodup_append.mp ok.nd
  refine ⟨a.zs, fun b z n => a.fr b n fun m => ok.nz b (by simp [m]) z, fun b n m => a.fr b n fun q => m (ok.mu b (by simp [q])), fun b hb => ?_⟩
  exact a.fr b (isM_ne (ok.mu b (by simp [hb]))) fun m => nd.2.2 b hb b m rfl
theorem Stp.frame (a : Stp Γ σ Z H g Z1 H1 g1) (ok : Ok Z H (f ++ g)) (ok1 : Ok Z1 H1 g1) : Stp Γ σ Z H (f ++ g) Z1 H1 (f ++ g1) ∧ Ok Z1 H1 (f ++ g1) := by
  have nd := List.nodup_append.mp ok.nd
  have q := a.agr ok
  refine ⟨⟨a.zs, fun b h => ?_, fun b n m => a.fr b n fun z => m (by simp [z]), fun b h => ?_, a.al⟩, ⟨?_, fun b h => ?_, fun b h => ?_, fun b h => ?_⟩⟩
  · rcases a.zn b h with h | h | h
    · exact .inl h
    · exact .inr (.inl (by simp [h]))
    · exact .inr (.inr h)
  · rcases List.mem_append.mp h with h | h
    · exact .inl (by simp [h])
    · rcases a.own b h with h | h
      · exact .inl (by simp [h])
      · exact .inr h
  · refine List.nodup_append.mpr ⟨nd.1, ok1.nd, fun x hx y hy e => ?_⟩
    subst e
    rcases a.own x hy with h | h
    · exact nd.2.2 x hx x h rfl
    · exact isM_ne (ok.mu x (by simp [hx])) h
  · rcases List.mem_append.mp h with h | h
    · intro z
      rcases a.zn b z with z | z | z
      · exact ok.nz b (by simp [h]) z
      · exact nd.2.2 b h b z rfl
      · exact isM_ne (ok.mu b (by simp [h])) z
    · exact ok1.nz b h
  · rcases List.mem_append.mp h with h | h
    · rw [q.at_ b h]; exact ok.mu b (by simp [h])
    · exact ok1.mu b h
  · exact ok1.zh b h
theorem Ok.left (ok : Ok Z H (f ++ g)) : Ok Z H f := ⟨(List.nodup_append.mp ok.nd).1, fun a h => ok.nz a (by simp [h]), fun a h => ok.mu a (by simp [h]), ok.zh⟩
theorem Ok.right (ok : Ok Z H (f ++ g)) : Ok Z H g := ⟨(List.nodup_append.mp ok.nd).2.1, fun a h => ok.nz a (by simp [h]), fun a h => ok.mu a (by simp [h]), ok.zh⟩
theorem Ok.perm (ok : Ok Z H f) (p : f.Perm g) : Ok Z H g := ⟨p.nodup_iff.mp ok.nd, fun a h => ok.nz a (p.mem_iff.mpr h), fun a h => ok.mu a (p.mem_iff.mpr h), ok.zh⟩
/-- some of what is owned is let go -/
theorem Stp.drop (a : Stp Γ σ Z H g Z1 H1 (f ++ g1)) : Stp Γ σ Z H g Z1 H1 g1 := ⟨a.zs, a.zn, a.fr, fun b h => a.own b (by simp [h]), a.al⟩
theorem Stp.sub (a : Stp Γ σ Z H g Z1 H1 g1) (h : ∀ b ∈ g2, b ∈ g1) : Stp Γ σ Z H g Z1 H1 g2 := ⟨a.zs, a.zn, a.fr, fun b q => a.own b (h b q), a.al⟩
end
end GN
end

section
set_option linter.all false
set_option maxRecDepth 100000
set_option maxHeartbeats 1000000
namespace GN
open PySem PySem.Spec PyProof.Rows L2

theorem PE.imp {X : Cx} {e : Expr} {t t' : TE} (h : PE X e t) (i : ∀ σ H Q, t' σ H Q → t σ H Q) : PE X e t' := ⟨fun p s σ H Q I q => h.run p s σ H Q I (i σ H Q q)⟩
theorem PT.imp {X : Cx} {e : Expr} {t t' : TT} (h : PT X e t) (i : ∀ σ H Q, t' σ H Q → t σ H Q) : PT X e t' := ⟨fun p s σ H Q I q => h.run p s σ H Q I (i σ H Q q)⟩
theorem PA.imp {X : Cx} {e : List Expr} {t t' : TA} (h : PA X e t) (i : ∀ σ H Q, t' σ H Q → t σ H Q) : PA X e t' := ⟨fun po p s σ H Q I q => h.run po p s σ H Q I (i σ H Q q)⟩
theorem PS.imp {X : Cx} {e : Stmt} {t t' : TS} (h : PS X e t) (i : ∀ D σ H, t' D σ H → t D σ H) : PS X e t' := ⟨fun p s σ H D I q => h.run p s σ H D I (i D σ H q)⟩
theorem PSs.imp {X : Cx} {e : List Stmt} {t t' : TS} (h : PSs X e t) (i : ∀ D σ H, t' D σ H → t D σ H) : PSs X e t' := ⟨fun p s σ H D I q => h.run p s σ H D I (i D σ H q)⟩
theorem OpR.imp {X : Cx} {f : Value → Value → Sem Value} {r r' : R2} (h : OpR X f r) (i : ∀ x y H Q, r' x y H Q → r x y H Q) : OpR X f r' := fun p s σ H x y v u Q I a b q => h p s σ H x y v u Q I a b (i x y H Q q)

/-- everything that stood stands; what is new is owned (f), or let go -/
structure Fsh (Z : Addr → Prop) (H : Hp) (Z1 : Addr → Prop) (H1 : Hp) (f : List Addr) : Prop where
  zs : ∀ b, Z b → Z1 b
  zn : ∀ b, Z1 b → Z b ∨ H b = none
  fr : ∀ b, H b ≠ none → H1 b = H b
  new : ∀ b ∈ f, H b = none
  ok : Ok Z1 H1 f
section
variable {K : PySem.W.Frag} {Γ : Al} {σ : L2.St} {Z Z1 Z2 : Addr → Prop} {H H1 H2 : Hp} {f g f1 : List Addr}
theorem Ok.nil (zh : ∀ b, Z b → H b ≠ none) : Ok Z H [] := ⟨List.nodup_nil, fun _ h => (nomatch h), fun _ h => (nomatch h), zh⟩
theorem Fsh.refl (zh : ∀ b, Z b → H b ≠ none) : Fsh Z H Z H [] := ⟨fun _ h => h, fun _ h => .inl h, fun _ _ => rfl, fun _ h => (nomatch h), Ok.nil zh⟩
theorem Fsh.trans (a : Fsh Z H Z1 H1 f) (b : Fsh Z1 H1 Z2 H2 f1) : Fsh Z H Z2 H2 f1 := by
  have h1 : ∀ x, H1 x = none → H x = none := fun x e => by
    by_cases q : H x = none
    · exact q
    · exact absurd (a.fr x q ▸ e) q
  refine ⟨fun x h => b.zs x (a.zs x h), fun x h => ?_, fun x h => ?_, fun x h => h1 x (b.new x h), b.ok⟩
  · rcases b.zn x h with h | h
    · exact a.zn x h
    · exact .inr (h1 x h)
  · have e := a.fr x h
    rw [b.fr x (by rw [e]; exact h), e]
theorem Fsh.drop (a : Fsh Z H Z1 H1 f) : Fsh Z H Z1 H1 [] := ⟨a.zs, a.zn, a.fr, fun _ h => (nomatch h), Ok.nil a.ok.zh⟩
theorem Fsh.agr (a : Fsh Z H Z1 H1 f) (h : ∀ b ∈ g, H b ≠ none) : Agr Z H g Z1 H1 := ⟨a.zs, fun b _ n => a.fr b n, fun b n _ => a.fr b n, fun b m => a.fr b (h b m)⟩
theorem Fsh.item (a : Fsh Z H Z1 H1 f) {c : Addr} {k : AK} {v : V} (h : ItemAt H c k v) : ItemAt H1 c k v := by
  cases k with
  | i n => obtain ⟨vs, e, q⟩ := h; exact ⟨vs, by rw [a.fr c (by rw [e]; simp)]; exact e, q⟩
  | s l => obtain ⟨vs, e, q⟩ := h; exact ⟨vs, by rw [a.fr c (by rw [e]; simp)]; exact e, q⟩
theorem Fsh.al (a : Fsh Z H Z1 H1 f) (h : AlOk Γ σ H) : AlOk Γ σ H1 := fun j i k m => by
  obtain ⟨c, v, e1, e2, q⟩ := h j i k m
  exact ⟨c, v, e1, e2, a.item q⟩
theorem Fsh.stp (a : Fsh Z H Z1 H1 f) (ok : Ok Z H g) : Stp Γ σ Z H g Z1 H1 (f ++ g) ∧ Ok Z1 H1 (f ++ g) := by
  have ne : ∀ b ∈ g, H b ≠ none := fun b m => isM_ne (ok.mu b m)
  refine ⟨⟨a.zs, fun b h => (a.zn b h).imp id .inr, fun b n _ => a.fr b n, fun b h => ?_, fun h => a.al h⟩, ⟨?_, fun b h => ?_, fun b h => ?_, a.ok.zh⟩⟩
  · rcases List.mem_append.mp h with h | h
    · exact .inr (a.new b h)
    · exact .inl h
  · exact List.nodup_append.mpr ⟨a.ok.nd, ok.nd, fun x hx y hy e => by subst e; exact ne x hy (a.new x hx)⟩
  · rcases List.mem_append.mp h with h | h
    · exact a.ok.nz b h
    · intro z
      rcases a.zn b z with z | z
      · exact ok.nz b h z
      · exact ne b h z
  · rcases List.mem_append.mp h with h | h
    · exact a.ok.mu b h
    · rw [a.fr b (ne b h)]; exact ok.mu b h
end

/-- the value d stands at v, whoever owns its lists -/
def Bor (K : PySem.W.Frag) (Z : Addr → Prop) (H : Hp) (d : D) (v : V) : Prop := ∃ f, Rel K Z H d v f
def BorL (K : PySem.W.Frag) (Z : Addr → Prop) (H : Hp) : List D → List V → Prop
  | [], vs => vs = []
  | d :: ds, vs => ∃ v r, vs = v :: r ∧ Bor K Z H d v ∧ BorL K Z H ds r
section
variable {K : PySem.W.Frag} {Z Z1 : Addr → Prop} {H H1 : Hp} {f g : List Addr}
theorem Bor.fsh {d : D} {v : V} (h : Bor K Z H d v) (a : Fsh Z H Z1 H1 f) : Bor K Z1 H1 d v := by
  obtain ⟨f', h⟩ := h
  exact ⟨f', Rel.agr d v f' h (a.agr fun b m => isM_ne (Rel.isM d v f' h b m))⟩
theorem BorL.fsh : ∀ {ds : List D} {vs : List V}, BorL K Z H ds vs → Fsh Z H Z1 H1 f → BorL K Z1 H1 ds vs
  | [], _, h, _ => h
  | d :: ds, vs, h, a => by
    obtain ⟨v, r, rfl, h1, h2⟩ := h
    exact ⟨v, r, rfl, h1.fsh a, BorL.fsh h2 a⟩
theorem BorL.of_rel : ∀ {ds : List D} {vs : List V} {f : List Addr}, RelL K Z H ds vs f → BorL K Z H ds vs
  | [], _, _, h => h.1
  | d :: ds, vs, f, h => by
    obtain ⟨v, r, f1, f2, rfl, rfl, h1, h2⟩ := h
    exact ⟨v, r, rfl, ⟨f1, h1⟩, BorL.of_rel h2⟩
mutual
theorem Rel.plain : ∀ (d : D) (v : V) (f : List Addr), Rel K Z H d v f → d.plain = true → f = []
  | .non, v, f, h, _ => h.2
  | .bl _, v, f, h, _ => h.2
  | .int _, v, f, h, _ => h.2
  | .str _, v, f, h, _ => h.2
  | .tup xs, v, f, h, p => by
    obtain ⟨a, vs, _, _, r⟩ := h
    exact RelL.plain xs vs f r (by simpa [D.plain] using p)
  | .lst .own xs, v, f, h, p => by simp [D.plain, Ow.isOwn] at p
  | .lst .shr xs, v, f, h, p => by obtain ⟨_, _, _, _, _, _, e⟩ := h; exact e
  | .lst .ext xs, v, f, h, p => by obtain ⟨_, _, _, _, _, e⟩ := h; exact e
  | .dct .own ks xs, v, f, h, p => by simp [D.plain, Ow.isOwn] at p
  | .dct .shr ks xs, v, f, h, p => by obtain ⟨_, _, _, _, _, _, _, e⟩ := h; exact e
  | .dct .ext ks xs, v, f, h, p => h.elim
theorem RelL.plain : ∀ (ds : List D) (vs : List V) (f : List Addr), RelL K Z H ds vs f → D.plainL ds = true → f = []
  | [], vs, f, h, _ => h.2
  | d :: ds, vs, f, h, p => by
    obtain ⟨v, r, f1, f2, rfl, rfl, h1, h2⟩ := h
    simp [D.plainL] at p
    rw [Rel.plain d v f1 h1 p.1, RelL.plain ds r f2 h2 p.2]; rfl
end
theorem RelL.len : ∀ {ds : List D} {vs : List V} {f : List Addr}, RelL K Z H ds vs f → vs.length = ds.length
  | [], _, _, h => by rw [h.1]; rfl
  | d :: ds, vs, f, h => by
    obtain ⟨v, r, f1, f2, rfl, rfl, h1, h2⟩ := h
    simp [RelL.len h2]
theorem RelL.get : ∀ {ds : List D} {vs : List V} {f : List Addr} {n : Nat} {d : D}, RelL K Z H ds vs f → ds[n]? = some d → ∃ v f', vs[n]? = some v ∧ Rel K Z H d v f' ∧ ∀ a ∈ f', a ∈ f
  | [], _, _, _, _, _, h => by simp at h
  | e :: ds, vs, f, 0, d, h, q => by
    obtain ⟨v, r, f1, f2, rfl, rfl, h1, h2⟩ := h
    simp at q; subst q
    exact ⟨v, f1, rfl, h1, fun a m => by simp [m]⟩
  | e :: ds, vs, f, n + 1, d, h, q => by
    obtain ⟨v, r, f1, f2, rfl, rfl, h1, h2⟩ := h
    obtain ⟨v', f', e1, e2, e3⟩ := RelL.get h2 (by simpa using q)
    exact ⟨v', f', by simpa using e1, e2, fun a m => by simp [e3 a m]⟩
theorem EnvRel.get : ∀ {ρ : Env} {σ : L2.St} {g : List Addr} {n : Nat} {d : D}, EnvRel K Z H ρ σ g → GN.get ρ n = some d → ∃ v f', σ[n]? = some (some v) ∧ Rel K Z H d v f' ∧ ∀ a ∈ f', a ∈ g
  | [], _, _, n, _, _, q => by simp [GN.get] at q
  | none :: ρ, σ, g, 0, d, h, q => by simp [GN.get] at q
  | none :: ρ, σ, g, n + 1, d, h, q => by
    obtain ⟨s, r, rfl, h⟩ := h
    obtain ⟨v, f', e1, e2⟩ := EnvRel.get (n := n) h (by simpa [GN.get] using q)
    exact ⟨v, f', by simpa using e1, e2⟩
  | some e :: ρ, σ, g, 0, d, h, q => by
    obtain ⟨v, r, f, g', rfl, rfl, h1, h2⟩ := h
    simp [GN.get] at q; subst q
    exact ⟨v, f, rfl, h1, fun a m => by simp [m]⟩
  | some e :: ρ, σ, g, n + 1, d, h, q => by
    obtain ⟨v, r, f, g', rfl, rfl, h1, h2⟩ := h
    obtain ⟨v', f', e1, e2, e3⟩ := EnvRel.get (n := n) h2 (by simpa [GN.get] using q)
    exact ⟨v', f', by simpa using e1, e2, fun a m => by simp [e3 a m]⟩
end

/-- what is known where a def's body (or a comprehension's block) runs -/
def bltNames : List Str := ["len", "range", "tuple", "list", "str", "int", "sum", "sorted", "max", "min", "abs", "all", "any", "repr", "isinstance", "set", "zip", "enumerate", "reversed", "dict", "bool"]
/-- a tuple that a module keeps -/
def tupC (K : PySem.W.Frag) (d : D) (v : V) : Prop := ∀ xs, d = .tup xs → ∃ p o, v = .ref p ∧ K.lookup p = some o ∧ o.cls = .type "tuple" ∧ o.dict = none
def GRel (K : PySem.W.Frag) (d : D) (v : V) : Prop := (∀ Z H, Rel K Z H d v []) ∧ tupC K d v
structure Base (X : Cx) (C : Cfg) (G : List Str) : Prop where
  calm : X.calm = true
  nd : X.N.Nodup
  blt : ∀ x ∈ bltNames, X.mg x = none
  un : X.A.units + 64 < cLine
  gd : X.A.guards = some []
  gbl : ∀ j x, G[j]? = some x → ∃ d v u, C.gbl j = some d ∧ X.mg x = some u ∧ RelV v u ∧ GRel X.K d v

/-- a state: the names, what is owned, the items that names stand for -/
structure Sta (K : PySem.W.Frag) (Γ : Al) (Z : Addr → Prop) (H : Hp) (ρ : Env) (σ : L2.St) (g : List Addr) : Prop where
  env : EnvRel K Z H ρ σ g
  ok : Ok Z H g
  al : AlOk Γ σ H
theorem Sta.fsh {K : PySem.W.Frag} {Γ : Al} {Z Z1 : Addr → Prop} {H H1 : Hp} {ρ : Env} {σ : L2.St} {f g : List Addr} (S : Sta K Γ Z H ρ σ g) (a : Fsh Z H Z1 H1 f) : Sta K Γ Z1 H1 ρ σ g :=
  ⟨EnvRel.agr ρ σ g S.env (a.agr fun b m => isM_ne (S.ok.mu b m)), (a.stp (Γ := Γ) (σ := σ) S.ok).2.right, a.al S.al⟩

/-- the reading of an atom -/
def tA (K : PySem.W.Frag) (Γ : Al) (F : Env → Option D) : TE := fun σ H Q => ∃ Z g ρ d, Sta K Γ Z H ρ σ g ∧ F ρ = some d ∧ ∀ v H1 Z1, Fsh Z H Z1 H1 [] → Bor K Z1 H1 d v → Q v H1
def tSeq : List TE → L2.St → Hp → (List V → Hp → Prop) → Prop
  | [], _, H, k => k [] H
  | t :: r, σ, H, k => t σ H fun v H1 => tSeq r σ H1 fun vs H2 => k (v :: vs) H2
/-- what a primitive gives -/
def Good (K : PySem.W.Frag) (p : Prim) (vs : List V) (H : Hp) (Q : VK) : Prop := ∃ Z ds d, (∀ b, Z b → H b ≠ none) ∧ BorL K Z H ds vs ∧ evPrim p ds = some d ∧ ∀ v H1 Z1 f, Fsh Z H Z1 H1 f → Rel K Z1 H1 d v f → Q v H1
def tPrim (K : PySem.W.Frag) (p : Prim) (ts : List TE) : TE := fun σ H Q => tSeq ts σ H fun vs H1 => Good K p vs H1 Q

def Mono (t : TE) : Prop := ∀ σ H Q Q', (∀ v H', Q v H' → Q' v H') → t σ H Q → t σ H Q'
theorem mono_tA {K : PySem.W.Frag} {Γ : Al} {F : Env → Option D} : Mono (tA K Γ F) := fun σ H Q Q' h q => by
  obtain ⟨Z, g, ρ, d, S, e, q⟩ := q
  exact ⟨Z, g, ρ, d, S, e, fun v H1 Z1 a b => h _ _ (q v H1 Z1 a b)⟩
inductive PEs (X : Cx) : List Expr → List TE → Prop where
  | nil : PEs X [] []
  | cons {e : Expr} {t : TE} {es : List Expr} {ts : List TE} : PE X e t → Mono t → PEs X es ts → PEs X (e :: es) (t :: ts)

/-! ### the look at the syntax -/
def visB (sc : Scope) (x : Str) : Bool := match sc.names.lookup x with
  | some .local => true | some .cell => true | some .free => true | _ => false
def glB (sc : Scope) (x : Str) : Bool := match sc.names.lookup x with
  | some .globalImplicit => true | _ => false
theorem vis_of {sc : Scope} {x : Str} (h : visB sc x = true) : Vis sc x := by
  unfold visB at h
  unfold Vis
  split at h <;> simp_all
def nameB (x : Str) : Bool := !(x == ("__debug__" : Str)) && !(x == ("__classdict__" : Str))
theorem gl_of {X : Cx} {x : Str} (h : glB X.env.scope x = true) : Gl X x := by
  unfold glB at h
  unfold Gl Env.kindOf
  split at h <;> simp_all
end GN
end

section
set_option linter.all false
set_option maxRecDepth 100000
set_option maxHeartbeats 2000000
namespace GN
open PySem PySem.Spec PyProof.Rows L2
/-- a step, whatever names stand for -/
abbrev Sp0 := Stp [] []
section
variable {K : PySem.W.Frag} {Γ : Al} {σ : L2.St} {Z Z1 Z2 : Addr → Prop} {H H1 H2 : Hp} {f f1 f2 g g1 g2 : List Addr}
theorem al0 : AlOk [] [] H := fun _ _ _ h => nomatch h
theorem Sp0.mk (zs : ∀ b, Z b → Z1 b) (zn : ∀ b, Z1 b → Z b ∨ b ∈ g ∨ H b = none) (fr : ∀ b, H b ≠ none → b ∉ g → H1 b = H b) (own : ∀ b ∈ g1, b ∈ g ∨ H b = none) : Sp0 Z H g Z1 H1 g1 := ⟨zs, zn, fr, own, fun _ => al0⟩
theorem Fsh.sp0 (a : Fsh Z H Z1 H1 f) (ok : Ok Z H g) : Sp0 Z H g Z1 H1 (f ++ g) ∧ Ok Z1 H1 (f ++ g) := a.stp ok
theorem Sp0.perm (a : Sp0 Z H g Z1 H1 g1) (p : g1.Perm g2) : Sp0 Z H g Z1 H1 g2 := a.sub fun b h => p.mem_iff.mpr h
theorem Sp0.from_ (a : Sp0 Z H g Z1 H1 g1) (p : g.Perm g2) : Sp0 Z H g2 Z1 H1 g1 :=
  ⟨a.zs, fun b h => (a.zn b h).imp id fun q => q.imp p.mem_iff.mp id, fun b n m => a.fr b n fun q => m (p.mem_iff.mp q), fun b h => (a.own b h).imp p.mem_iff.mp id, fun _ => al0⟩
/-- a step that works on a part -/
theorem Sp0.part (a : Sp0 Z H g Z1 H1 g1) (ok : Ok Z H (f ++ g)) (ok1 : Ok Z1 H1 g1) : Sp0 Z H (f ++ g) Z1 H1 (f ++ g1) ∧ Ok Z1 H1 (f ++ g1) := a.frame ok ok1

/-! ### a name's value taken out, put in -/
theorem EnvRel.take : ∀ {ρ : Env} {σ : L2.St} {g : List Addr} {i : Nat} {d : D}, EnvRel K Z H ρ σ g → GN.get ρ i = some d →
    ∃ v f g', σ[i]? = some (some v) ∧ Rel K Z H d v f ∧ EnvRel K Z H (put ρ i none) σ g' ∧ g.Perm (f ++ g')
  | [], _, _, i, _, _, q => by simp [GN.get] at q
  | none :: ρ, σ, g, 0, d, h, q => by simp [GN.get] at q
  | none :: ρ, σ, g, i + 1, d, h, q => by
    obtain ⟨s, r, rfl, h⟩ := h
    obtain ⟨v, f, g', e1, e2, e3, e4⟩ := EnvRel.take (i := i) h (by simpa [GN.get] using q)
    exact ⟨v, f, g', by simpa using e1, e2, ⟨s, r, rfl, e3⟩, e4⟩
  | some e :: ρ, σ, g, 0, d, h, q => by
    obtain ⟨v, r, f, g', rfl, rfl, h1, h2⟩ := h
    simp [GN.get] at q; subst q
    exact ⟨v, f, g', rfl, h1, ⟨some v, r, rfl, h2⟩, List.Perm.refl _⟩
  | some e :: ρ, σ, g, i + 1, d, h, q => by
    obtain ⟨v, r, f0, g0, rfl, rfl, h1, h2⟩ := h
    obtain ⟨v', f, g', e1, e2, e3, e4⟩ := EnvRel.take (i := i) h2 (by simpa [GN.get] using q)
    refine ⟨v', f, f0 ++ g', by simpa using e1, e2, ⟨v, r, f0, g', rfl, rfl, h1, e3⟩, ?_⟩
    have p1 : (f0 ++ g0).Perm (f0 ++ (f ++ g')) := e4.append_left f0
    have p2 : (f0 ++ (f ++ g')).Perm (f ++ (f0 ++ g')) := by
      rw [← List.append_assoc, ← List.append_assoc]
      exact (List.perm_append_comm).append_right g'
    exact p1.trans p2
theorem EnvRel.fill : ∀ {ρ : Env} {σ : L2.St} {g : List Addr} {i : Nat} {d : D} {v : V} {f : List Addr}, EnvRel K Z H ρ σ g → GN.get ρ i = none → σ[i]? = some (some v) → Rel K Z H d v f →
    ∃ g', EnvRel K Z H (put ρ i (some d)) σ g' ∧ g'.Perm (f ++ g)
  | [], σ, g, i, d, v, f, h, _, s, _ => by obtain ⟨rfl, _⟩ := h; simp at s
  | none :: ρ, σ, g, 0, d, v, f, h, q, s, r => by
    obtain ⟨s', r', rfl, h⟩ := h
    simp at s; subst s
    exact ⟨f ++ g, ⟨v, r', f, g, rfl, rfl, r, h⟩, List.Perm.refl _⟩
  | none :: ρ, σ, g, i + 1, d, v, f, h, q, s, r => by
    obtain ⟨s', r', rfl, h⟩ := h
    obtain ⟨g', e1, e2⟩ := EnvRel.fill (i := i) h (by simpa [GN.get] using q) (by simpa using s) r
    exact ⟨g', ⟨s', r', rfl, e1⟩, e2⟩
  | some e :: ρ, σ, g, 0, d, v, f, h, q, s, r => by simp [GN.get] at q
  | some e :: ρ, σ, g, i + 1, d, v, f, h, q, s, r => by
    obtain ⟨v0, r0, f0, g0, rfl, rfl, h1, h2⟩ := h
    obtain ⟨g', e1, e2⟩ := EnvRel.fill (i := i) h2 (by simpa [GN.get] using q) (by simpa using s) r
    refine ⟨f0 ++ g', ⟨v0, r0, f0, g', rfl, rfl, h1, e1⟩, ?_⟩
    have p1 : (f0 ++ g').Perm (f0 ++ (f ++ g0)) := e2.append_left f0
    have p2 : (f0 ++ (f ++ g0)).Perm (f ++ (f0 ++ g0)) := by
      rw [← List.append_assoc, ← List.append_assoc]
      exact (List.perm_append_comm).append_right g0
    exact p1.trans p2
theorem get_put_same {ρ : Env} {i : Nat} {d : Option D} (h : i < ρ.length) : GN.get (put ρ i d) i = d := by
  unfold GN.get put
  rw [List.getElem?_set_self h]; rfl
theorem get_put_ne {ρ : Env} {i j : Nat} {d : Option D} (h : i ≠ j) : GN.get (put ρ i d) j = GN.get ρ j := by
  unfold GN.get put
  rw [List.getElem?_set_ne h]
theorem get_put_none {ρ : Env} {i : Nat} : GN.get (put ρ i none) i = none := by
  by_cases h : i < ρ.length
  · exact get_put_same h
  · unfold GN.get put
    rw [List.getElem?_eq_none (by simpa using h)]; rfl
theorem put_put {ρ : Env} {i : Nat} {d e : Option D} : put (put ρ i d) i e = put ρ i e := by
  unfold put; rw [List.set_set]
theorem get_lt {ρ : Env} {i : Nat} {d : D} (h : GN.get ρ i = some d) : i < ρ.length := by
  unfold GN.get at h
  by_cases q : i < ρ.length
  · exact q
  · rw [List.getElem?_eq_none (by simpa using q)] at h; cases h
/-! ### frozen -/
theorem isOwn_frz (o : Ow) : o.frz ≠ .own := by cases o <;> decide
mutual
theorem Rel.frz : ∀ (d : D) (v : V) (f : List Addr), Rel K Z H d v f → (∀ b, Z b → Z1 b) → (∀ b ∈ f, Z1 b) → Rel K Z1 H d.frz v []
  | .non, v, f, h, _, _ => ⟨h.1, rfl⟩
  | .bl _, v, f, h, _, _ => ⟨h.1, rfl⟩
  | .int _, v, f, h, _, _ => ⟨h.1, rfl⟩
  | .str _, v, f, h, _, _ => ⟨h.1, rfl⟩
  | .tup xs, v, f, h, zs, zf => by
    obtain ⟨a, vs, e, s, r⟩ := h
    exact ⟨a, vs, e, s, RelL.frz xs vs f r zs zf⟩
  | .lst .own xs, v, f, h, zs, zf => by
    obtain ⟨a, vs, f', e, s, rfl, r⟩ := h
    exact ⟨a, vs, e, s, zf a (by simp), RelL.frz xs vs f' r zs fun b m => zf b (by simp [m]), rfl⟩
  | .lst .shr xs, v, f, h, zs, zf => by
    obtain ⟨a, vs, e, s, z, r, rfl⟩ := h
    exact ⟨a, vs, e, s, zs a z, RelL.frz xs vs [] r zs zf, rfl⟩
  | .lst .ext xs, v, f, h, zs, zf => by
    obtain ⟨a, vs, e, s, r, rfl⟩ := h
    exact ⟨a, vs, e, s, RelL.frz xs vs [] r zs zf, rfl⟩
  | .dct .own ks xs, v, f, h, zs, zf => by
    obtain ⟨a, kvs, f', e, s, k, rfl, r⟩ := h
    exact ⟨a, kvs, e, s, zf a (by simp), k, RelL.frz xs _ f' r zs fun b m => zf b (by simp [m]), rfl⟩
  | .dct .shr ks xs, v, f, h, zs, zf => by
    obtain ⟨a, kvs, e, s, z, k, r, rfl⟩ := h
    exact ⟨a, kvs, e, s, zs a z, k, RelL.frz xs _ [] r zs zf, rfl⟩
  | .dct .ext ks xs, v, f, h, zs, zf => h.elim
theorem RelL.frz : ∀ (ds : List D) (vs : List V) (f : List Addr), RelL K Z H ds vs f → (∀ b, Z b → Z1 b) → (∀ b ∈ f, Z1 b) → RelL K Z1 H (D.frzL ds) vs []
  | [], vs, f, h, _, _ => ⟨h.1, rfl⟩
  | d :: ds, vs, f, h, zs, zf => by
    obtain ⟨v, r, f1, f2, rfl, rfl, h1, h2⟩ := h
    exact ⟨v, r, [], [], rfl, rfl, Rel.frz d v f1 h1 zs fun b m => zf b (by simp [m]), RelL.frz ds r f2 h2 zs fun b m => zf b (by simp [m])⟩
end
/-- what is owned is frozen: nothing changes but what may be changed -/
theorem freeze {f g : List Addr} (ok : Ok Z H (f ++ g)) : Ok (fun b => Z b ∨ b ∈ f) H g ∧ Sp0 Z H (f ++ g) (fun b => Z b ∨ b ∈ f) H g ∧ Agr Z H g (fun b => Z b ∨ b ∈ f) H := by
  have nd := List.nodup_append.mp ok.nd
  refine ⟨⟨nd.2.1, fun a h z => ?_, fun a h => ok.mu a (by simp [h]), fun b z => ?_⟩, ⟨fun b z => .inl z, fun b z => ?_, fun _ _ _ => rfl, fun b h => .inl (by simp [h]), fun _ => al0⟩, ⟨fun b z => .inl z, fun _ _ _ => rfl, fun _ _ _ => rfl, fun _ _ => rfl⟩⟩
  · rcases z with z | z
    · exact ok.nz a (by simp [h]) z
    · exact nd.2.2 a z a h rfl
  · rcases z with z | z
    · exact ok.zh b z
    · exact isM_ne (ok.mu b (by simp [z]))
  · rcases z with z | z
    · exact .inl z
    · exact .inr (.inl (by simp [z]))
end
/-! ### the state of a body -/
/-- a list or a dict of which names may stand for items -/
def Con : D → Prop
  | .lst o _ => o ≠ .ext
  | .dct o _ _ => o ≠ .ext
  | _ => False
theorem Con.rel {K : PySem.W.Frag} {Z : Addr → Prop} {H : Hp} {d : D} {v : V} {f : List Addr} (c : Con d) (r : Rel K Z H d v f) : ∃ a, v = .ref a ∧ isM (H a) ∧ (Z a ∨ a ∈ f) := by
  cases d with
  | lst o xs =>
    cases o with
    | own => obtain ⟨a, vs, f', e, s, rfl, _⟩ := r; exact ⟨a, e, by rw [s]; trivial, .inr (by simp)⟩
    | shr => obtain ⟨a, vs, e, s, z, _⟩ := r; exact ⟨a, e, by rw [s]; trivial, .inl z⟩
    | ext => exact absurd rfl c
  | dct o ks xs =>
    cases o with
    | own => obtain ⟨a, kvs, f', e, s, _, rfl, _⟩ := r; exact ⟨a, e, by rw [s]; trivial, .inr (by simp)⟩
    | shr => obtain ⟨a, kvs, e, s, z, _⟩ := r; exact ⟨a, e, by rw [s]; trivial, .inl z⟩
    | ext => exact absurd rfl c
  | _ => exact c.elim
def freeB (Γ : Al) (i : Nat) : Bool := Γ.all fun q => q.2.1 != i
structure Stb (K : PySem.W.Frag) (Γ : Al) (Z : Addr → Prop) (H : Hp) (ρ : Env) (σ : L2.St) (g : List Addr) : Prop where
  sta : Sta K Γ Z H ρ σ g
  alv : ∀ j i k, (j, i, k) ∈ Γ → ∃ d, get ρ i = some d ∧ Con d
section
variable {K : PySem.W.Frag} {Γ : Al} {σ : L2.St} {Z Z1 Z2 : Addr → Prop} {H H1 H2 : Hp} {f f1 f2 g g1 g2 : List Addr} {ρ ρ1 : Env}
theorem freeB_ne {i : Nat} (h : freeB Γ i = true) {j i' : Nat} {k : AK} (m : (j, i', k) ∈ Γ) : i ≠ i' := by
  unfold freeB at h
  have := List.all_eq_true.mp h _ m
  simp at this
  exact fun e => this e.symm
/-- names stand for the items still where their lists are kept -/
theorem Stb.al_keep (S : Stb K Γ Z H ρ σ g) (h : ∀ a, (H a ≠ none) → (Z a ∨ a ∈ g) → isM (H a) → (∃ j i k, (j, i, k) ∈ Γ ∧ σ[i]? = some (some (.ref a))) → H1 a = H a) : AlOk Γ σ H1 := by
  intro j i k m
  obtain ⟨a, v, e1, e2, it⟩ := S.sta.al j i k m
  obtain ⟨dc, e3, ho⟩ := S.alv j i k m
  obtain ⟨v', f', t1, t2, t3⟩ := S.sta.env.get e3
  rw [e1] at t1; cases t1
  have key : H a ≠ none ∧ (Z a ∨ a ∈ g) ∧ isM (H a) := by
    obtain ⟨b, eb, hm, hz⟩ := ho.rel t2
    cases eb
    exact ⟨isM_ne hm, hz.imp id (t3 a), hm⟩
  have hk := h a key.1 key.2.1 key.2.2 ⟨j, i, k, m, e1⟩
  refine ⟨a, v, e1, e2, ?_⟩
  cases k with
  | i n => obtain ⟨vs, q1, q2⟩ := it; exact ⟨vs, by rw [hk]; exact q1, q2⟩
  | s l => obtain ⟨vs, q1, q2⟩ := it; exact ⟨vs, by rw [hk]; exact q1, q2⟩
theorem Stb.fsh (S : Stb K Γ Z H ρ σ g) (a : Fsh Z H Z1 H1 f) : Stb K Γ Z1 H1 ρ σ g := ⟨S.sta.fsh a, S.alv⟩
end
end GN
end

section
set_option linter.all false
set_option maxRecDepth 100000
set_option maxHeartbeats 1000000
namespace GN
open PySem PySem.Spec PyProof.Rows L2

/-! ### one and two values -/
section
variable {K : PySem.W.Frag} {Z : Addr → Prop} {H : Hp}
theorem BorL.one {ds : List D} {x : V} (h : BorL K Z H ds [x]) : ∃ d, ds = [d] ∧ Bor K Z H d x := by
  cases ds with
  | nil => cases h
  | cons d ds =>
    obtain ⟨v, r, e, h1, h2⟩ := h
    cases e
    cases ds with
    | nil => exact ⟨d, rfl, h1⟩
    | cons d' ds => obtain ⟨v, r, e, _⟩ := h2; cases e
theorem BorL.two {ds : List D} {x y : V} (h : BorL K Z H ds [x, y]) : ∃ d e, ds = [d, e] ∧ Bor K Z H d x ∧ Bor K Z H e y := by
  cases ds with
  | nil => cases h
  | cons d ds =>
    obtain ⟨v, r, e, h1, h2⟩ := h
    cases e
    obtain ⟨d', rfl, h3⟩ := BorL.one h2
    exact ⟨d, d', rfl, h1, h3⟩
theorem BorL.len : ∀ {ds : List D} {vs : List V}, BorL K Z H ds vs → ds.length = vs.length
  | [], _, h => by rw [h]; rfl
  | d :: ds, vs, h => by
    obtain ⟨v, r, rfl, _, h2⟩ := h
    simp [BorL.len h2]
theorem Bor.int {i : Int} {v : V} (h : Bor K Z H (.int i) v) : v = .int i := by obtain ⟨f, h, _⟩ := h; exact h
theorem Bor.bl {i : Bool} {v : V} (h : Bor K Z H (.bl i) v) : v = .bl i := by obtain ⟨f, h, _⟩ := h; exact h
theorem Bor.str {i : List Nat} {v : V} (h : Bor K Z H (.str i) v) : v = .str (toS i) := by obtain ⟨f, h, _⟩ := h; exact h
theorem Bor.non {v : V} (h : Bor K Z H .non v) : v = .non := by obtain ⟨f, h, _⟩ := h; exact h
theorem Bor.tup {xs : List D} {v : V} (h : Bor K Z H (.tup xs) v) : ∃ a vs f, v = .ref a ∧ SqT K H a vs ∧ RelL K Z H xs vs f := by
  obtain ⟨f, a, vs, e, s, r⟩ := h
  exact ⟨a, vs, f, e, s, r⟩
theorem Shr.sqL {a : Addr} {vs : List V} (h : Shr K H a vs) : SqL K H a vs := by
  rcases h with ⟨o, h⟩ | h
  · exact .inl (.inr ⟨o, h⟩)
  · exact .inr h
theorem Bor.lst {o : Ow} {xs : List D} {v : V} (h : Bor K Z H (.lst o xs) v) : ∃ a vs f, v = .ref a ∧ SqL K H a vs ∧ RelL K Z H xs vs f ∧ (o ≠ .ext → H a = some (.lst vs)) := by
  cases o with
  | own =>
    obtain ⟨f, a, vs, f', e, s, _, r⟩ := h
    exact ⟨a, vs, f', e, SqL.of s, r, fun _ => s⟩
  | shr =>
    obtain ⟨f, a, vs, e, s, z, r, _⟩ := h
    exact ⟨a, vs, [], e, SqL.of s, r, fun _ => s⟩
  | ext =>
    obtain ⟨f, a, vs, e, s, r, _⟩ := h
    exact ⟨a, vs, [], e, s.sqL, r, fun z => absurd rfl z⟩
theorem RelL.ints : ∀ {ds : List D} {vs : List V} {f : List Addr} {l : List Int}, RelL K Z H ds vs f → GN.intsD ds = some l → vs = l.map V.int ∧ ds = l.map D.int
  | [], _, _, _, h, q => by
    simp [GN.intsD] at q; subst q
    exact ⟨h.1, rfl⟩
  | .int i :: ds, vs, f, l, h, q => by
    obtain ⟨v, r, f1, f2, rfl, rfl, h1, h2⟩ := h
    simp only [GN.intsD, Option.map_eq_some_iff] at q
    obtain ⟨l', q, rfl⟩ := q
    obtain ⟨e1, e2⟩ := RelL.ints h2 q
    rw [h1.1, e1, e2]; exact ⟨rfl, rfl⟩
  | .non :: _, _, _, _, _, q => by simp [GN.intsD] at q
  | .bl _ :: _, _, _, _, _, q => by simp [GN.intsD] at q
  | .str _ :: _, _, _, _, _, q => by simp [GN.intsD] at q
  | .tup _ :: _, _, _, _, _, q => by simp [GN.intsD] at q
  | .lst _ _ :: _, _, _, _, _, q => by simp [GN.intsD] at q
  | .dct _ _ _ :: _, _, _, _, _, q => by simp [GN.intsD] at q
theorem RelL.bools : ∀ {ds : List D} {vs : List V} {f : List Addr} {l : List Bool}, RelL K Z H ds vs f → GN.boolsD ds = some l → vs = l.map V.bl ∧ ds = l.map D.bl
  | [], _, _, _, h, q => by
    simp [GN.boolsD] at q; subst q
    exact ⟨h.1, rfl⟩
  | .bl i :: ds, vs, f, l, h, q => by
    obtain ⟨v, r, f1, f2, rfl, rfl, h1, h2⟩ := h
    simp only [GN.boolsD, Option.map_eq_some_iff] at q
    obtain ⟨l', q, rfl⟩ := q
    obtain ⟨e1, e2⟩ := RelL.bools h2 q
    rw [h1.1, e1, e2]; exact ⟨rfl, rfl⟩
  | .non :: _, _, _, _, _, q => by simp [GN.boolsD] at q
  | .int _ :: _, _, _, _, _, q => by simp [GN.boolsD] at q
  | .str _ :: _, _, _, _, _, q => by simp [GN.boolsD] at q
  | .tup _ :: _, _, _, _, _, q => by simp [GN.boolsD] at q
  | .lst _ _ :: _, _, _, _, _, q => by simp [GN.boolsD] at q
  | .dct _ _ _ :: _, _, _, _, _, q => by simp [GN.boolsD] at q
theorem RelL.strs : ∀ {ds : List D} {vs : List V} {f : List Addr} {l : List (List Nat)}, RelL K Z H ds vs f → GN.strsD ds = some l → vs = (l.map toS).map V.str ∧ ds = l.map D.str
  | [], _, _, _, h, q => by
    simp [GN.strsD] at q; subst q
    exact ⟨h.1, rfl⟩
  | .str i :: ds, vs, f, l, h, q => by
    obtain ⟨v, r, f1, f2, rfl, rfl, h1, h2⟩ := h
    simp only [GN.strsD, Option.map_eq_some_iff] at q
    obtain ⟨l', q, rfl⟩ := q
    obtain ⟨e1, e2⟩ := RelL.strs h2 q
    rw [h1.1, e1, e2]; exact ⟨rfl, rfl⟩
  | .non :: _, _, _, _, _, q => by simp [GN.strsD] at q
  | .int _ :: _, _, _, _, _, q => by simp [GN.strsD] at q
  | .bl _ :: _, _, _, _, _, q => by simp [GN.strsD] at q
  | .tup _ :: _, _, _, _, _, q => by simp [GN.strsD] at q
  | .lst _ _ :: _, _, _, _, _, q => by simp [GN.strsD] at q
  | .dct _ _ _ :: _, _, _, _, _, q => by simp [GN.strsD] at q
theorem RelL.app : ∀ {ds es : List D} {vs ws : List V} {f g : List Addr}, RelL K Z H ds vs f → RelL K Z H es ws g → RelL K Z H (ds ++ es) (vs ++ ws) (f ++ g)
  | [], _, _, _, _, _, h, q => by obtain ⟨rfl, rfl⟩ := h; simpa using q
  | d :: ds, es, vs, ws, f, g, h, q => by
    obtain ⟨v, r, f1, f2, rfl, rfl, h1, h2⟩ := h
    exact ⟨v, r ++ ws, f1, f2 ++ g, rfl, by simp, h1, RelL.app h2 q⟩
theorem RelL.nil_of {ds : List D} {vs : List V} {f : List Addr} (h : RelL K Z H ds vs f) (p : D.plainL ds = true) : RelL K Z H ds vs [] := by
  have := RelL.plain ds vs f h p; subst this; exact h
theorem plainL_app : ∀ (a b : List D), D.plainL (a ++ b) = (D.plainL a && D.plainL b)
  | [], _ => rfl
  | x :: r, b => by rw [List.cons_append, D.plainL, D.plainL, plainL_app r b, Bool.and_assoc]
/-- a new object -/
theorem Fsh.one {a : Addr} {o : HO} {f : List Addr} (hz : ∀ b, Z b → H b ≠ none) (hn : H a = none) (hf : f = [] ∨ (f = [a] ∧ isM (some o))) : Fsh Z H Z (upd H a o) f := by
  have nz : ¬ Z a := fun z => hz a z hn
  have zh : ∀ b, Z b → upd H a o b ≠ none := fun b z => by
    rw [upd_ne (a := a) (b := b) (fun e => nz (by rw [← e]; exact z))]; exact hz b z
  refine ⟨fun _ h => h, fun _ h => .inl h, fun b h => upd_ne fun e => h (e ▸ hn), fun b h => ?_, ?_⟩
  · rcases hf with rfl | ⟨rfl, _⟩
    · cases h
    · simp at h; subst h; exact hn
  · rcases hf with rfl | ⟨rfl, m⟩
    · exact Ok.nil zh
    · refine ⟨by simp, fun b h => ?_, fun b h => ?_, zh⟩
      · simp at h; subst h; exact nz
      · simp at h; subst h; rw [upd_same]; exact m
end
end GN
end

section
set_option linter.all false
set_option maxRecDepth 100000
set_option maxHeartbeats 1000000
namespace GN
open PySem PySem.Spec PyProof.Rows L2
theorem line_eq : (line : Nat) = sizeLine := by rw [sizeLine_eq]; rfl
theorem toS_len (l : List Nat) : (toS l).length = l.length := by simp [toS, Str.length]
theorem toS_app (a b : List Nat) : toS a ++ toS b = toS (a ++ b) := by
  show Str.append (toS a) (toS b) = toS (a ++ b)
  simp [toS, Str.append]
theorem toS_cps (l : List Nat) : (toS l).cps.toList = l := by simp [toS]
theorem toS_inj {a b : List Nat} (h : toS a = toS b) : a = b := by
  have := congrArg (fun s : Str => s.cps.toList) h
  simpa [toS] using this
section
variable {K : PySem.W.Frag} {Z : Addr → Prop} {H : Hp}
theorem rel_int {i : Int} : Rel K Z H (.int i) (.int i) [] := ⟨rfl, rfl⟩
theorem rel_bl {i : Bool} : Rel K Z H (.bl i) (.bl i) [] := ⟨rfl, rfl⟩
theorem rel_str {s : List Nat} : Rel K Z H (.str s) (.str (toS s)) [] := ⟨rfl, rfl⟩
theorem rel_str' {s : List Nat} {x : Str} (h : x = toS s) : Rel K Z H (.str s) (.str x) [] := ⟨by rw [h], rfl⟩
/-- a new tuple, a new list of what stands -/
theorem new_tup {vs : List V} {xs : List D} {f : List Addr} {p : Addr} (zh : ∀ b, Z b → H b ≠ none) (hp : H p = none) (r : RelL K Z H xs vs f) (pl : D.plainL xs = true) :
    Fsh Z H Z (upd H p (.tup vs)) [] ∧ Rel K Z (upd H p (.tup vs)) (.tup xs) (.ref p) [] := by
  have F : Fsh Z H Z (upd H p (.tup vs)) [] := Fsh.one zh hp (.inl rfl)
  have r0 := r.nil_of pl
  exact ⟨F, p, vs, rfl, SqT.of upd_same, RelL.agr xs vs [] r0 (F.agr fun _ h => nomatch h)⟩
theorem new_lst {vs : List V} {xs : List D} {f : List Addr} {p : Addr} (zh : ∀ b, Z b → H b ≠ none) (hp : H p = none) (r : RelL K Z H xs vs f) (pl : D.plainL xs = true) :
    Fsh Z H Z (upd H p (.lst vs)) [p] ∧ Rel K Z (upd H p (.lst vs)) (.lst .own xs) (.ref p) [p] := by
  have F : Fsh Z H Z (upd H p (.lst vs)) [p] := Fsh.one zh hp (.inr ⟨rfl, trivial⟩)
  have r0 := r.nil_of pl
  exact ⟨F, p, vs, [], rfl, upd_same, rfl, RelL.agr xs vs [] r0 (F.agr fun _ h => nomatch h)⟩
end
section
variable {X : Cx} {C : Cfg} {G : List Str}
theorem small_iff {i : Int} (h : small i = true) : -(2 ^ 64) < i ∧ i < 2 ^ 64 := by
  unfold small at h
  simp only [Bool.and_eq_true, decide_eq_true_eq] at h
  omega
def opOf : Prim → Option Operator
  | .band => some .BitAnd | .bor => some .BitOr | .shl => some .LShift | .shr => some .RShift
  | .add => some .Add | .sub => some .Sub | .mul => some .Mult | .fdiv => some .FloorDiv | .mod => some .Mod | .pow => some .Pow
  | _ => none

theorem op_add_bi : OpR X (binaryOp .Add) (fun x y H Q => ∃ k i, x = .bl k ∧ y = .int i ∧ Q (.int (b2i k + i)) H) := by
  intro pins s σ H x y v u Q I rx ry h
  obtain ⟨k, i, rfl, rfl, q⟩ := h
  obtain ⟨t, rfl⟩ := ry
  cases rx
  exact PySem.IntBool.add_bool_int ⟨.int (b2i k + i), H, I.tok _, ⟨_, rfl⟩, q⟩
theorem op_sub_bi : OpR X (binaryOp .Sub) (fun x y H Q => ∃ k i, x = .bl k ∧ y = .int i ∧ Q (.int (b2i k - i)) H) := by
  intro pins s σ H x y v u Q I rx ry h
  obtain ⟨k, i, rfl, rfl, q⟩ := h
  obtain ⟨t, rfl⟩ := ry
  cases rx
  exact PySem.IntBool.sub_bool_int ⟨.int (b2i k - i), H, I.tok _, ⟨_, rfl⟩, q⟩
theorem op_sub_ib : OpR X (binaryOp .Sub) (fun x y H Q => ∃ i k, x = .int i ∧ y = .bl k ∧ Q (.int (i - b2i k)) H) := by
  intro pins s σ H x y v u Q I rx ry h
  obtain ⟨i, k, rfl, rfl, q⟩ := h
  obtain ⟨t, rfl⟩ := rx
  cases ry
  exact PySem.IntBool.sub_int_bool ⟨.int (i - b2i k), H, I.tok _, ⟨_, rfl⟩, q⟩
theorem op_good_sub : OpR X (binaryOp .Sub) (fun x y H Q => Good X.K .sub [x, y] H Q) := OpR.imp (OpR.or op_sub (OpR.or op_sub_ib op_sub_bi)) fun x y H Q q => by
  obtain ⟨Z, ds, d, zh, b, e, q⟩ := q
  obtain ⟨d1, d2, rfl, b1, b2⟩ := b.two
  change evSub d1 d2 = some d at e
  cases d1 <;> cases d2 <;> simp only [evSub, reduceCtorEq, Option.some.injEq] at e
  case int.int =>
    subst e
    exact .inl ⟨_, _, b1.int, b2.int, q _ _ _ [] (Fsh.refl zh) rel_int⟩
  case int.bl =>
    subst e
    exact .inr (.inl ⟨_, _, b1.int, b2.bl, q _ _ _ [] (Fsh.refl zh) rel_int⟩)
  case bl.int =>
    subst e
    exact .inr (.inr ⟨_, _, b1.bl, b2.int, q _ _ _ [] (Fsh.refl zh) rel_int⟩)
theorem op_good_fdiv : OpR X (binaryOp .FloorDiv) (fun x y H Q => Good X.K .fdiv [x, y] H Q) := OpR.imp (OpR.or op_fdiv op_fdivW) fun x y H Q q => by
  obtain ⟨Z, ds, d, zh, b, e, q⟩ := q
  obtain ⟨d1, d2, rfl, b1, b2⟩ := b.two
  change evFdiv d1 d2 = some d at e
  cases d1 <;> cases d2 <;> simp [evFdiv] at e
  obtain ⟨⟨c0, c⟩, rfl⟩ := e
  rcases c with c | c
  · exact .inl ⟨_, _, b1.int, b2.int, ⟨c0, c⟩, q _ _ _ [] (Fsh.refl zh) rel_int⟩
  · exact .inr ⟨_, _, b1.int, b2.int, ⟨c0, c⟩, q _ _ _ [] (Fsh.refl zh) rel_int⟩
theorem op_good_mod : OpR X (binaryOp .Mod) (fun x y H Q => Good X.K .mod [x, y] H Q) := OpR.imp op_mod fun x y H Q q => by
  obtain ⟨Z, ds, d, zh, b, e, q⟩ := q
  obtain ⟨d1, d2, rfl, b1, b2⟩ := b.two
  change evMod d1 d2 = some d at e
  cases d1 <;> cases d2 <;> simp [evMod] at e
  obtain ⟨c, rfl⟩ := e
  exact ⟨_, _, b1.int, b2.int, c, q _ _ _ [] (Fsh.refl zh) rel_int⟩
theorem op_good_pow : OpR X (binaryOp .Pow) (fun x y H Q => Good X.K .pow [x, y] H Q) := OpR.imp op_pow fun x y H Q q => by
  obtain ⟨Z, ds, d, zh, b, e, q⟩ := q
  obtain ⟨d1, d2, rfl, b1, b2⟩ := b.two
  change evPow d1 d2 = some d at e
  cases d1 <;> cases d2 <;> simp [evPow] at e
  obtain ⟨⟨c1, c2, c3⟩, rfl⟩ := e
  exact ⟨_, _, b1.int, b2.int, ⟨c1, c2, by omega⟩, q _ _ _ [] (Fsh.refl zh) rel_int⟩
theorem op_good_add : OpR X (binaryOp .Add) (fun x y H Q => Good X.K .add [x, y] H Q) := OpR.imp (OpR.or (OpR.or op_add_ib op_add_bi) (OpR.or op_add (OpR.or op_add_str (OpR.or op_catA op_cat)))) fun x y H Q q => by
  obtain ⟨Z, ds, d, zh, b, e, q⟩ := q
  obtain ⟨d1, d2, rfl, b1, b2⟩ := b.two
  change evAdd d1 d2 = some d at e
  by_cases hib : (∃ i k, d1 = .int i ∧ d2 = .bl k) ∨ ∃ k i, d1 = .bl k ∧ d2 = .int i
  · rcases hib with ⟨i, k, rfl, rfl⟩ | ⟨k, i, rfl, rfl⟩
    · simp only [evAdd, Option.some.injEq] at e
      subst e
      exact .inl (.inl ⟨_, _, b1.int, b2.bl, q _ _ _ [] (Fsh.refl zh) rel_int⟩)
    · simp only [evAdd, Option.some.injEq] at e
      subst e
      exact .inl (.inr ⟨_, _, b1.bl, b2.int, q _ _ _ [] (Fsh.refl zh) rel_int⟩)
  refine .inr ?_
  cases d1 <;> cases d2 <;> simp [evAdd] at e
  case int.bl i k => exact absurd (.inl ⟨i, k, rfl, rfl⟩) hib
  case bl.int k i => exact absurd (.inr ⟨k, i, rfl, rfl⟩) hib
  case int.int => 
    subst e
    exact .inl ⟨_, _, b1.int, b2.int, q _ _ _ [] (Fsh.refl zh) rel_int⟩
  case str.str => 
    obtain ⟨c, rfl⟩ := e
    refine .inr (.inl ⟨_, _, b1.str, b2.str, by rw [toS_len, toS_len, ← line_eq]; exact c, q _ _ _ [] (Fsh.refl zh) (rel_str' (toS_app _ _))⟩)
  case tup.tup xs ys =>
    obtain ⟨⟨c, p1, p2⟩, rfl⟩ := e
    obtain ⟨a, vs, f, rfl, s1, r1⟩ := b1.tup
    obtain ⟨a', vs', f', rfl, s2, r2⟩ := b2.tup
    have l1 := r1.len
    have l2 := r2.len
    refine .inr (.inr (.inl ⟨a, a', vs, vs', rfl, rfl, s1, s2, by rw [l1, l2, ← line_eq]; exact c, fun e => ?_, fun _ e => ?_, fun _ _ p hp => ?_⟩))
    · subst e
      cases xs with
      | nil => exact q _ _ _ [] (Fsh.refl zh) ⟨a', vs', rfl, s2, r2.nil_of p2⟩
      | cons x xs => simp at l1
    · subst e
      cases ys with
      | nil => exact q _ _ _ [] (Fsh.refl zh) ⟨a, vs, rfl, s1, by rw [List.append_nil]; exact r1.nil_of p1⟩
      | cons x xs => simp at l2
    · obtain ⟨F, R⟩ := new_tup (xs := xs ++ ys) zh hp (RelL.app r1 r2) (by rw [plainL_app, p1, p2]; rfl)
      exact q _ _ _ [] F R
  case lst.lst o xs o' ys =>
    obtain ⟨⟨n1, n2, c, p1, p2⟩, rfl⟩ := e
    obtain ⟨a, vs, f, rfl, s1, r1, h1⟩ := b1.lst
    obtain ⟨a', vs', f', rfl, s2, r2, h2⟩ := b2.lst
    have l1 := r1.len
    have l2 := r2.len
    refine .inr (.inr (.inr ⟨a, a', vs, vs', rfl, rfl, h1 n1, h2 n2, by rw [l1, l2, ← line_eq]; exact c, fun p hp => ?_⟩))
    obtain ⟨F, R⟩ := new_lst (xs := xs ++ ys) zh hp (RelL.app r1 r2) (by rw [plainL_app, p1, p2]; rfl)
    exact q _ _ _ _ F R
end
end GN
end

section
set_option linter.all false
set_option maxRecDepth 100000
set_option maxHeartbeats 400000
namespace GN
open PySem PySem.Spec PyProof.Rows L2
theorem kxK_inj : ∀ {a b : Kx}, kxK a = kxK b → a = b
  | .i a, .i b, h => by simp only [kxK] at h; cases h; rfl
  | .s a, .s b, h => by simp only [kxK] at h; injection h with h; rw [toS_inj h]
  | .i a, .s b, h => by simp only [kxK] at h; cases h
  | .s a, .i b, h => by simp only [kxK] at h; cases h
theorem kAt_val : ∀ {ks : List Ky} {kvs : List (Key × V)} {k : Kx} {j : Nat}, kyOk ks (kvs.map (·.1)) → kAt ks k = some j → ∃ v, (kvs.map (·.2))[j]? = some v ∧ valV kvs (kxK k) = some v
  | [], kvs, k, j, h, e => by simp [kAt] at e
  | .t _ :: _, kvs, k, j, h, e => h.elim
  | .x y :: ks, [], k, j, h, e => by obtain ⟨ks', h, _⟩ := h; cases h
  | .x y :: ks, p :: kvs, k, j, h, e => by
    obtain ⟨ks', h1, h2⟩ := h
    simp only [List.map_cons, List.cons.injEq] at h1
    obtain ⟨h1, rfl⟩ := h1
    simp only [kAt, List.findIdx?_cons] at e
    by_cases hy : y = k
    · subst hy
      simp at e
      subst e
      exact ⟨p.2, rfl, valV_pos h1⟩
    · have : ¬ (Ky.x y = Ky.x k) := fun e => hy (by injection e)
      simp [this] at e
      obtain ⟨j', e1, rfl⟩ := e
      obtain ⟨v, q1, q2⟩ := kAt_val (k := k) h2 e1
      refine ⟨v, by simpa using q1, ?_⟩
      rw [valV_neg (fun e => hy (kxK_inj (h1.symm.trans e)))]
      exact q2
theorem kAt_none : ∀ {ks : List Ky} {l : List Key} {k : Kx}, kyOk ks l → kAt ks k = none → kxK k ∉ l
  | [], l, k, h, e => by rw [show l = [] from h]; simp
  | .x y :: r, l, k, h, e => by
    obtain ⟨l', rfl, h⟩ := h
    simp only [kAt, List.findIdx?_cons] at e
    by_cases hy : y = k
    · subst hy; simp at e
    · have : ¬ (Ky.x y = Ky.x k) := fun e => hy (by injection e)
      simp [this] at e
      intro hm
      rcases List.mem_cons.mp hm with e2 | hm
      · exact hy (kxK_inj e2.symm)
      · exact kAt_none (ks := r) (k := k) h (by simpa [kAt] using e) hm
  | .t _ :: _, l, _, h, _ => h.elim
theorem kAt_valN {ks : List Ky} {kvs : List (Key × V)} {k : Kx} (h : kyOk ks (kvs.map (·.1))) : (valV kvs (kxK k)).isSome = (kAt ks k).isSome := by
  cases e : kAt ks k with
  | some n => obtain ⟨v, _, q⟩ := kAt_val h e; rw [q]; rfl
  | none =>
    have := kAt_none h e
    rw [← valV_any]
    rw [List.any_eq_false.mpr]
    · rfl
    · intro kv hm hc
      exact this (List.mem_map.mpr ⟨kv, hm, by simpa using hc⟩)
section
variable {X : Cx}
theorem op_in_dct (hu : X.A.units + 64 < cLine) : OpR X (compareOp .In) (fun x y H Q => ∃ a o, y = .ref a ∧ DGet H a x o ∧ Q (.bl o.isSome) H) := by
  intro pins s σ H x y v u Q I rx ry ⟨a, o, e, g, q⟩
  subst e
  obtain rfl : u = Value.ref a := ry
  exact d_in (by omega) I g rx fun s' I' => ⟨.bl o.isSome, H, I', rfl, q⟩
theorem op_notIn_dct (hu : X.A.units + 64 < cLine) : OpR X (compareOp .NotIn) (fun x y H Q => ∃ a o, y = .ref a ∧ DGet H a x o ∧ Q (.bl (!o.isSome)) H) := by
  intro pins s σ H x y v u Q I rx ry ⟨a, o, e, g, q⟩
  subst e
  obtain rfl : u = Value.ref a := ry
  exact d_notIn (by omega) I g rx fun s' I' => ⟨.bl (!o.isSome), H, I', rfl, q⟩
end
/-- what a dict holds at a value -/
theorem Bor.dget {K : PySem.W.Frag} {Z : Addr → Prop} {H : Hp} {o : Ow} {ks : List Ky} {vs : List D} {e : D} {x y : V} {k : Kx} (h : Bor K Z H (.dct o ks vs) y) (hb : Bor K Z H e x) (he : kxOf e = some k) : ∃ a r, y = .ref a ∧ DGet H a x r ∧ r.isSome = (kAt ks k).isSome := by
  have hx : x = kV (kxK k) := by
    cases e <;> simp [kxOf] at he
    · subst he; exact hb.int
    · subst he; exact hb.str
  obtain ⟨f, h⟩ := h
  cases o with
  | own =>
    obtain ⟨a, kvs, f', rfl, h1, h2, _, _⟩ := h
    exact ⟨a, _, rfl, by rw [hx]; exact DGet.k h1, kAt_valN h2⟩
  | shr =>
    obtain ⟨a, kvs, rfl, h1, _, h2, _, _⟩ := h
    exact ⟨a, _, rfl, by rw [hx]; exact DGet.k h1, kAt_valN h2⟩
  | ext => exact h.elim
end GN
end

section
set_option linter.all false
set_option maxRecDepth 100000
set_option maxHeartbeats 2000000
namespace GN
open PySem PySem.Spec PyProof.Rows L2
mutual
theorem er_ok : ∀ (d : D) (n : Nat), d.deep ≤ n → n < 1000 → (er d).plain = true ∧ (er d).depth ≤ n
  | .non, n, _, _ => ⟨rfl, Nat.zero_le _⟩
  | .bl _, n, _, _ => ⟨rfl, Nat.zero_le _⟩
  | .int _, n, _, _ => ⟨rfl, Nat.zero_le _⟩
  | .str _, n, _, _ => ⟨rfl, Nat.zero_le _⟩
  | .tup xs, n, h, hn => by
    simp only [D.deep] at h
    obtain ⟨a, b⟩ := erL_ok xs (n - 1) (by omega) (by omega)
    refine ⟨by simpa [er, PyData.plain] using a, ?_⟩
    simp only [er, PyData.depth]; omega
  | .lst o xs, n, h, hn => by
    simp only [D.deep] at h
    obtain ⟨a, b⟩ := erL_ok xs (n - 1) (by omega) (by omega)
    refine ⟨by simpa [er, PyData.plain] using a, ?_⟩
    simp only [er, PyData.depth]; omega
  | .dct _ _ _, n, h, hn => by simp only [D.deep] at h; omega
theorem erL_ok : ∀ (xs : List D) (n : Nat), D.deepL xs ≤ n → n < 1000 → PyData.plainAll (erL xs) = true ∧ PyData.depthAll (erL xs) ≤ n
  | [], n, _, _ => ⟨rfl, Nat.zero_le _⟩
  | x :: r, n, h, hn => by
    simp only [D.deepL] at h
    obtain ⟨a, b⟩ := er_ok x n (by omega) hn
    obtain ⟨c, d⟩ := erL_ok r n (by omega) hn
    refine ⟨by simp [erL, PyData.plainAll, a, c], ?_⟩
    simp only [erL, PyData.depthAll]; omega
end
theorem beq_toS (a b : List Nat) : (toS a == toS b) = (a == b) := by
  by_cases h : a = b
  · subst h; simp
  · rw [beq_eq_false_iff_ne.mpr h]
    exact beq_eq_false_iff_ne.mpr fun e => h (toS_inj e)
mutual
theorem eqv_er : ∀ (d e : D), PyData.eqv (er d) (er e) = D.eqv d e
  | .non, e => by cases e <;> simp [er, D.eqv, PyData.eqv]
  | .bl a, e => by cases e <;> simp [er, D.eqv, PyData.eqv]
  | .int a, e => by cases e <;> simp [er, D.eqv, PyData.eqv]
  | .str a, e => by cases e <;> simp [er, D.eqv, PyData.eqv, beq_toS]
  | .tup xs, e => by
    cases e
    case tup ys => simp only [er, D.eqv, PyData.eqv]; exact eqvL_er xs ys
    all_goals simp [er, D.eqv, PyData.eqv]
  | .lst o xs, e => by
    cases e
    case lst o ys => simp only [er, D.eqv, PyData.eqv]; exact eqvL_er xs ys
    all_goals simp [er, D.eqv, PyData.eqv]
  | .dct _ _ _, e => by cases e <;> simp [er, D.eqv, PyData.eqv]
theorem eqvL_er : ∀ (xs ys : List D), PyData.eqvAll (erL xs) (erL ys) = D.eqvL xs ys
  | [], ys => by cases ys <;> simp [erL, D.eqvL, PyData.eqvAll]
  | x :: xs, ys => by
    cases ys with
    | nil => simp [erL, D.eqvL, PyData.eqvAll]
    | cons y ys => simp only [erL, D.eqvL, PyData.eqvAll]; rw [eqv_er x y, eqvL_er xs ys]
end
theorem any_er (a : D) : ∀ (xs : List D), ((erL xs).any fun z => PyData.eqv z (er a)) = xs.any fun x => x.eqv a
  | [] => rfl
  | x :: r => by simp only [erL, List.any_cons, eqv_er, any_er a r]
section
variable {K : PySem.W.Frag} {Z : Addr → Prop} {H : Hp}
mutual
theorem Rel.dp : ∀ (d : D) (v : V) (f : List Addr), Rel K Z H d v f → d.deep < 1000 → Dp K H v (er d)
  | .non, v, f, h, _ => by rw [h.1]; exact .non
  | .bl _, v, f, h, _ => by rw [h.1]; exact .bl _
  | .int _, v, f, h, _ => by rw [h.1]; exact .int _
  | .str _, v, f, h, _ => by rw [h.1]; exact .str _
  | .tup xs, v, f, h, p => by
    obtain ⟨a, vs, rfl, s, r⟩ := h
    simp only [D.deep] at p
    exact .tup s (RelL.dp xs vs f r (by omega))
  | .lst o xs, v, f, h, p => by
    obtain ⟨a, vs, f, rfl, s, r, _⟩ := Bor.lst ⟨f, h⟩
    simp only [D.deep] at p
    exact .lst s (RelL.dp xs vs f r (by omega))
  | .dct _ _ _, v, f, h, p => by simp only [D.deep] at p; omega
theorem RelL.dp : ∀ (ds : List D) (vs : List V) (f : List Addr), RelL K Z H ds vs f → D.deepL ds < 1000 → DpAll K H vs (erL ds)
  | [], vs, f, h, _ => by rw [h.1]; exact .nil
  | d :: ds, vs, f, h, p => by
    obtain ⟨v, r, f1, f2, rfl, rfl, h1, h2⟩ := h
    simp only [D.deepL] at p
    exact .cons (Rel.dp d v f1 h1 (by omega)) (RelL.dp ds r f2 h2 (by omega))
end
theorem Bor.dp {d : D} {v : V} (h : Bor K Z H d v) (p : d.deep < 1000) : Dp K H v (er d) := by
  obtain ⟨f, h⟩ := h
  exact Rel.dp d v f h p
end
section
variable {X : Cx}
def rEqP (K : PySem.W.Frag) (n : Bool) : R2 := fun x y H Q => ∃ d e : D, Dp K H x (er d) ∧ Dp K H y (er e) ∧ d.deep ≤ 60 ∧ e.deep ≤ 60 ∧ Q (.bl (if n then !d.eqv e else d.eqv e)) H
theorem op_eqP (hu : X.A.units + 64 < cLine) : OpR X (compareOp .Eq) (rEqP X.K false) := by
  intro pins s σ H x y v u Q I rx ry h
  obtain ⟨d, e, hd, he, sd, se, q⟩ := h
  obtain ⟨as, r1⟩ := Dp.reads I _ x v hd rx
  obtain ⟨bs, r2⟩ := Dp.reads I _ y u he ry
  obtain ⟨p1, l1⟩ := er_ok d 60 sd (by omega)
  obtain ⟨p2, l2⟩ := er_ok e 60 se (by omega)
  refine SeqAt.eq_plain r1 r2 p1 p2 (by omega) ?_
  rw [eqv_er]
  exact ⟨.bl _, H, I, rfl, q⟩
theorem op_neP (hu : X.A.units + 64 < cLine) : OpR X (compareOp .NotEq) (rEqP X.K true) := by
  intro pins s σ H x y v u Q I rx ry h
  obtain ⟨d, e, hd, he, sd, se, q⟩ := h
  obtain ⟨as, r1⟩ := Dp.reads I _ x v hd rx
  obtain ⟨bs, r2⟩ := Dp.reads I _ y u he ry
  obtain ⟨p1, l1⟩ := er_ok d 60 sd (by omega)
  obtain ⟨p2, l2⟩ := er_ok e 60 se (by omega)
  refine SeqAt.ne_plain r1 r2 p1 p2 (by omega) ?_
  rw [eqv_er]
  exact ⟨.bl _, H, I, rfl, q⟩
theorem gives_gt_bi (a : Bool) (b : Int) (u : Tok) : Gives (Builtin.«int.__gt__» ⟨[.bool a, .int b u], []⟩) (.val (Value.bool ((fun x1 x2 => decide (x1 > x2)) (if a = true then (1 : Int) else 0) b))) :=
  .of_wp fun M A E s Q h => by obtain ⟨hp, g, d, tk, os⟩ := s; wp_walk; exact ⟨_, rfl, h⟩
theorem gt_bool_int {prog : Program} {w : World} {A : Around} {E : Value → Shared → Prop} {s : Shared} {Q : Value → Shared → Prop} (a : Bool) (b : Int) (u : Tok) (h : Q (.bool ((fun x1 x2 => decide (x1 > x2)) (if a = true then (1 : Int) else 0) b)) s) : wpAny (model prog w) A (compareOp .Gt (.bool a) (.int b u)) Q E s :=
  SeqAt.rc_left_or (op := .Gt) (Ta := "bool") (Tb := "int") rfl (typeIs_int s b u) (by decide) F.sub_int_bool F.slot_bool_gt (call_gives F.slot_bool_gt rfl F.entry_int_gt (F.args_int_gt_2 _ _) (gives_gt_bi a b u) ⟨nofun, h⟩) (.inl rfl)
theorem op_gt_bi : OpR X (compareOp .Gt) (fun x y H Q => ∃ k i, x = .bl k ∧ y = .int i ∧ Q (.bl (decide (i < if k = true then (1 : Int) else 0))) H) := by
  intro pins s σ H x y v u Q I rx ry h
  obtain ⟨k, i, rfl, rfl, q⟩ := h
  obtain ⟨t, rfl⟩ := ry
  cases rx
  refine gt_bool_int k i t ?_
  exact ⟨.bl _, H, I, rfl, q⟩
def rEqE (K : PySem.W.Frag) (n : Bool) : R2 := fun x y H Q => ∃ p p' vs, x = .ref p ∧ y = .ref p' ∧ ((SqL K H p vs ∧ SqL K H p' []) ∨ (SqT K H p vs ∧ SqT K H p' [])) ∧ Q (.bl (if n then !vs.isEmpty else vs.isEmpty)) H
theorem op_eqE (hu : X.A.units + 64 < cLine) : OpR X (compareOp .Eq) (rEqE X.K false) := by
  intro pins s σ H x y v u Q I rx ry h
  obtain ⟨p, p', vs, rfl, rfl, hq, q⟩ := h
  cases rx
  cases ry
  have hu' : X.A.units < cLine := by omega
  rcases hq with ⟨h1, h2⟩ | ⟨h1, h2⟩
  · obtain ⟨its, r1, l1, z1⟩ := I.list h1
    obtain ⟨its2, r2, l2, z2⟩ := I.list h2
    cases r2
    cases r1 with
    | nil => exact SeqAt.RcAt.lists (e := fun _ => true) l1.isList l2.isList rfl hu' (fun j h _ => absurd h (Nat.not_lt_zero _)) _ _ _ _ ⟨.bl _, H, I, rfl, q⟩
    | cons a b => exact SeqAt.RcAt.lists_lengths l1.isList l2.isList (by simp) hu' _ _ _ _ ⟨.bl _, H, I, rfl, q⟩
  · obtain ⟨its, r1, l1, z1⟩ := I.tuple h1
    obtain ⟨its2, r2, l2, z2⟩ := I.tuple h2
    cases r2
    have := SeqAt.RcAt.tuples (e := fun _ => true) l1 l2 hu' (fun j _ h => absurd h (Nat.not_lt_zero _))
    cases r1 with
    | nil => exact this _ _ _ _ ⟨.bl _, H, I, rfl, q⟩
    | cons a b => exact this _ _ _ _ ⟨.bl _, H, I, (by simp; rfl), q⟩
theorem op_neE (hu : X.A.units + 64 < cLine) : OpR X (compareOp .NotEq) (rEqE X.K true) := by
  intro pins s σ H x y v u Q I rx ry h
  obtain ⟨p, p', vs, rfl, rfl, hq, q⟩ := h
  cases rx
  cases ry
  have hu' : X.A.units < cLine := by omega
  rcases hq with ⟨h1, h2⟩ | ⟨h1, h2⟩
  · obtain ⟨its, r1, l1, z1⟩ := I.list h1
    obtain ⟨its2, r2, l2, z2⟩ := I.list h2
    cases r2
    cases r1 with
    | nil => exact SeqAt.RcNeAt.lists (e := fun _ => true) l1.isList l2.isList rfl hu' (fun j h _ => absurd h (Nat.not_lt_zero _)) _ _ _ _ ⟨.bl _, H, I, rfl, q⟩
    | cons a b => exact SeqAt.RcNeAt.lists_lengths l1.isList l2.isList (by simp) hu' _ _ _ _ ⟨.bl _, H, I, rfl, q⟩
  · obtain ⟨its, r1, l1, z1⟩ := I.tuple h1
    obtain ⟨its2, r2, l2, z2⟩ := I.tuple h2
    cases r2
    have := SeqAt.RcNeAt.tuples (e := fun _ => true) l1 l2 hu' (fun j _ h => absurd h (Nat.not_lt_zero _))
    cases r1 with
    | nil => exact this _ _ _ _ ⟨.bl _, H, I, rfl, q⟩
    | cons a b => exact this _ _ _ _ ⟨.bl _, H, I, (by simp; rfl), q⟩
theorem eE_of {K : PySem.W.Frag} {Z : Addr → Prop} {H : Hp} {d e : D} {x y : V} (b1 : Bor K Z H d x) (b2 : Bor K Z H e y) (h : eE d e = true) : ∃ p p' vs, x = .ref p ∧ y = .ref p' ∧ ((SqL K H p vs ∧ SqL K H p' []) ∨ (SqT K H p vs ∧ SqT K H p' [])) ∧ d.eqv e = vs.isEmpty := by
  unfold eE at h
  split at h
  · rename_i xs
    obtain ⟨p, vs, f, rfl, s1, r1⟩ := b1.tup
    obtain ⟨p', vs', f', rfl, s2, r2⟩ := b2.tup
    have l1 := r1.len
    have l2 := r2.len
    cases vs' with
    | cons a b => simp at l2
    | nil =>
      refine ⟨p, p', vs, rfl, rfl, .inr ⟨s1, s2⟩, ?_⟩
      cases xs <;> cases vs <;> simp_all [D.eqv, D.eqvL]
  · rename_i o xs p0
    obtain ⟨p, vs, f, rfl, s1, r1, _⟩ := b1.lst
    obtain ⟨p', vs', f', rfl, s2, r2, _⟩ := b2.lst
    have l1 := r1.len
    have l2 := r2.len
    cases vs' with
    | cons a b => simp at l2
    | nil =>
      refine ⟨p, p', vs, rfl, rfl, .inl ⟨s1, s2⟩, ?_⟩
      cases xs <;> cases vs <;> simp_all [D.eqv, D.eqvL]
  · cases h
def rInP (K : PySem.W.Frag) (n : Bool) : R2 := fun x y H Q => ∃ (d : D) (xs : List D), Dp K H x (er d) ∧ (Dp K H y (.list (erL xs)) ∨ Dp K H y (.tuple (erL xs))) ∧ d.deep ≤ 60 ∧ D.deepL xs ≤ 59 ∧ Q (.bl (if n then !xs.any fun z => z.eqv d else xs.any fun z => z.eqv d)) H
theorem op_inP (hu : X.A.units + 64 < cLine) : OpR X (compareOp .In) (rInP X.K false) := by
  intro pins s σ H x y v u Q I rx ry h
  obtain ⟨d, xs, hd, he, sd, se, q⟩ := h
  obtain ⟨as, r1⟩ := Dp.reads I _ x v hd rx
  obtain ⟨p1, l1⟩ := er_ok d 60 sd (by omega)
  obtain ⟨p2, l2⟩ := erL_ok xs 59 se (by omega)
  rcases he with he | he
  · obtain ⟨bs, r2⟩ := Dp.reads I _ y u he ry
    refine SeqAt.in_list_data r2 r1 p2 p1 (by omega) ?_
    rw [any_er]
    exact ⟨.bl _, H, I, rfl, q⟩
  · obtain ⟨bs, r2⟩ := Dp.reads I _ y u he ry
    refine SeqAt.in_tuple_data r2 r1 p2 p1 (by omega) ?_
    rw [any_er]
    exact ⟨.bl _, H, I, rfl, q⟩
theorem op_notInP (hu : X.A.units + 64 < cLine) : OpR X (compareOp .NotIn) (rInP X.K true) := by
  intro pins s σ H x y v u Q I rx ry h
  obtain ⟨d, xs, hd, he, sd, se, q⟩ := h
  obtain ⟨as, r1⟩ := Dp.reads I _ x v hd rx
  obtain ⟨p1, l1⟩ := er_ok d 60 sd (by omega)
  obtain ⟨p2, l2⟩ := erL_ok xs 59 se (by omega)
  rcases he with he | he
  · obtain ⟨bs, r2⟩ := Dp.reads I _ y u he ry
    refine SeqAt.notIn_list_data r2 r1 p2 p1 (by omega) ?_
    rw [any_er]
    exact ⟨.bl _, H, I, rfl, q⟩
  · obtain ⟨bs, r2⟩ := Dp.reads I _ y u he ry
    refine SeqAt.notIn_tuple_data r2 r1 p2 p1 (by omega) ?_
    rw [any_er]
    exact ⟨.bl _, H, I, rfl, q⟩
def cmpOf : Cop → CmpOp
  | .eq => .Eq | .ne => .NotEq | .lt => .Lt | .le => .LtE | .gt => .Gt | .ge => .GtE | .isin => .In | .notin => .NotIn
theorem strLt_eq : ∀ (a b : List Nat), strLt a b = decide (a < b)
  | a, [] => by cases a <;> simp [strLt]
  | [], b :: r => by simp [strLt]
  | a :: r, b :: s => by
    simp only [strLt, List.cons_lt_cons_iff, strLt_eq r s]
    by_cases h : a = b
    · subst h; simp
    · simp [h]
theorem evIn_cases {a b : D} {c : Bool} (h : evIn a b = some c) : (∃ o xs, b = .lst o xs ∧ a.deep ≤ 60 ∧ D.deepL xs ≤ 59 ∧ c = xs.any fun x => x.eqv a) ∨ (∃ xs, b = .tup xs ∧ a.deep ≤ 60 ∧ D.deepL xs ≤ 59 ∧ c = xs.any fun x => x.eqv a) ∨
    (∃ k s, a = .str [k] ∧ b = .str s ∧ c = s.contains k) ∨ ∃ o ks vs k, b = .dct o ks vs ∧ kxOf a = some k ∧ c = (kAt ks k).isSome := by
  unfold evIn at h
  cases b <;> simp at h
  case lst o xs => obtain ⟨⟨h1, h2⟩, rfl⟩ := h; exact .inl ⟨o, xs, rfl, h1, h2, by simp⟩
  case tup xs => obtain ⟨⟨h1, h2⟩, rfl⟩ := h; exact .inr (.inl ⟨xs, rfl, h1, h2, by simp⟩)
  case str s =>
    split at h
    · rename_i k; simp at h; exact .inr (.inr (.inl ⟨k, s, rfl, rfl, by simp [h]⟩))
    · cases h
  case dct o ks vs =>
    cases o <;> simp at h
    · obtain ⟨k, h1, h2⟩ := h
      exact .inr (.inr (.inr ⟨_, ks, vs, k, rfl, h1, by rw [← h2]⟩))
    · obtain ⟨k, h1, h2⟩ := h
      exact .inr (.inr (.inr ⟨_, ks, vs, k, rfl, h1, by rw [← h2]⟩))
theorem mem_toS {k : Nat} {s : List Nat} : decide (k ∈ (toS s).cps.toList) = s.contains k := by
  rw [toS_cps, List.contains_eq_mem]
theorem op_good_cmp (hu : X.A.units + 64 < cLine) (c : Cop) : OpR X (compareOp (cmpOf c)) (fun x y H Q => Good X.K (.cmp c) [x, y] H Q) := by
  cases c
  case eq =>
    refine OpR.imp (OpR.or (op_eqP hu) (op_eqE hu)) fun x y H Q q => ?_
    obtain ⟨Z, ds, d, zh, b, e, q⟩ := q
    obtain ⟨d1, d2, rfl, b1, b2⟩ := b.two
    change evCmp .eq d1 d2 = some d at e
    simp only [evCmp, Option.ite_none_right_eq_some, Option.some.injEq] at e
    obtain ⟨c, rfl⟩ := e
    rcases c with ⟨c1, c2⟩ | c
    · exact .inl ⟨d1, d2, b1.dp (by omega), b2.dp (by omega), c1, c2, q _ _ _ [] (Fsh.refl zh) rel_bl⟩
    · obtain ⟨p, p', vs, e1, e2, h, e3⟩ := eE_of b1 b2 c
      refine .inr ⟨p, p', vs, e1, e2, h, ?_⟩
      rw [e3] at q
      exact q _ _ _ [] (Fsh.refl zh) rel_bl
  case ne =>
    refine OpR.imp (OpR.or (op_neP hu) (op_neE hu)) fun x y H Q q => ?_
    obtain ⟨Z, ds, d, zh, b, e, q⟩ := q
    obtain ⟨d1, d2, rfl, b1, b2⟩ := b.two
    change evCmp .ne d1 d2 = some d at e
    simp only [evCmp, Option.ite_none_right_eq_some, Option.some.injEq] at e
    obtain ⟨c, rfl⟩ := e
    rcases c with ⟨c1, c2⟩ | c
    · exact .inl ⟨d1, d2, b1.dp (by omega), b2.dp (by omega), c1, c2, q _ _ _ [] (Fsh.refl zh) rel_bl⟩
    · obtain ⟨p, p', vs, e1, e2, h, e3⟩ := eE_of b1 b2 c
      refine .inr ⟨p, p', vs, e1, e2, h, ?_⟩
      rw [e3] at q
      exact q _ _ _ [] (Fsh.refl zh) rel_bl
  case lt =>
    refine OpR.imp (OpR.or op_lt op_lt_str) fun x y H Q q => ?_
    obtain ⟨Z, ds, d, zh, b, e, q⟩ := q
    obtain ⟨d1, d2, rfl, b1, b2⟩ := b.two
    change evCmp .lt d1 d2 = some d at e
    cases d1 <;> cases d2 <;> simp [evCmp] at e
    case int.int => subst e; exact .inl ⟨_, _, b1.int, b2.int, q _ _ _ [] (Fsh.refl zh) rel_bl⟩
    case str.str a b => subst e; exact .inr ⟨_, _, b1.str, b2.str, by rw [toS_cps, toS_cps, ← strLt_eq]; exact q _ _ _ [] (Fsh.refl zh) rel_bl⟩
  case le =>
    refine OpR.imp op_le fun x y H Q q => ?_
    obtain ⟨Z, ds, d, zh, b, e, q⟩ := q
    obtain ⟨d1, d2, rfl, b1, b2⟩ := b.two
    change evCmp .le d1 d2 = some d at e
    cases d1 <;> cases d2 <;> simp [evCmp] at e
    subst e; exact ⟨_, _, b1.int, b2.int, q _ _ _ [] (Fsh.refl zh) rel_bl⟩
  case gt =>
    refine OpR.imp (OpR.or op_gt op_gt_bi) fun x y H Q q => ?_
    obtain ⟨Z, ds, d, zh, b, e, q⟩ := q
    obtain ⟨d1, d2, rfl, b1, b2⟩ := b.two
    change evCmp .gt d1 d2 = some d at e
    cases d1 <;> cases d2 <;> simp only [evCmp, reduceCtorEq, Option.some.injEq] at e
    case int.int =>
      subst e; exact .inl ⟨_, _, b1.int, b2.int, q _ _ _ [] (Fsh.refl zh) rel_bl⟩
    case bl.int =>
      subst e; exact .inr ⟨_, _, b1.bl, b2.int, q _ _ _ [] (Fsh.refl zh) rel_bl⟩
  case ge =>
    refine OpR.imp op_ge fun x y H Q q => ?_
    obtain ⟨Z, ds, d, zh, b, e, q⟩ := q
    obtain ⟨d1, d2, rfl, b1, b2⟩ := b.two
    change evCmp .ge d1 d2 = some d at e
    cases d1 <;> cases d2 <;> simp [evCmp] at e
    subst e; exact ⟨_, _, b1.int, b2.int, q _ _ _ [] (Fsh.refl zh) rel_bl⟩
  case isin =>
    refine OpR.imp ((OpR.or op_in_sign (op_inP hu)).or (op_in_dct hu)) fun x y H Q q => ?_
    obtain ⟨Z, ds, d, zh, b, e, q⟩ := q
    obtain ⟨d1, d2, rfl, b1, b2⟩ := b.two
    change (evIn d1 d2).map (fun c => D.bl c) = some d at e
    obtain ⟨c, e2, rfl⟩ := Option.map_eq_some_iff.mp e
    rcases evIn_cases e2 with ⟨o, xs, rfl, h1, h2, rfl⟩ | ⟨xs, rfl, h1, h2, rfl⟩ | ⟨k, s, rfl, rfl, rfl⟩ | ⟨o, ks, vs, k, rfl, hk, rfl⟩
    · exact .inl (.inr ⟨d1, xs, b1.dp (by omega), .inl (b2.dp (by simp only [D.deep]; omega)), h1, h2, q _ _ _ [] (Fsh.refl zh) rel_bl⟩)
    · exact .inl (.inr ⟨d1, xs, b1.dp (by omega), .inr (b2.dp (by simp only [D.deep]; omega)), h1, h2, q _ _ _ [] (Fsh.refl zh) rel_bl⟩)
    · exact .inl (.inl ⟨k, toS s, b1.str, b2.str, by rw [mem_toS]; exact q _ _ _ [] (Fsh.refl zh) rel_bl⟩)
    · obtain ⟨a, r, e1, e2, e3⟩ := b2.dget b1 hk
      exact .inr ⟨a, r, e1, e2, by rw [e3]; exact q _ _ _ [] (Fsh.refl zh) rel_bl⟩
  case notin =>
    refine OpR.imp ((OpR.or op_notIn_sign (op_notInP hu)).or (op_notIn_dct hu)) fun x y H Q q => ?_
    obtain ⟨Z, ds, d, zh, b, e, q⟩ := q
    obtain ⟨d1, d2, rfl, b1, b2⟩ := b.two
    change (evIn d1 d2).map (fun c => D.bl (!c)) = some d at e
    obtain ⟨c, e2, rfl⟩ := Option.map_eq_some_iff.mp e
    rcases evIn_cases e2 with ⟨o, xs, rfl, h1, h2, rfl⟩ | ⟨xs, rfl, h1, h2, rfl⟩ | ⟨k, s, rfl, rfl, rfl⟩ | ⟨o, ks, vs, k, rfl, hk, rfl⟩
    · exact .inl (.inr ⟨d1, xs, b1.dp (by omega), .inl (b2.dp (by simp only [D.deep]; omega)), h1, h2, q _ _ _ [] (Fsh.refl zh) rel_bl⟩)
    · exact .inl (.inr ⟨d1, xs, b1.dp (by omega), .inr (b2.dp (by simp only [D.deep]; omega)), h1, h2, q _ _ _ [] (Fsh.refl zh) rel_bl⟩)
    · exact .inl (.inl ⟨k, toS s, b1.str, b2.str, by rw [mem_toS]; exact q _ _ _ [] (Fsh.refl zh) rel_bl⟩)
    · obtain ⟨a, r, e1, e2, e3⟩ := b2.dget b1 hk
      exact .inr ⟨a, r, e1, e2, by rw [e3]; exact q _ _ _ [] (Fsh.refl zh) rel_bl⟩
end
end GN
end

section
set_option linter.all false
set_option maxRecDepth 100000
set_option maxHeartbeats 2000000
namespace GN
open PySem PySem.Spec PyProof.Rows L2
section
variable {K : PySem.W.Frag} {Z : Addr → Prop} {H : Hp}
theorem ixAt_eq (n : Nat) (i : Int) : ixN n i = ixAt n i := by
  unfold ixN ixAt
  split
  · rfl
  · split <;> split <;> first | rfl | omega
theorem atI_eq {α : Type} (xs : List α) (i : Int) : atI xs i = at_ xs i := by
  unfold atI at_; rw [ixAt_eq]
theorem sEnd_eq (n d : Nat) (o : Option Int) : HT.sIx n d o = sEnd n d o := by cases o <;> rfl
theorem RelL.at_ {ds : List D} {vs : List V} {f : List Addr} {i : Int} {d : D} (h : RelL K Z H ds vs f) (q : GN.at_ ds i = some d) : ∃ v f', atI vs i = some v ∧ Rel K Z H d v f' ∧ ∀ a ∈ f', a ∈ f := by
  rw [atI_eq]
  unfold GN.at_ at q ⊢
  rw [h.len]
  obtain ⟨j, e1, e2⟩ := Option.bind_eq_some_iff.mp q
  rw [e1]
  exact h.get e2
theorem RelL.drop : ∀ (n : Nat) {ds : List D} {vs : List V} {f : List Addr}, RelL K Z H ds vs f → ∃ f', RelL K Z H (ds.drop n) (vs.drop n) f'
  | 0, _, _, f, h => ⟨f, h⟩
  | n + 1, [], vs, f, h => by rw [h.1]; exact ⟨[], rfl, rfl⟩
  | n + 1, d :: ds, vs, f, h => by
    obtain ⟨v, r, f1, f2, rfl, rfl, h1, h2⟩ := h
    exact RelL.drop n h2
theorem RelL.take : ∀ (n : Nat) {ds : List D} {vs : List V} {f : List Addr}, RelL K Z H ds vs f → ∃ f', RelL K Z H (ds.take n) (vs.take n) f'
  | 0, _, _, f, h => ⟨[], rfl, rfl⟩
  | n + 1, [], vs, f, h => by rw [h.1]; exact ⟨[], rfl, rfl⟩
  | n + 1, d :: ds, vs, f, h => by
    obtain ⟨v, r, f1, f2, rfl, rfl, h1, h2⟩ := h
    obtain ⟨f', h3⟩ := RelL.take n h2
    exact ⟨f1 ++ f', v, r.take n, f1, f', rfl, rfl, h1, h3⟩
theorem RelL.cut {ds : List D} {vs : List V} {f : List Addr} {lo hi : Option Int} (h : RelL K Z H ds vs f) : ∃ f', RelL K Z H (GN.cut ds lo hi) (cutV vs lo hi) f' := by
  unfold GN.cut cutV
  rw [h.len, sEnd_eq, sEnd_eq]
  obtain ⟨f1, h1⟩ := RelL.drop (sEnd ds.length 0 lo) h
  exact RelL.take _ h1
theorem plainL_drop : ∀ (n : Nat) (xs : List D), D.plainL xs = true → D.plainL (xs.drop n) = true
  | 0, _, h => h
  | n + 1, [], h => h
  | n + 1, x :: r, h => by simp only [D.plainL, Bool.and_eq_true] at h; exact plainL_drop n r h.2
theorem plainL_take : ∀ (n : Nat) (xs : List D), D.plainL xs = true → D.plainL (xs.take n) = true
  | 0, _, h => rfl
  | n + 1, [], h => h
  | n + 1, x :: r, h => by simp only [D.plainL, Bool.and_eq_true] at h; simp only [List.take_succ_cons, D.plainL, Bool.and_eq_true]; exact ⟨h.1, plainL_take n r h.2⟩
theorem plainL_cut {xs : List D} {lo hi : Option Int} (h : D.plainL xs = true) : D.plainL (cut xs lo hi) = true := plainL_take _ _ (plainL_drop _ _ h)
theorem cut_whole {xs : List D} {lo hi : Option Int} (h : sEnd xs.length 0 lo = 0 ∧ sEnd xs.length xs.length hi = xs.length) : cut xs lo hi = xs := by
  unfold cut; rw [h.1, h.2]; simp
theorem cut_toS (s : List Nat) (lo hi : Option Int) : cutS (toS s) lo hi = toS (cut s lo hi) := by
  unfold cutS cut toS
  simp only [sEnd_eq, Str.length, List.size_toArray]
end
section
variable {X : Cx}
theorem IxR.imp {r r' : R2} (h : IxR X r) (i : ∀ x y H Q, r' x y H Q → r x y H Q) : IxR X r' := fun a b p s σ H x y v u Q I e f q => h a b p s σ H x y v u Q I e f (i x y H Q q)
theorem CallR.imp {f : Value} {r r' : List V → Hp → VK → Prop} (h : CallR X f r) (i : ∀ x H Q, r' x H Q → r x H Q) : CallR X f r' := fun p s σ H xs us Q I e q => h p s σ H xs us Q I e (i xs H Q q)
theorem UnR.imp {f : Value → Sem Value} {r r' : V → Hp → VK → Prop} (h : UnR X f r) (i : ∀ x H Q, r' x H Q → r x H Q) : UnR X f r' := fun p s σ H x v Q I e q => h p s σ H x v Q I e (i x H Q q)
theorem SlR.imp {r r' : V → Option Int → Option Int → Hp → VK → Prop} (h : L2.SlR X r) (i : ∀ x lo hi H Q, r' x lo hi H Q → r x lo hi H Q) : L2.SlR X r' := fun p s σ H x v vl vu lo hi sl Q I e a b c q => h p s σ H x v vl vu lo hi sl Q I e a b c (i x lo hi H Q q)
theorem ix_dct (hu : X.A.units + 64 < cLine) : IxR X (fun x y H Q => ∃ a v, x = .ref a ∧ DGet H a y (some v) ∧ Q v H) := by
  intro value slice pins s σ H x y v u Q I rx ry h hs
  obtain ⟨a, r, rfl, g, q⟩ := h
  obtain rfl : v = Value.ref a := rx
  have ht : s.TypeIs (.ref a) "dict" := by
    rcases g with ⟨kvs, k, e, ey, l⟩ | ⟨kvs, k, b, e, ey, eb, l⟩
    · obtain ⟨z, hd, vs, rel, dd⟩ := dk_rd I.hok e
      exact dd.mapOf.typeIs
    · obtain ⟨z, hd, xs, rel, dd⟩ := dt_rd I.hok e
      exact dd.typeIs
  exact tail_any ht slot_dict_getitem.lookup (d_getItem (by omega) I g ry fun w' s' I' r' => ⟨r, H, I', r', q⟩) hs
/-- an item, whatever it is -/
def GoodI (K : PySem.W.Frag) (x y : V) (H : Hp) (Q : VK) : Prop := ∃ Z d e r, Bor K Z H d x ∧ Bor K Z H e y ∧ evItem d e = some r ∧ ∀ v, Bor K Z H r v → Q v H
theorem ix_good (hu : X.A.units + 64 < cLine) : IxR X (fun x y H Q => GoodI X.K x y H Q) := IxR.imp (ix_seq.or (ix_dct hu)) fun x y H Q q => by
  obtain ⟨Z, d, e, r, b1, b2, h, q⟩ := q
  have dk : ∀ {ks : List Ky} {xs : List D} {a : Addr} {kvs : List (Key × V)} {f' : List Addr} {k : Kx} {j : Nat}, x = .ref a → H a = some (.dK kvs) → kyOk ks (kvs.map (·.1)) → RelL X.K Z H xs (kvs.map (·.2)) f' → kxOf e = some k → kAt ks k = some j → xs[j]? = some r → (∃ a v, x = .ref a ∧ DGet H a y (some v) ∧ Q v H) := by
    intro ks xs a kvs f' k j ex hH hk hr he hj hx
    obtain ⟨v, q1, q2⟩ := kAt_val hk hj
    obtain ⟨v', f2, e1, e2, _⟩ := hr.get hx
    rw [q1] at e1; cases e1
    have hy : y = kV (kxK k) := by
      cases e <;> simp [kxOf] at he
      · subst he; exact b2.int
      · subst he; exact b2.str
    refine ⟨a, v, ex, ?_, q v ⟨f2, e2⟩⟩
    rw [hy, ← q2]
    exact DGet.k hH
  cases d
  case dct o ks xs =>
    cases o with
    | own =>
      simp only [evItem] at h
      obtain ⟨k, h1, h2⟩ := Option.bind_eq_some_iff.mp h
      obtain ⟨j, h3, h4⟩ := Option.bind_eq_some_iff.mp h2
      obtain ⟨f, a, kvs, f', e1, e2, e3, _, e5⟩ := b1
      exact .inr (dk e1 e2 e3 e5 h1 h3 h4)
    | shr =>
      simp only [evItem] at h
      obtain ⟨k, h1, h2⟩ := Option.bind_eq_some_iff.mp h
      obtain ⟨j, h3, h4⟩ := Option.bind_eq_some_iff.mp h2
      obtain ⟨f, a, kvs, e1, e2, _, e3, e5, _⟩ := b1
      exact .inr (dk e1 e2 e3 e5 h1 h3 h4)
    | ext => simp [evItem] at h
  all_goals cases e <;> simp [evItem] at h
  case lst.int o xs i =>
    obtain ⟨a, vs, f, rfl, s, r1, _⟩ := b1.lst
    obtain ⟨v, f', e1, e2, _⟩ := r1.at_ h
    exact .inl (.inl ⟨a, vs, i, v, rfl, b2.int, s, e1, q v ⟨f', e2⟩⟩)
  case tup.int xs i =>
    obtain ⟨a, vs, f, rfl, s, r1⟩ := b1.tup
    obtain ⟨v, f', e1, e2, _⟩ := r1.at_ h
    exact .inl (.inr (.inl ⟨a, vs, i, v, rfl, b2.int, s, e1, q v ⟨f', e2⟩⟩))
  case str.int s i =>
    obtain ⟨l, c, h, rfl⟩ := h
    refine .inl (.inr (.inr ⟨toS s, i, c, b1.str, b2.int, by rw [toS_len, ← line_eq]; exact l, by rw [atI_eq, toS_cps]; exact h, q _ ⟨[], ?_⟩⟩))
    exact ⟨rfl, rfl⟩
theorem ix_prim (hu : X.A.units + 64 < cLine) : IxR X (fun x y H Q => Good X.K .idx [x, y] H Q) := IxR.imp (ix_good hu) fun x y H Q q => by
  obtain ⟨Z, ds, d, zh, b, e, q⟩ := q
  obtain ⟨d1, d2, rfl, b1, b2⟩ := b.two
  change evIdx d1 d2 = some d at e
  unfold evIdx at e
  obtain ⟨r, h1, h2⟩ := Option.bind_eq_some_iff.mp e
  split at h2
  · rename_i pl
    cases h2
    refine ⟨Z, d1, d2, d, b1, b2, h1, fun v bv => ?_⟩
    obtain ⟨f, r⟩ := bv
    have := Rel.plain d v f r pl
    subst this
    exact q _ _ _ [] (Fsh.refl zh) r
  · cases h2
def GoodS (K : PySem.W.Frag) (x : V) (lo hi : Option Int) (H : Hp) (Q : VK) : Prop := ∃ Z d r, (∀ b, Z b → H b ≠ none) ∧ Bor K Z H d x ∧ evSlc d lo hi = some r ∧ ∀ v H1 Z1 f, Fsh Z H Z1 H1 f → Rel K Z1 H1 r v f → Q v H1
theorem sl_good : L2.SlR X (fun x lo hi H Q => GoodS X.K x lo hi H Q) := SlR.imp (L2.SlR.or sl_list (L2.SlR.or sl_tupA sl_str)) fun x lo hi H Q q => by
  obtain ⟨Z, d, r, zh, b, e, q⟩ := q
  cases d <;> simp [evSlc] at e
  case lst o xs =>
    obtain ⟨pl, rfl⟩ := e
    obtain ⟨a, vs, f, rfl, s, r1, _⟩ := b.lst
    obtain ⟨f', r2⟩ := r1.cut (lo := lo) (hi := hi)
    refine .inl ⟨a, vs, rfl, s, fun p hp => ?_⟩
    obtain ⟨F, R⟩ := new_lst zh hp r2 (plainL_cut pl)
    exact q _ _ _ _ F R
  case tup xs =>
    obtain ⟨pl, rfl⟩ := e
    obtain ⟨a, vs, f, rfl, s, r1⟩ := b.tup
    obtain ⟨f', r2⟩ := r1.cut (lo := lo) (hi := hi)
    refine .inr (.inl ⟨a, vs, rfl, s, fun w => ?_, fun _ p hp => ?_⟩)
    · rw [sEnd_eq, sEnd_eq, r1.len] at w
      rw [cut_whole w] at q
      exact q _ _ _ [] (Fsh.refl zh) ⟨a, vs, rfl, s, r1.nil_of pl⟩
    · obtain ⟨F, R⟩ := new_tup zh hp r2 (plainL_cut pl)
      exact q _ _ _ _ F R
  case str s =>
    obtain ⟨l, rfl⟩ := e
    exact .inr (.inr ⟨toS s, b.str, by rw [toS_len, ← line_eq]; exact l, q _ _ _ [] (Fsh.refl zh) (rel_str' (cut_toS s lo hi))⟩)
theorem un_neg_good : UnR X (unaryOp .USub) (fun x H Q => Good X.K .neg [x] H Q) := UnR.imp un_neg fun x H Q q => by
  obtain ⟨Z, ds, d, zh, b, e, q⟩ := q
  obtain ⟨d1, rfl, b1⟩ := b.one
  change evNeg d1 = some d at e
  cases d1 <;> simp [evNeg] at e
  subst e
  exact ⟨_, b1.int, q _ _ _ [] (Fsh.refl zh) rel_int⟩
theorem mulOk_len {x : Str} {n : Int} (h1 : -(2 ^ 63) ≤ n) (h2 : n < 2 ^ 63) (h : x.length * n.toNat ≤ sizeLine) : MulOk x n := by
  rw [sizeLine_eq] at h
  by_cases h0 : x.length = 0
  · refine ⟨?_, fun _ e => ?_, fun _ e => ?_⟩
    · have a1 : ¬ n < -(2 ^ 63 : Int) := by omega
      have a2 : ¬ n ≥ (2 ^ 63 : Int) := by omega
      rw [decide_eq_false a1, decide_eq_false a2]; rfl
    · simp [h0] at e
    · simp [h0] at e
  · have hn : n.toNat ≤ 16777216 := Nat.le_trans (Nat.le_mul_of_pos_left n.toNat (by omega)) h
    by_cases hneg : n < 0
    · refine ⟨?_, fun e => absurd e (by omega), fun e => absurd e (by omega)⟩
      have a1 : ¬ n < -(2 ^ 63 : Int) := by omega
      have a2 : ¬ n ≥ (2 ^ 63 : Int) := by omega
      rw [decide_eq_false a1, decide_eq_false a2]; rfl
    · exact mulOk_of x.length n.toNat (Nat.le_refl _) (by omega) h1 hn h
theorem mul_toS (a : List Nat) (k : Int) : Txt.mul (toS a) k = toS (List.replicate k.toNat a).flatten := by
  have hf : ∀ (n : Nat) (acc : Array Nat), (List.replicate n a.toArray).foldl (· ++ ·) acc = acc ++ (List.replicate n a).flatten.toArray := fun n => by
    induction n with
    | zero => intro acc; simp
    | succ n ih => intro acc; rw [List.replicate_succ, List.replicate_succ, List.foldl_cons, ih, List.flatten_cons]; simp [Array.append_assoc]
  unfold Txt.mul
  by_cases h1 : k < 1
  · rw [if_pos h1, show k.toNat = 0 by omega]; rfl
  · rw [if_neg h1]
    split
    · rename_i c
      simp only [Bool.or_eq_true, beq_iff_eq] at c
      rcases c with c | c
      · subst c; simp [toS]
      · rw [toS_len] at c
        have : a = [] := List.length_eq_zero_iff.mp c
        subst this
        rw [List.flatten_replicate_nil]
    · simp only [toS]
      rw [hf]; simp
theorem op_mul_str : OpR X (binaryOp .Mult) (fun x y H Q => ∃ i k, x = .str i ∧ y = .int k ∧ -(2 ^ 63) ≤ k ∧ k < 2 ^ 63 ∧ i.length * k.toNat ≤ sizeLine ∧ Q (.str (Txt.mul i k)) H) := by
  intro pins s σ H x y v u Q I rx ry h
  obtain ⟨i, k, rfl, rfl, h1, h2, hz, q⟩ := h
  obtain ⟨t, rfl⟩ := rx
  obtain ⟨t', rfl⟩ := ry
  exact SB.mul (mulOk_len h1 h2 hz) (fun t' tk => ⟨.str (Txt.mul i k), H, I.tok _, ⟨_, rfl⟩, q⟩)
/-- is None and the like -/
theorem bor_non {K : PySem.W.Frag} {Z : Addr → Prop} {H : Hp} {d : D} {v : V} (h : Bor K Z H d v) : decide (v = .non) = isNon d := by
  cases d
  case non => rw [h.non]; rfl
  case bl => rw [h.bl]; rfl
  case int => rw [h.int]; rfl
  case str => rw [h.str]; rfl
  case tup => obtain ⟨a, vs, f, rfl, _⟩ := h.tup; rfl
  case lst => obtain ⟨a, vs, f, rfl, _⟩ := h.lst; rfl
  case dct o ks vs => 
    obtain ⟨f, h⟩ := h
    cases o
    · obtain ⟨a, _, _, rfl, _⟩ := h; rfl
    · obtain ⟨a, _, rfl, _⟩ := h; rfl
    · exact h.elim
end
end GN
end

section
set_option linter.all false
set_option maxRecDepth 100000
set_option maxHeartbeats 2000000
namespace GN
open PySem PySem.Spec PyProof.Rows L2
section
variable {X : Cx}
/-- one value in -/
theorem good1 {K : PySem.W.Frag} {p : Prim} {vs : List V} {H : Hp} {Q : VK} {f : D → Option D} (hp : ∀ ds, evPrim p ds = (match ds with | [a] => f a | _ => none)) (q : Good K p vs H Q) :
    ∃ Z a d x, (∀ b, Z b → H b ≠ none) ∧ vs = [x] ∧ Bor K Z H a x ∧ f a = some d ∧ ∀ v H1 Z1 f, Fsh Z H Z1 H1 f → Rel K Z1 H1 d v f → Q v H1 := by
  obtain ⟨Z, ds, d, zh, b, e, q⟩ := q
  rw [hp] at e
  split at e
  · rename_i a
    obtain ⟨x, r, rfl, b1, b2⟩ := b
    cases b2
    exact ⟨Z, a, d, x, zh, rfl, b1, e, q⟩
  · cases e
theorem good2 {K : PySem.W.Frag} {p : Prim} {vs : List V} {H : Hp} {Q : VK} {f : D → D → Option D} (hp : ∀ ds, evPrim p ds = (match ds with | [a, b] => f a b | _ => none)) (q : Good K p vs H Q) :
    ∃ Z a b d x y, (∀ b, Z b → H b ≠ none) ∧ vs = [x, y] ∧ Bor K Z H a x ∧ Bor K Z H b y ∧ f a b = some d ∧ ∀ v H1 Z1 f, Fsh Z H Z1 H1 f → Rel K Z1 H1 d v f → Q v H1 := by
  obtain ⟨Z, ds, d, zh, b, e, q⟩ := q
  rw [hp] at e
  split at e
  · rename_i a c
    obtain ⟨x, r, rfl, b1, y, r2, rfl, b2, b3⟩ := b
    cases b3
    exact ⟨Z, a, c, d, x, y, zh, rfl, b1, b2, e, q⟩
  · cases e
theorem lenD_good : CallR X (.builtin "len") (fun xs H Q => Good X.K .len xs H Q) := CallR.imp (CallR.or call_len_seq (CallR.or call_len_str call_lenD)) fun xs H Q q0 => by
  obtain ⟨Z, a, d, x, zh, rfl, b, e, q⟩ := good1 (f := evLen) (fun ds => by unfold evPrim; split <;> simp_all) q0
  cases a <;> simp [evLen] at e
  case lst o ys =>
    subst e
    obtain ⟨p, vs, f, rfl, s, r, _⟩ := b.lst
    exact .inl ⟨p, vs, rfl, .inl s, by rw [r.len]; exact q _ _ _ [] (Fsh.refl zh) rel_int⟩
  case tup ys =>
    subst e
    obtain ⟨p, vs, f, rfl, s, r⟩ := b.tup
    exact .inl ⟨p, vs, rfl, .inr s, by rw [r.len]; exact q _ _ _ [] (Fsh.refl zh) rel_int⟩
  case str s =>
    obtain ⟨l, rfl⟩ := e
    exact .inr (.inl ⟨toS s, by rw [b.str], by rw [toS_len, ← line_eq]; exact l, by rw [toS_len]; exact q _ _ _ [] (Fsh.refl zh) rel_int⟩)
  case dct o ks vs =>
    subst e
    obtain ⟨f, h⟩ := b
    cases o
    · obtain ⟨p, kvs, f', rfl, s, _, _, r⟩ := h
      refine .inr (.inr ⟨p, kvs, rfl, s, ?_⟩)
      have := r.len
      rw [List.length_map] at this
      rw [this]; exact q _ _ _ [] (Fsh.refl zh) rel_int
    · obtain ⟨p, kvs, rfl, s, _, _, r, _⟩ := h
      refine .inr (.inr ⟨p, kvs, rfl, s, ?_⟩)
      have := r.len
      rw [List.length_map] at this
      rw [this]; exact q _ _ _ [] (Fsh.refl zh) rel_int
    · exact h.elim
theorem signs_rel {K : PySem.W.Frag} {Z : Addr → Prop} {H : Hp} : ∀ s : List Nat, RelL K Z H (s.map fun c => D.str [c]) (s.map fun c => V.str (toS [c])) []
  | [] => ⟨rfl, rfl⟩
  | c :: r => ⟨_, _, [], [], rfl, rfl, ⟨rfl, rfl⟩, signs_rel r⟩
theorem signs_plain : ∀ s : List Nat, D.plainL (s.map fun c => D.str [c]) = true
  | [] => rfl
  | c :: r => by simp [D.plainL, D.plain, signs_plain r]
theorem signs_vals {s : List Nat} {acc : Array Value} (h : ItemsOf (SignAt (toS s)) acc (toS s).cps.size) : Vals (s.map fun c => V.str (toS [c])) acc.toList := by
  have hl : acc.toList.length = s.length := by rw [Array.length_toList, h.1]; simp [toS]
  have key : ∀ (s : List Nat) (l : List Value), l.length = s.length → (∀ (i : Nat) (v : Value), l[i]? = some v → ∃ (c : Nat) (u : Tok), s[i]? = some c ∧ v = Value.str (toS [c]) u) → Vals (s.map fun c => V.str (toS [c])) l := by
    intro s
    induction s with
    | nil => intro l hl _; rw [List.length_eq_zero_iff.mp hl]; exact .nil
    | cons c r ih =>
      intro l hl hv
      cases l with
      | nil => simp at hl
      | cons v l =>
        obtain ⟨c', u, e1, e2⟩ := hv 0 v rfl
        simp at e1; subst e1
        exact .cons ⟨u, e2⟩ (ih l (by simpa using hl) fun i w hw => by simpa using hv (i + 1) w (by simpa using hw))
  refine key s _ hl fun i v hv => ?_
  obtain ⟨c, u, e1, e2⟩ := h.2 i v (by simpa using hv)
  exact ⟨c, u, by simpa [toS] using e1, e2⟩
theorem tuple_str (hc : X.calm = true) : CallR X (.type "tuple") (fun xs H Q => ∃ s, xs = [.str (toS s)] ∧ s.length ≤ line ∧ ∀ p, H p = none → Q (.ref p) (upd H p (.tup (s.map fun c => V.str (toS [c]))))) := by
  intro pins z σ H xs us Q I r h
  obtain ⟨s, rfl, hl, q⟩ := h
  obtain ⟨u, rfl, t, rfl⟩ := vals1 r
  have hz : (toS s).cps.size ≤ sizeLine := by simpa [toS, ← line_eq] using hl
  refine call_tuple_str (I.ok.hd hc) (toS s) t (fun h' tk acc hk hi => ?_) hz
  have I2 : Inv X pins σ H { z with heap := h', toks := tk } := I.kept (t' := tk) hk
  refine ⟨.ref h'.objs.size, _, I2.laid (t' := tk) (o := .tup (s.map fun c => V.str (toS [c]))) (fun b ob q => Heap.get?_push_of_some _ q) (Nat.le_refl _) ?_, rfl, q _ (I2.hok.fresh (Nat.le_refl _))⟩
  have e : acc = acc.toList.toArray := by simp
  rw [e]
  exact ⟨by simpa [← line_eq] using hl, acc.toList, signs_vals hi, IsTup.new _ _⟩
theorem list_str (hc : X.calm = true) : CallR X (.type "list") (fun xs H Q => ∃ s, xs = [.str (toS s)] ∧ s.length ≤ line ∧ ∀ p, H p = none → Q (.ref p) (upd H p (.lst (s.map fun c => V.str (toS [c]))))) := by
  intro pins z σ H xs us Q I r h
  obtain ⟨s, rfl, hl, q⟩ := h
  obtain ⟨u, rfl, t, rfl⟩ := vals1 r
  have hz : (toS s).cps.size ≤ sizeLine := by simpa [toS, ← line_eq] using hl
  refine call_list_str (I.ok.hd hc) (toS s) t (fun h' tk acc c hk hS hi => ?_) hz
  refine ⟨.ref z.heap.objs.size, _, I.laid (t' := tk) (o := .lst (s.map fun c => V.str (toS [c]))) hk (Nat.le_refl _) ?_, rfl, q _ (I.hok.fresh (Nat.le_refl _))⟩
  exact ⟨by simpa [← line_eq] using hl, acc.toList, c, signs_vals hi, by simpa using hS⟩
theorem tuple_good (hc : X.calm = true) : CallR X (.type "tuple") (fun xs H Q => Good X.K .tuple xs H Q) := CallR.imp (CallR.or call_tuple_of (tuple_str hc)) fun xs H Q q0 => by
  obtain ⟨Z, a, d, x, zh, rfl, b, e, q⟩ := good1 (f := evTuple) (fun ds => by unfold evPrim; split <;> simp_all) q0
  cases a <;> simp [evTuple] at e
  case lst o ys =>
    obtain ⟨pl, rfl⟩ := e
    obtain ⟨p, vs, f, rfl, s, r, _⟩ := b.lst
    refine .inl ⟨p, vs, rfl, .inl ⟨s, fun l hl => ?_⟩⟩
    obtain ⟨F, R⟩ := new_tup zh hl r pl
    exact q _ _ _ _ F R
  case tup ys =>
    obtain ⟨pl, rfl⟩ := e
    obtain ⟨p, vs, f, rfl, s, r⟩ := b.tup
    exact .inl ⟨p, vs, rfl, .inr ⟨s, q _ _ _ [] (Fsh.refl zh) ⟨p, vs, rfl, s, r.nil_of pl⟩⟩⟩
  case str s =>
    obtain ⟨hl, rfl⟩ := e
    refine .inr ⟨s, by rw [b.str], hl, fun p hp => ?_⟩
    obtain ⟨F, R⟩ := new_tup zh hp (signs_rel s) (signs_plain s)
    exact q _ _ _ _ F R
theorem list_good (hc : X.calm = true) : CallR X (.type "list") (fun xs H Q => Good X.K .list xs H Q) := CallR.imp (CallR.or call_list_of (list_str hc)) fun xs H Q q0 => by
  obtain ⟨Z, a, d, x, zh, rfl, b, e, q⟩ := good1 (f := evList) (fun ds => by unfold evPrim; split <;> simp_all) q0
  cases a <;> simp [evList] at e
  case lst o ys =>
    obtain ⟨pl, rfl⟩ := e
    obtain ⟨p, vs, f, rfl, s, r, _⟩ := b.lst
    refine .inl ⟨p, vs, rfl, .inl s, fun l hl => ?_⟩
    obtain ⟨F, R⟩ := new_lst zh hl r pl
    exact q _ _ _ _ F R
  case tup ys =>
    obtain ⟨pl, rfl⟩ := e
    obtain ⟨p, vs, f, rfl, s, r⟩ := b.tup
    refine .inl ⟨p, vs, rfl, .inr s, fun l hl => ?_⟩
    obtain ⟨F, R⟩ := new_lst zh hl r pl
    exact q _ _ _ _ F R
  case str s =>
    obtain ⟨hl, rfl⟩ := e
    refine .inr ⟨s, by rw [b.str], hl, fun p hp => ?_⟩
    obtain ⟨F, R⟩ := new_lst zh hp (signs_rel s) (signs_plain s)
    exact q _ _ _ _ F R
theorem digit_int : ∀ c : Nat, 48 ≤ c ∧ c ≤ 57 → PySem.intText? (toS [c]) = some ((c - 48 : Nat) : Int) := by
  intro c h
  have : c = 48 ∨ c = 49 ∨ c = 50 ∨ c = 51 ∨ c = 52 ∨ c = 53 ∨ c = 54 ∨ c = 55 ∨ c = 56 ∨ c = 57 := by omega
  rcases this with rfl | rfl | rfl | rfl | rfl | rfl | rfl | rfl | rfl | rfl <;> decide +kernel
theorem int_good : CallR X (.type "int") (fun xs H Q => Good X.K .int xs H Q) := CallR.imp (CallR.or call_int1 call_int_str) fun xs H Q q0 => by
  obtain ⟨Z, a, d, x, zh, rfl, b, e, q⟩ := good1 (f := evInt) (fun ds => by unfold evPrim; split <;> simp_all) q0
  unfold evInt at e
  split at e
  · rename_i i; cases e
    exact .inl (.inl ⟨i, by rw [b.int], q _ _ _ [] (Fsh.refl zh) rel_int⟩)
  · rename_i i; cases e
    exact .inl (.inr ⟨i, by rw [b.bl], q _ _ _ [] (Fsh.refl zh) rel_int⟩)
  · rename_i c
    split at e
    · rename_i hc; cases e
      exact .inr ⟨toS [c], _, by rw [b.str], digit_int c hc, by rw [toS_len]; show 1 ≤ 640; omega, q _ _ _ [] (Fsh.refl zh) rel_int⟩
    · cases e
  · cases e
theorem preSum_list (ns : List Int) : ∀ n, preSum (fun i => ns.getD i 0) n = (ns.take n).sum
  | 0 => by simp [preSum]
  | n + 1 => by
    rw [preSum, preSum_list ns n]
    rcases Nat.lt_or_ge n ns.length with h | h
    · rw [List.take_succ, List.sum_append, List.getElem?_eq_getElem h]; simp [h]
    · rw [List.take_of_length_le h, List.take_of_length_le (by omega)]; simp [h]
theorem cr_sumT (hc : X.calm = true) : CallR X (.builtin "sum") (fun vs H Q => ∃ (a : Addr) (ns : List Int), vs = [V.ref a] ∧ SqT X.K H a (ns.map V.int) ∧ Q (.int ns.sum) H) := by
  intro pins s σ H vs us Q I r h
  obtain ⟨a, ns, rfl, hs, q⟩ := h
  obtain ⟨its, rv, hl, _⟩ := I.tuple hs
  rw [Vals.ref1 r]
  have hT : s.heap.IsTuple a its.toArray := hl
  refine PySem.call_sum_walkAnyS (PySem.W.iter_tupleW (A := X.A.in1) (I.ok.hd hc) hT fun s₂ e2 W st hfp hw hk => ?_)
  refine ⟨_, _, _, _, _, _, _, fun i => ns.getD i 0, rfl, W, st, hfp, fun i v hv => ?_, fun s' t' m => ?_⟩
  · have h2 : its[i]? = some v := by simpa using hv
    have : ∀ {ns : List Int} {its : List Value}, Vals (ns.map V.int) its → ∀ i v, its[i]? = some v → ∃ t, v = Value.int (ns.getD i 0) t := by
      intro ns
      induction ns with
      | nil => intro its h i v e; cases h; simp at e
      | cons n r ih =>
        intro its h i v e
        cases h with
        | cons h1 h2 =>
          cases i with
          | zero => simp at e; subst e; obtain ⟨t, rfl⟩ := h1; exact ⟨t, rfl⟩
          | succ i => simpa using ih h2 i v (by simpa using e)
    exact this rv i v h2
  · obtain ⟨h', tk, rfl, hk'⟩ := PySem.W.moved_old e2 rfl m
    refine ⟨.int _, H, I.kept hk', ⟨_, rfl⟩, ?_⟩
    rw [preSum_list, List.take_of_length_le (by have := rv.length; simp at this; simp; omega)]
    exact q
theorem sum_good (hc : X.calm = true) : CallR X (.builtin "sum") (fun xs H Q => Good X.K .sum xs H Q) := CallR.imp (CallR.or (cr_sum hc) (cr_sumT hc)) fun xs H Q q0 => by
  obtain ⟨Z, a, d, x, zh, rfl, b, e, q⟩ := good1 (f := evSum) (fun ds => by unfold evPrim; split <;> simp_all) q0
  cases a <;> simp [evSum] at e
  case tup ys =>
    obtain ⟨l, e, rfl⟩ := e
    obtain ⟨p, vs, f, rfl, s, r⟩ := b.tup
    obtain ⟨rfl, _⟩ := r.ints e
    exact .inr ⟨p, l, rfl, s, q _ _ _ [] (Fsh.refl zh) rel_int⟩
  obtain ⟨l, e, rfl⟩ := e
  obtain ⟨p, vs, f, rfl, s, r, _⟩ := b.lst
  obtain ⟨rfl, _⟩ := r.ints e
  exact .inl ⟨p, l, rfl, s, q _ _ _ [] (Fsh.refl zh) rel_int⟩
theorem foldmax : ∀ (r : List Int) (x : Int), r.foldl (fun a b => if b > a then b else a) x ∈ x :: r ∧ ∀ y ∈ x :: r, y ≤ r.foldl (fun a b => if b > a then b else a) x
  | [], x => by simp
  | y :: r, x => by
    obtain ⟨h1, h2⟩ := foldmax r (if y > x then y else x)
    rw [List.foldl_cons]
    refine ⟨?_, fun z hz => ?_⟩
    · rcases List.mem_cons.mp h1 with h | h
      · rw [h]; split <;> simp
      · simp [h]
    · have h3 := h2 (if y > x then y else x) (by simp)
      rcases List.mem_cons.mp hz with e | hz
      · subst e; generalize List.foldl _ _ r = M at h3 ⊢; split at h3 <;> omega
      · rcases List.mem_cons.mp hz with e | hz
        · subst e; generalize List.foldl _ _ r = M at h3 ⊢; split at h3 <;> omega
        · exact h2 z (by simp [hz])
theorem foldmin : ∀ (r : List Int) (x : Int), r.foldl (fun a b => if b < a then b else a) x ∈ x :: r ∧ ∀ y ∈ x :: r, r.foldl (fun a b => if b < a then b else a) x ≤ y
  | [], x => by simp
  | y :: r, x => by
    obtain ⟨h1, h2⟩ := foldmin r (if y < x then y else x)
    rw [List.foldl_cons]
    refine ⟨?_, fun z hz => ?_⟩
    · rcases List.mem_cons.mp h1 with h | h
      · rw [h]; split <;> simp
      · simp [h]
    · have h3 := h2 (if y < x then y else x) (by simp)
      rcases List.mem_cons.mp hz with e | hz
      · subst e; generalize List.foldl _ _ r = M at h3 ⊢; split at h3 <;> omega
      · rcases List.mem_cons.mp hz with e | hz
        · subst e; generalize List.foldl _ _ r = M at h3 ⊢; split at h3 <;> omega
        · exact h2 z (by simp [hz])
theorem max_good (hc : X.calm = true) : CallR X (.builtin "max") (fun xs H Q => Good X.K .max xs H Q) := CallR.imp (cr_max hc) fun xs H Q q0 => by
  obtain ⟨Z, a, d, x, zh, rfl, b, e, q⟩ := good1 (f := evMax) (fun ds => by unfold evPrim; split <;> simp_all) q0
  obtain ⟨o, xs, rfl⟩ : ∃ o xs, a = .lst o xs := by
    cases a <;> first | exact ⟨_, _, rfl⟩ | (simp [evMax] at e)
  obtain ⟨l, e1, e2⟩ := Option.bind_eq_some_iff.mp e
  obtain ⟨m, em, rfl⟩ := Option.map_eq_some_iff.mp e2
  obtain ⟨p, vs, f, rfl, s, rr, _⟩ := b.lst
  obtain ⟨rfl, _⟩ := rr.ints e1
  cases l with
  | nil => cases em
  | cons y r =>
    simp only [maxL, Option.some.injEq] at em
    subst em
    obtain ⟨h1, h2⟩ := foldmax r y
    refine ⟨p, y :: r, rfl, s, by simp, fun m hm hy => ?_⟩
    have : m = r.foldl (fun a b => if b > a then b else a) y := Int.le_antisymm (h2 m hm) (hy _ h1)
    rw [this]
    exact q _ _ _ [] (Fsh.refl zh) rel_int
theorem min_good (hc : X.calm = true) : CallR X (.builtin "min") (fun xs H Q => Good X.K .min xs H Q) := CallR.imp (cr_min hc) fun xs H Q q0 => by
  obtain ⟨Z, a, d, x, zh, rfl, b, e, q⟩ := good1 (f := evMin) (fun ds => by unfold evPrim; split <;> simp_all) q0
  obtain ⟨o, xs, rfl⟩ : ∃ o xs, a = .lst o xs := by
    cases a <;> first | exact ⟨_, _, rfl⟩ | (simp [evMin] at e)
  obtain ⟨l, e1, e2⟩ := Option.bind_eq_some_iff.mp e
  obtain ⟨m, em, rfl⟩ := Option.map_eq_some_iff.mp e2
  obtain ⟨p, vs, f, rfl, s, rr, _⟩ := b.lst
  obtain ⟨rfl, _⟩ := rr.ints e1
  cases l with
  | nil => cases em
  | cons y r =>
    simp only [minL, Option.some.injEq] at em
    subst em
    obtain ⟨h1, h2⟩ := foldmin r y
    refine ⟨p, y :: r, rfl, s, by simp, fun m hm hy => ?_⟩
    have : m = r.foldl (fun a b => if b < a then b else a) y := Int.le_antisymm (hy _ h1) (h2 m hm)
    rw [this]
    exact q _ _ _ [] (Fsh.refl zh) rel_int
theorem all_good (hc : X.calm = true) : CallR X (.builtin "all") (fun xs H Q => Good X.K .all xs H Q) := CallR.imp (cr_all hc) fun xs H Q q0 => by
  obtain ⟨Z, a, d, x, zh, rfl, b, e, q⟩ := good1 (f := evAll) (fun ds => by unfold evPrim; split <;> simp_all) q0
  cases a <;> simp [evAll] at e
  obtain ⟨l, e, rfl⟩ := e
  obtain ⟨p, vs, f, rfl, s, r, _⟩ := b.lst
  obtain ⟨rfl, _⟩ := r.bools e
  exact ⟨p, l, rfl, s, q _ _ _ [] (Fsh.refl zh) (by simpa using rel_bl)⟩
theorem any_good (hc : X.calm = true) : CallR X (.builtin "any") (fun xs H Q => Good X.K .any xs H Q) := CallR.imp (cr_any hc) fun xs H Q q0 => by
  obtain ⟨Z, a, d, x, zh, rfl, b, e, q⟩ := good1 (f := evAny) (fun ds => by unfold evPrim; split <;> simp_all) q0
  cases a <;> simp [evAny] at e
  obtain ⟨l, e, rfl⟩ := e
  obtain ⟨p, vs, f, rfl, s, r, _⟩ := b.lst
  obtain ⟨rfl, _⟩ := r.bools e
  exact ⟨p, l, rfl, s, q _ _ _ [] (Fsh.refl zh) (by simpa using rel_bl)⟩
theorem max2_good (hc : X.calm = true) : CallR X (.builtin "max") (fun xs H Q => Good X.K .max2 xs H Q) := CallR.imp (call_max2 hc) fun xs H Q q0 => by
  obtain ⟨Z, a, a', d, x, y, zh, rfl, b1, b2, e, q⟩ := good2 (f := evMax2) (fun ds => by unfold evPrim; split <;> simp_all) q0
  cases a <;> cases a' <;> simp [evMax2] at e
  subst e
  exact ⟨_, _, by rw [b1.int, b2.int], q _ _ _ [] (Fsh.refl zh) rel_int⟩
theorem min2_good (hc : X.calm = true) : CallR X (.builtin "min") (fun xs H Q => Good X.K .min2 xs H Q) := CallR.imp (call_min2 hc) fun xs H Q q0 => by
  obtain ⟨Z, a, a', d, x, y, zh, rfl, b1, b2, e, q⟩ := good2 (f := evMin2) (fun ds => by unfold evPrim; split <;> simp_all) q0
  cases a <;> cases a' <;> simp [evMin2] at e
  subst e
  exact ⟨_, _, by rw [b1.int, b2.int], q _ _ _ [] (Fsh.refl zh) rel_int⟩
theorem abs_good : CallR X (.builtin "abs") (fun xs H Q => Good X.K .abs xs H Q) := CallR.imp call_abs fun xs H Q q0 => by
  obtain ⟨Z, a, d, x, zh, rfl, b, e, q⟩ := good1 (f := evAbs) (fun ds => by unfold evPrim; split <;> simp_all) q0
  cases a <;> simp [evAbs] at e
  subst e
  exact ⟨_, by rw [b.int], q _ _ _ [] (Fsh.refl zh) rel_int⟩
def tyNm : Ty → String
  | .int => "int" | .bool => "bool" | .str => "str" | .tuple => "tuple" | .list => "list" | .dict => "dict"
def dTy : D → String
  | .non => "NoneType" | .bl _ => "bool" | .int _ => "int" | .str _ => "str" | .tup _ => "tuple" | .lst _ _ => "list" | .dct _ _ _ => "dict"
theorem kit_all {F : PySem.W.Frag} (d : D) (t : Ty) : PySem.W.kitOne F (.type (dTy d)) (.type (tyNm t)) = some (tyIs t d) := by
  have h1 : kitB "NoneType" (tyNm t) = some (tyIs t .non) := by cases t <;> decide +kernel
  have h2 : kitB "bool" (tyNm t) = some (tyIs t (.bl true)) := by cases t <;> decide +kernel
  have h3 : kitB "int" (tyNm t) = some (tyIs t (.int 0)) := by cases t <;> decide +kernel
  have h4 : kitB "str" (tyNm t) = some (tyIs t (.str [])) := by cases t <;> decide +kernel
  have h5 : kitB "tuple" (tyNm t) = some (tyIs t (.tup [])) := by cases t <;> decide +kernel
  have h6 : kitB "list" (tyNm t) = some (tyIs t (.lst .own [])) := by cases t <;> decide +kernel
  have h7 : kitB "dict" (tyNm t) = some (tyIs t (.dct .own [] [])) := by cases t <;> decide +kernel
  cases d
  · exact kit_ty h1
  · rw [show ∀ b, tyIs t (.bl b) = tyIs t (.bl true) from fun b => by cases t <;> rfl]; exact kit_ty h2
  · rw [show ∀ b, tyIs t (.int b) = tyIs t (.int 0) from fun b => by cases t <;> rfl]; exact kit_ty h3
  · rw [show ∀ b, tyIs t (.str b) = tyIs t (.str []) from fun b => by cases t <;> rfl]; exact kit_ty h4
  · rw [show ∀ b, tyIs t (.tup b) = tyIs t (.tup []) from fun b => by cases t <;> rfl]; exact kit_ty h5
  · rw [show ∀ a b, tyIs t (.lst a b) = tyIs t (.lst .own []) from fun a b => by cases t <;> rfl]; exact kit_ty h6
  · rw [show ∀ a b c, tyIs t (.dct a b c) = tyIs t (.dct .own [] []) from fun a b c => by cases t <;> rfl]; exact kit_ty h7
theorem tyx {F : PySem.W.Frag} {Z : Addr → Prop} {H : Hp} {d : D} {v : V} (h : Bor F Z H d v) : TyX F H v (.type (dTy d)) := by
  cases d
  case non => rw [h.non]; exact .base .non
  case bl => rw [h.bl]; exact .base (.bl _)
  case int => rw [h.int]; exact .base (.int _)
  case str => rw [h.str]; exact .base (.str _)
  case tup =>
    obtain ⟨a, vs, f, rfl, s, _⟩ := h.tup
    rcases s with (s | ⟨o, s⟩) | ⟨o, its, n, s, c, _⟩
    · exact .base (.tup s)
    · exact .fTuple s
    · exact .kTuple s c
  case lst =>
    obtain ⟨a, vs, f, rfl, s, _⟩ := h.lst
    rcases s with (s | ⟨o, s⟩) | ⟨o, its, n, s, c, _⟩
    · exact .base (.lst s)
    · exact .base (.frz s)
    · exact .kList s c
  case dct o ks vs =>
    obtain ⟨f, h⟩ := h
    cases o
    · obtain ⟨a, kvs, f', rfl, s, _⟩ := h; exact .base (.dK s)
    · obtain ⟨a, kvs, rfl, s, _⟩ := h; exact .base (.dK s)
    · exact h.elim
theorem isi_good (t : Ty) : CallR X (.builtin "isinstance") (fun xs H Q => ∃ x, xs = [x, .ty (tyNm t)] ∧ Good X.K (.isi [t]) [x] H Q) := CallR.imp call_isi fun xs H Q q0 => by
  obtain ⟨x, rfl, q0⟩ := q0
  obtain ⟨Z, a, d, x', zh, e1, b, e, q⟩ := good1 (f := fun a => some (.bl ([t].any fun t => tyIs t a))) (fun ds => by unfold evPrim; split <;> simp_all) q0
  cases e1
  cases e
  refine ⟨x, _, _, _, _, rfl, .ty _, tyx b, kit_all a t, ?_⟩
  have := q (.bl (tyIs t a)) H Z [] (Fsh.refl zh)
  simp only [List.any_cons, List.any_nil, Bool.or_false] at this
  exact this rel_bl
theorem isi2_good (t1 t2 : Ty) : CallR X (.builtin "isinstance") (fun xs H Q => ∃ x p H0, xs = [x, .ref p] ∧ H0 p = none ∧ H = upd H0 p (.tup [.ty (tyNm t1), .ty (tyNm t2)]) ∧ Good X.K (.isi [t1, t2]) [x] H0 Q) := CallR.imp call_isiT fun xs H Q q0 => by
  obtain ⟨x, p, H0, rfl, hp, rfl, q0⟩ := q0
  obtain ⟨Z, a, d, x', zh, e1, b, e, q⟩ := good1 (f := fun a => some (.bl ([t1, t2].any fun t => tyIs t a))) (fun ds => by unfold evPrim; split <;> simp_all) q0
  cases e1
  cases e
  have F : Fsh Z H0 Z (upd H0 p (.tup [.ty (tyNm t1), .ty (tyNm t2)])) [] := Fsh.one zh hp (.inl rfl)
  refine ⟨x, p, _, _, _, _, rfl, upd_same, .cons (.ty _) (.cons (.ty _) .nil), tyx (b.fsh F), (?_ : PySem.W.kitAny X.K _ _ = some ([t1, t2].any fun t => tyIs t a)), q _ _ _ [] F rel_bl⟩
  simp only [PySem.W.kitAny, kit_all]
  cases h1 : tyIs t1 a <;> cases h2 : tyIs t2 a <;> simp [h1, h2]
end
end GN
end

section
set_option linter.all false
set_option maxRecDepth 100000
set_option maxHeartbeats 2000000
namespace GN
open PySem PySem.Spec PyProof.Rows L2
mutual
theorem shp_sym : ∀ (c d : D), D.shp c d = true → D.shp d c = true
  | .bl _, d, h => by cases d <;> simp_all [D.shp]
  | .int _, d, h => by cases d <;> simp_all [D.shp]
  | .str _, d, h => by cases d <;> simp_all [D.shp]
  | .tup xs, d, h => by
    cases d <;> simp only [D.shp] at h ⊢ <;> try (cases h; done)
    exact shpL_sym xs _ h
  | .non, _, h => by simp [D.shp] at h
  | .lst _ _, _, h => by simp [D.shp] at h
  | .dct _ _ _, _, h => by simp [D.shp] at h
theorem shpL_sym : ∀ (c d : List D), D.shpL c d = true → D.shpL d c = true
  | [], d, h => by cases d <;> simp_all [D.shpL]
  | x :: xs, d, h => by
    cases d with
    | nil => simp [D.shpL] at h
    | cons y ys =>
      simp only [D.shpL, Bool.and_eq_true] at h ⊢
      exact ⟨shp_sym x y h.1, shpL_sym xs ys h.2⟩
end
mutual
theorem shp_tr : ∀ (c d e : D), D.shp c d = true → D.shp d e = true → D.shp c e = true
  | .bl _, d, e, h, g => by cases d <;> cases e <;> simp_all [D.shp]
  | .int _, d, e, h, g => by cases d <;> cases e <;> simp_all [D.shp]
  | .str _, d, e, h, g => by cases d <;> cases e <;> simp_all [D.shp]
  | .tup xs, d, e, h, g => by
    cases d <;> simp only [D.shp] at h g ⊢ <;> try (cases h; done)
    cases e <;> simp only [D.shp] at h g ⊢ <;> try (cases g; done)
    exact shpL_tr xs _ _ h g
  | .non, _, _, h, _ => by simp [D.shp] at h
  | .lst _ _, _, _, h, _ => by simp [D.shp] at h
  | .dct _ _ _, _, _, h, _ => by simp [D.shp] at h
theorem shpL_tr : ∀ (c d e : List D), D.shpL c d = true → D.shpL d e = true → D.shpL c e = true
  | [], d, e, h, g => by cases d <;> cases e <;> simp_all [D.shpL]
  | x :: xs, d, e, h, g => by
    cases d with
    | nil => simp [D.shpL] at h
    | cons y ys =>
      cases e with
      | nil => simp [D.shpL] at g
      | cons z zs =>
        simp only [D.shpL, Bool.and_eq_true] at h g ⊢
        exact ⟨shp_tr x y z h.1 g.1, shpL_tr xs ys zs h.2 g.2⟩
end
mutual
theorem shp_alike : ∀ (c d : D), D.shp c d = true → PySem.W.alike (er c) (er d) = true
  | .bl _, d, h => by cases d <;> simp_all [D.shp, er, PySem.W.alike]
  | .int _, d, h => by cases d <;> simp_all [D.shp, er, PySem.W.alike]
  | .str _, d, h => by cases d <;> simp_all [D.shp, er, PySem.W.alike]
  | .tup xs, d, h => by
    cases d <;> simp only [D.shp] at h <;> try (cases h; done)
    simp only [er, PySem.W.alike]
    exact shpL_alike xs _ h
  | .non, _, h => by simp [D.shp] at h
  | .lst _ _, _, h => by simp [D.shp] at h
  | .dct _ _ _, _, h => by simp [D.shp] at h
theorem shpL_alike : ∀ (c d : List D), D.shpL c d = true → PySem.W.alikeAll (erL c) (erL d) = true
  | [], d, h => by cases d <;> simp [erL, PySem.W.alikeAll]
  | x :: xs, d, h => by
    cases d with
    | nil => simp [D.shpL] at h
    | cons y ys =>
      simp only [D.shpL, Bool.and_eq_true] at h
      simp only [erL, PySem.W.alikeAll, Bool.and_eq_true]
      exact ⟨shp_alike x y h.1, shpL_alike xs ys h.2⟩
end
mutual
theorem shp_eqv : ∀ (c d : D), D.shp c d = true → D.eqv c d = true → c = d
  | .bl _, d, h, e => by cases d <;> simp_all [D.shp, D.eqv]
  | .int _, d, h, e => by cases d <;> simp_all [D.shp, D.eqv]
  | .str _, d, h, e => by cases d <;> simp_all [D.shp, D.eqv]
  | .tup xs, d, h, e => by
    cases d <;> simp only [D.shp] at h <;> try (cases h; done)
    simp only [D.eqv] at e
    rw [shpL_eqv xs _ h e]
  | .non, _, h, _ => by simp [D.shp] at h
  | .lst _ _, _, h, _ => by simp [D.shp] at h
  | .dct _ _ _, _, h, _ => by simp [D.shp] at h
theorem shpL_eqv : ∀ (c d : List D), D.shpL c d = true → D.eqvL c d = true → c = d
  | [], d, h, e => by cases d <;> simp_all [D.shpL]
  | x :: xs, d, h, e => by
    cases d with
    | nil => simp [D.shpL] at h
    | cons y ys =>
      simp only [D.shpL, Bool.and_eq_true] at h
      simp only [D.eqvL, Bool.and_eq_true] at e
      rw [shp_eqv x y h.1 e.1, shpL_eqv xs ys h.2 e.2]
end
mutual
theorem shp_self : ∀ (d : D), D.shp d d = true → D.eqv d d = true
  | .bl _, h => by simp [D.eqv]
  | .int _, h => by simp [D.eqv]
  | .str _, h => by simp [D.eqv]
  | .tup xs, h => by
    simp only [D.shp] at h
    simp only [D.eqv]
    exact shpL_self xs h
  | .non, h => by simp [D.shp] at h
  | .lst _ _, h => by simp [D.shp] at h
  | .dct _ _ _, h => by simp [D.shp] at h
theorem shpL_self : ∀ (d : List D), D.shpL d d = true → D.eqvL d d = true
  | [], h => rfl
  | x :: xs, h => by
    simp only [D.shpL, Bool.and_eq_true] at h
    simp only [D.eqvL, Bool.and_eq_true]
    exact ⟨shp_self x h.1, shpL_self xs h.2⟩
end
mutual
theorem ltD_er : ∀ (c d : D), D.shp c d = true → PySem.W.dataLt (er c) (er d) = D.ltD c d
  | .bl a, d, h => by
    cases d <;> simp only [D.shp] at h <;> try (cases h; done)
    rename_i b
    rw [er, er, PySem.W.dataLt_bool]
    cases a <;> cases b <;> rfl
  | .int _, d, h => by
    cases d <;> simp only [D.shp] at h <;> try (cases h; done)
    rw [er, er, PySem.W.dataLt_int]; rfl
  | .str _, d, h => by
    cases d <;> simp only [D.shp] at h <;> try (cases h; done)
    rw [er, er, PySem.W.dataLt_str, toS_cps, toS_cps, ← strLt_eq]; rfl
  | .tup xs, d, h => by
    cases d <;> simp only [D.shp] at h <;> try (cases h; done)
    rw [er, er, PySem.W.dataLt_tuple]
    exact ltL_er xs _ h
  | .non, _, h => by simp [D.shp] at h
  | .lst _ _, _, h => by simp [D.shp] at h
  | .dct _ _ _, _, h => by simp [D.shp] at h
theorem ltL_er : ∀ (c d : List D), D.shpL c d = true → PyProof.Rows.lexLt itemOrd (PySem.W.keyToksAll (erL c)) (PySem.W.keyToksAll (erL d)) = D.ltL c d
  | [], d, h => by
    cases d with
    | nil => exact lex_irrefl _
    | cons y ys => simp [D.shpL] at h
  | x :: xs, d, h => by
    cases d with
    | nil => simp [D.shpL] at h
    | cons y ys =>
      simp only [D.shpL, Bool.and_eq_true] at h
      simp only [erL]
      rw [PySem.W.dataLt_cons (shp_alike x y h.1), eqv_er, ltL_er xs ys h.2, ltD_er x y h.1]
      simp only [D.ltL]
end
theorem strLt_anti {a b : List Nat} (h1 : strLt a b = false) (h2 : strLt b a = false) : a = b := by
  rw [strLt_eq, decide_eq_false_iff_not] at h1 h2
  exact List.le_antisymm (List.not_lt.mp h2) (List.not_lt.mp h1)
mutual
theorem ltD_anti : ∀ (c d : D), D.shp c d = true → D.ltD c d = false → D.ltD d c = false → c = d
  | .bl a, d, h, e, f => by
    cases d <;> simp only [D.shp] at h <;> try (cases h; done)
    rename_i b
    cases a <;> cases b <;> simp_all [D.ltD]
  | .int _, d, h, e, f => by
    cases d <;> simp only [D.shp] at h <;> try (cases h; done)
    simp only [D.ltD, decide_eq_false_iff_not] at e f
    congr 1; omega
  | .str _, d, h, e, f => by
    cases d <;> simp only [D.shp] at h <;> try (cases h; done)
    simp only [D.ltD] at e f
    rw [strLt_anti e f]
  | .tup xs, d, h, e, f => by
    cases d <;> simp only [D.shp] at h <;> try (cases h; done)
    simp only [D.ltD] at e f
    rw [ltL_anti xs _ h e f]
  | .non, _, h, _, _ => by simp [D.shp] at h
  | .lst _ _, _, h, _, _ => by simp [D.shp] at h
  | .dct _ _ _, _, h, _, _ => by simp [D.shp] at h
theorem ltL_anti : ∀ (c d : List D), D.shpL c d = true → D.ltL c d = false → D.ltL d c = false → c = d
  | [], d, h, e, f => by cases d <;> simp_all [D.shpL]
  | x :: xs, d, h, e, f => by
    cases d with
    | nil => simp [D.shpL] at h
    | cons y ys =>
      simp only [D.shpL, Bool.and_eq_true] at h
      simp only [D.ltL] at e f
      have key : x = y := by
        by_cases q : D.eqv x y = true
        · exact shp_eqv x y h.1 q
        · by_cases q' : D.eqv y x = true
          · exact (shp_eqv y x (shp_sym x y h.1) q').symm
          · rw [if_neg q] at e
            rw [if_neg q'] at f
            exact ltD_anti x y h.1 e f
      subst key
      have hx := shp_self x h.1
      rw [if_pos hx] at e f
      rw [ltL_anti xs ys h.2 e f]
end
/-! ### the sort -/
section
variable {α : Type}
theorem insBy_perm (lt : α → α → Bool) (x : α) : ∀ l : List α, (insBy lt x l).Perm (x :: l)
  | [] => List.Perm.refl _
  | y :: r => by
    unfold insBy
    split
    · exact ((insBy_perm lt x r).cons y).trans (List.Perm.swap x y r)
    · exact List.Perm.refl _
theorem sortBy_perm (lt : α → α → Bool) : ∀ l : List α, (sortBy lt l).Perm l
  | [] => List.Perm.refl _
  | x :: r => by
    unfold sortBy
    exact (insBy_perm lt x _).trans ((sortBy_perm lt r).cons x)
theorem insBy_sorted {lt : α → α → Bool} (as : ∀ a b, lt a b = true → lt b a = false) (tr : ∀ a b c, lt b a = false → lt c b = false → lt c a = false) (x : α) :
    ∀ l : List α, l.Pairwise (fun a b => lt b a = false) → (insBy lt x l).Pairwise (fun a b => lt b a = false)
  | [], _ => by simp [insBy]
  | y :: r, h => by
    have h' := List.pairwise_cons.mp h
    unfold insBy
    split
    · rename_i c
      refine List.pairwise_cons.mpr ⟨fun z hz => ?_, insBy_sorted as tr x r h'.2⟩
      rcases List.mem_cons.mp ((insBy_perm lt x r).mem_iff.mp hz) with rfl | hz
      · exact as y z c
      · exact h'.1 z hz
    · rename_i c
      have c' : lt y x = false := by simpa using c
      refine List.pairwise_cons.mpr ⟨fun z hz => ?_, h⟩
      rcases List.mem_cons.mp hz with rfl | hz
      · exact c'
      · exact tr x y z c' (h'.1 z hz)
theorem sortBy_sorted {lt : α → α → Bool} (as : ∀ a b, lt a b = true → lt b a = false) (tr : ∀ a b c, lt b a = false → lt c b = false → lt c a = false) :
    ∀ l : List α, (sortBy lt l).Pairwise (fun a b => lt b a = false)
  | [] => List.Pairwise.nil
  | x :: r => insBy_sorted as tr x _ (sortBy_sorted as tr r)
theorem insBy_congr {lt lt' : α → α → Bool} (x : α) : ∀ l : List α, (∀ y ∈ l, lt y x = lt' y x) → insBy lt x l = insBy lt' x l
  | [], _ => rfl
  | y :: r, h => by
    unfold insBy
    rw [h y (by simp), insBy_congr x r fun z hz => h z (by simp [hz])]
theorem sortBy_congr {lt lt' : α → α → Bool} : ∀ l : List α, (∀ x ∈ l, ∀ y ∈ l, lt y x = lt' y x) → sortBy lt l = sortBy lt' l
  | [], _ => rfl
  | x :: r, h => by
    unfold sortBy
    rw [sortBy_congr r fun a ha b hb => h a (by simp [ha]) b (by simp [hb])]
    exact insBy_congr x _ fun y hy => h x (by simp) y (by simp [(sortBy_perm lt' r).mem_iff.mp hy])
end
def ltE (a b : D) : Bool := PySem.W.dataLt (er a) (er b)
theorem ltE_tr (a b c : D) (h : ltE b a = false) (g : ltE c b = false) : ltE c a = false := by
  cases e : ltE c a with
  | false => rfl
  | true =>
    rcases lex_negTrans (O := itemOrd) _ (PySem.W.keyToks (er b)) _ e with q | q
    · exact absurd (q.symm.trans g) (by decide)
    · exact absurd (q.symm.trans h) (by decide)
theorem ltE_as (a b : D) (h : ltE a b = true) : ltE b a = false := by
  cases e : ltE b a with
  | false => rfl
  | true =>
    have := lex_trans (O := itemOrd) _ _ _ h e
    rw [lex_irrefl] at this
    cases this
theorem sort_eq {c : D} {l : List D} (h : ∀ y ∈ l, D.shp c y = true) : l.mergeSort (PySem.W.dataLe false er) = sortBy D.ltD l := by
  have sh : ∀ x ∈ l, ∀ y ∈ l, D.shp x y = true := fun x hx y hy => shp_tr _ _ _ (shp_sym _ _ (h x hx)) (h y hy)
  rw [sortBy_congr (lt' := ltE) l fun x hx y hy => (ltD_er y x (sh y hy x hx)).symm]
  have le_iff : ∀ a b : D, PySem.W.dataLe false er a b = !ltE b a := fun a b => rfl
  have p1 : (l.mergeSort (PySem.W.dataLe false er)).Pairwise (fun a b => ltE b a = false) := by
    have := List.pairwise_mergeSort (le := PySem.W.dataLe false er) (fun a b c h1 h2 => by
      rw [le_iff, Bool.not_eq_true'] at h1 h2 ⊢
      exact ltE_tr a b c h1 h2) (fun a b => by
      rw [le_iff, le_iff]
      cases e : ltE b a with
      | false => rfl
      | true => rw [ltE_as b a e]; rfl) l
    exact this.imp fun {a b} hab => by rw [le_iff, Bool.not_eq_true'] at hab; exact hab
  have p2 := sortBy_sorted (lt := ltE) ltE_as ltE_tr l
  refine List.Perm.eq_of_pairwise (le := fun a b => ltE b a = false) (fun a b ha hb h1 h2 => ?_) p1 p2 ((List.mergeSort_perm l _).trans (sortBy_perm ltE l).symm)
  have ha' := (List.mergeSort_perm l _).mem_iff.mp ha
  have hb' := (sortBy_perm ltE l).mem_iff.mp hb
  have s := sh a ha' b hb'
  refine ltD_anti a b s ?_ ?_
  · rw [← ltD_er a b s]; exact h2
  · rw [← ltD_er b a (shp_sym _ _ s)]; exact h1
end GN
end

section
set_option linter.all false
set_option maxRecDepth 100000
set_option maxHeartbeats 2000000
namespace GN
open PySem PySem.Spec PyProof.Rows L2
mutual
theorem shp_plain : ∀ (c d : D), D.shp c d = true → d.plain = true ∧ d.deep = c.deep
  | .bl _, d, h => by cases d <;> simp_all [D.shp, D.plain, D.deep]
  | .int _, d, h => by cases d <;> simp_all [D.shp, D.plain, D.deep]
  | .str _, d, h => by cases d <;> simp_all [D.shp, D.plain, D.deep]
  | .tup xs, d, h => by
    cases d <;> simp only [D.shp] at h <;> try (cases h; done)
    obtain ⟨a, b⟩ := shpL_plain xs _ h
    exact ⟨by simpa [D.plain] using a, by simp only [D.deep, b]⟩
  | .non, _, h => by simp [D.shp] at h
  | .lst _ _, _, h => by simp [D.shp] at h
  | .dct _ _ _, _, h => by simp [D.shp] at h
theorem shpL_plain : ∀ (c d : List D), D.shpL c d = true → D.plainL d = true ∧ D.deepL d = D.deepL c
  | [], d, h => by cases d <;> simp_all [D.shpL, D.plainL]
  | x :: xs, d, h => by
    cases d with
    | nil => simp [D.shpL] at h
    | cons y ys =>
      simp only [D.shpL, Bool.and_eq_true] at h
      obtain ⟨a, b⟩ := shp_plain x y h.1
      obtain ⟨a', b'⟩ := shpL_plain xs ys h.2
      exact ⟨by simp [D.plainL, a, a'], by simp only [D.deepL, b, b']⟩
end
theorem plainL_all {xs : List D} (h : ∀ x ∈ xs, x.plain = true) : D.plainL xs = true := by
  induction xs with
  | nil => rfl
  | cons x r ih => simp [D.plainL, h x (by simp), ih fun y hy => h y (by simp [hy])]
section
variable {X : Cx}
def Rx (K : PySem.W.Frag) (Z : Addr → Prop) (H : Hp) (u : Value) (d : D) : Prop := ∃ v, RelV v u ∧ Rel K Z H d v []
theorem each_of {K : PySem.W.Frag} {Z : Addr → Prop} {H : Hp} : ∀ {ds : List D} {vs : List V} {us : List Value}, RelL K Z H ds vs [] → Vals vs us → PySem.W.EachIs (Rx K Z H) us ds
  | [], vs, us, h, r => by
    rw [h.1] at r
    cases r; exact .nil
  | d :: ds, vs, us, h, r => by
    obtain ⟨v, rs, f1, f2, rfl, e, h1, h2⟩ := h
    obtain ⟨e1, e2⟩ := List.append_eq_nil_iff.mp e.symm
    subst e1; subst e2
    cases r with
    | cons r1 r2 => exact .cons ⟨v, r1, h1⟩ (each_of h2 r2)
theorem of_each {K : PySem.W.Frag} {Z : Addr → Prop} {H : Hp} : ∀ {ds : List D} {us : List Value}, PySem.W.EachIs (Rx K Z H) us ds → ∃ vs, RelL K Z H ds vs [] ∧ Vals vs us
  | _, _, .nil => ⟨[], ⟨rfl, rfl⟩, .nil⟩
  | _, _, .cons ⟨v, r, h⟩ t => by
    obtain ⟨vs, h2, r2⟩ := of_each t
    exact ⟨v :: vs, ⟨v, vs, [], [], rfl, rfl, h, h2⟩, .cons r r2⟩
theorem sorted_cases {o : Ow} {xs : List D} {d : D} (e : evSorted (.lst o xs) = some d) :
    (∃ c, ∀ y ∈ xs, D.shp c y = true) ∧ (∀ y ∈ xs, y.deep ≤ 60) ∧ xs.length ≤ line ∧ PySem.W.Sortable (xs.map er) ∧ d = .lst .own (sortBy D.ltD xs) := by
  cases xs with
  | nil =>
    simp [evSorted] at e
    refine ⟨⟨.non, fun y h => nomatch h⟩, fun y h => (nomatch h), by decide, .inl fun d h => (nomatch h), ?_⟩
    rw [← e]; rfl
  | cons x r =>
    simp only [evSorted] at e
    split at e
    · rename_i h
      cases e
      obtain ⟨⟨h1, h2, h3⟩, h4⟩ := h
      have h4' := List.all_eq_true.mp h4
      refine ⟨⟨x, h4'⟩, fun y hy => by rw [(shp_plain x y (h4' y hy)).2]; exact h2, h3, ?_, rfl⟩
      cases x <;> simp only [headS] at h1 <;> try (cases h1; done)
      case tup zs =>
        left
        intro d hd
        obtain ⟨y, hy, rfl⟩ := List.mem_map.mp hd
        have := h4' y hy
        cases y <;> simp only [D.shp] at this <;> try (cases this; done)
        rename_i ys
        cases zs with
        | nil => cases h1
        | cons z zs =>
          cases ys with
          | nil => simp [D.shpL] at this
          | cons y ys => exact ⟨_, _, rfl⟩
      all_goals
        right
        intro d hd
        obtain ⟨y, hy, rfl⟩ := List.mem_map.mp hd
        have := h4' y hy
        cases y <;> simp only [D.shp] at this <;> first | (cases this; done) | exact ⟨by simp [er], by simp [er]⟩
    · cases e
theorem keysD_kx : ∀ {ks : List Ky} {l : List D}, keysD ks = some l → ∀ d ∈ l, ∃ k, d = kxD k
  | [], l, e, d, h => by simp [keysD] at e; subst e; cases h
  | .x k :: r, l, e, d, h => by
    simp only [keysD, Option.map_eq_some_iff] at e
    obtain ⟨l', e, rfl⟩ := e
    rcases List.mem_cons.mp h with rfl | h
    · exact ⟨k, rfl⟩
    · exact keysD_kx e d h
  | .t _ :: _, _, e, _, _ => by simp [keysD] at e
theorem relL_keys {K : PySem.W.Frag} {Z : Addr → Prop} {H : Hp} : ∀ {ks : List Ky} {ky : List Key} {l : List D}, kyOk ks ky → keysD ks = some l → RelL K Z H l (ky.map kV) []
  | [], ky, l, h, e => by
    simp [keysD] at e; subst e
    rw [show ky = [] from h]; exact ⟨rfl, rfl⟩
  | .x k :: r, ky, l, h, e => by
    obtain ⟨ky', rfl, h⟩ := h
    simp only [keysD, Option.map_eq_some_iff] at e
    obtain ⟨l', e, rfl⟩ := e
    refine ⟨kV (kxK k), ky'.map kV, [], [], rfl, rfl, ?_, relL_keys h e⟩
    cases k with
    | i n => exact ⟨rfl, rfl⟩
    | s x => exact ⟨rfl, rfl⟩
  | .t _ :: _, _, _, h, _ => h.elim
theorem sortL_eq {l : List D} {d : D} (e : sortL l = some d) : evSorted (.lst .own l) = some d := by
  cases l <;> exact e
theorem sorted_good (hu : X.A.units + 64 < cLine) (hcalm : X.calm = true) : CallR X (.builtin "sorted") (fun xs H Q => Good X.K .sorted xs H Q) := by
  intro pins s σ H xs us Q I r q0
  obtain ⟨Z, a, d, x, zh, rfl, b, e, q⟩ := good1 (f := evSorted) (fun ds => by unfold evPrim; split <;> simp_all) q0
  cases a <;> try (simp [evSorted] at e; done)
  case dct o ks ws =>
    simp only [evSorted] at e
    split at e
    · cases e
    rename_i ho
    obtain ⟨l, e1, e2⟩ := Option.bind_eq_some_iff.mp e
    obtain ⟨⟨c, hc⟩, hd, hlen, hS, rfl⟩ := sorted_cases (sortL_eq e2)
    obtain ⟨p, kvs, rfl, hH, hky⟩ : ∃ p kvs, x = V.ref p ∧ H p = some (.dK kvs) ∧ kyOk ks (kvs.map (·.1)) := by
      obtain ⟨f, b⟩ := b
      cases o with
      | own => obtain ⟨p, kvs, f', e1, e2, e3, _⟩ := b; exact ⟨p, kvs, e1, e2, e3⟩
      | shr => obtain ⟨p, kvs, e1, e2, _, e3, _⟩ := b; exact ⟨p, kvs, e1, e2, e3⟩
      | ext => exact absurd rfl ho
    rw [Vals.ref1 r]
    obtain ⟨z, lo, wv, rel, dd⟩ := dk_rd I.hok (.inl hH)
    obtain ⟨ep, hat⟩ := dd.dictAt
    have hl : wv.length = kvs.length := by
      have e := congrArg List.length rel.keys
      rw [List.length_map, List.length_map] at e
      exact e.symm
    have h16 : wv.length ≤ sizeLine := by rw [hl]; exact z
    have r0 : RelL X.K Z H l ((kvs.map (·.1)).map kV) [] := relL_keys hky e1
    have hll : l.length = kvs.length := by have := r0.len; simpa using this.symm
    refine Calls.call_function_entry PyProof.Rows.kind_sorted PyProof.Rows.plain_sorted PyProof.Rows.entry_sorted (PyProof.Rows.args_sorted1 _) ?_
    unfold Builtin.«sorted»
    refine wpAny_bind (m := checkCount "sorted" 1 1 _) (wpAny_pure ?_)
    refine wpAny_bind (PySem.W.kdu_collect (A := X.A.in1) (PySem.W.kdl_dict (knd := mixKind X.prog X.w) (kvs := wv) (ep := ep) lo) (I.ok.hd hcalm) hat h16 fun h' tk acc hk hacc => ?_)
    have hal : acc.toList.length = l.length := by rw [Array.length_toList, hacc.1, hl, hll]
    have rv : Vals (wv.map fun q => kV q.1) acc.toList := keys_at (by rw [Array.length_toList, hacc.1]) fun j v e => by
      obtain ⟨k, x, e1, e2⟩ := hacc.2 j v (by rw [← Array.getElem?_toList]; exact e)
      exact ⟨k, x, e1, e2⟩
    have ek : (wv.map fun q => kV q.1) = (kvs.map (·.1)).map kV := by
      rw [rel.keys, List.map_map]; rfl
    rw [ek] at rv
    have I1 : Inv X pins σ H { s with heap := h', toks := tk } := I.kept hk
    refine wpAny_bind (wpAny_newList ?_ (by rw [hal, ← line_eq]; exact hlen))
    have hoL : (h'.push (seqObj "list" acc.toList.toArray 0)).get? h'.objs.size = some (seqObj "list" acc.toList.toArray 0) := Heap.get?_push_size _ rfl
    show wpAny _ _ _ _ _ { s with heap := h'.push (seqObj "list" acc.toList.toArray 0), toks := tk }
    have ea := each_of r0 rv
    have er' : PySem.W.EachIs (fun v b => ∃ as, Reads (h'.push (seqObj "list" acc.toList.toArray 0)) v (er b) as ∧ h'.objs.size ∉ as) acc.toList l := (PySem.W.each_mem ea).mono fun u d ⟨⟨v, r, h⟩, hm⟩ => by
      obtain ⟨k, rfl⟩ := keysD_kx e1 d hm
      cases k with
      | i n => obtain ⟨h1, _⟩ := h; subst h1; obtain ⟨t, rfl⟩ := r; exact ⟨_, .int _ _, by simp⟩
      | s y => obtain ⟨h1, _⟩ := h; subst h1; obtain ⟨t, rfl⟩ := r; exact ⟨_, .str _ _, by simp⟩
    refine wpAny_bind (wpAny_holding (PySem.W.list_sort_data (s := { s with heap := h'.push (seqObj "list" acc.toList.toArray 0), toks := tk }) hoL ea er' ?_ hS (by rw [← line_eq]; exact hlen) ?_ fun out ho eo => ?_))
    · intro a ha b hb
      obtain ⟨x, hx, rfl⟩ := List.mem_map.mp ha
      obtain ⟨y, hy, rfl⟩ := List.mem_map.mp hb
      exact shp_alike x y (shp_tr _ _ _ (shp_sym _ _ (hc x hx)) (hc y hy))
    · intro y hy
      have h1 := (er_ok y 60 (hd y hy) (by omega)).2
      have h2 : X.A.in1.units = X.A.units + 1 := rfl
      omega
    · rw [sort_eq hc] at eo
      obtain ⟨vs', r2, rv2⟩ := of_each eo
      obtain ⟨ep', he'⟩ := PyProof.Rows.sortedHeap_at (vs := acc.toList) (out := out.toArray) hoL
      have hl' : vs'.length ≤ sizeLine := by rw [r2.len, (sortBy_perm D.ltD l).length_eq, ← line_eq]; exact hlen
      have hf := I1.hok.fresh (Nat.le_refl _)
      have pl' : D.plainL (sortBy D.ltD l) = true := plainL_all fun y hy => (shp_plain c y (hc y ((sortBy_perm D.ltD l).mem_iff.mp hy))).1
      obtain ⟨F, R⟩ := new_lst zh hf r2 pl'
      refine wpAny_pure ⟨_, rfl, .ref h'.objs.size, upd H h'.objs.size (.lst vs'), I1.laid (t' := tk) (fun b u e => ?_) (Nat.le_refl _) (show ObjOk X.prog X.w _ _ _ (.lst vs') from ⟨hl', out, ep', rv2, he'⟩), rfl, q _ _ _ _ F R⟩
      have hb : b < h'.objs.size := Heap.lt_size e
      rw [PyProof.Rows.sortedHeap_old (Nat.ne_of_lt hb) (by rw [size_push']; exact Nat.lt_succ_of_lt hb)]
      exact Heap.get?_push_of_some _ e
  rename_i o xs
  obtain ⟨⟨c, hc⟩, hd, hlen, hS, rfl⟩ := sorted_cases e
  obtain ⟨p, vs, f, rfl, s1, r1, _⟩ := b.lst
  obtain ⟨its, rv, hl, _⟩ := I.list s1
  rw [Vals.ref1 r]
  have pl : D.plainL xs = true := plainL_all fun y hy => (shp_plain c y (hc y hy)).1
  have r0 := r1.nil_of pl
  have ea := each_of r0 rv
  have er' : PySem.W.EachIs (fun v b => ∃ as, Reads s.heap v (er b) as) its xs := (PySem.W.each_mem ea).mono fun u d ⟨⟨v, r, h⟩, hm⟩ => Dp.reads I _ v u (Rel.dp d v [] h (by have := hd d hm; omega)) r
  refine PySem.W.sorted_data (enc := er) hl.isList ea er' ?_ hS (by rw [← line_eq]; exact hlen) ?_ fun out ho eo => ?_
  · intro a ha b hb
    obtain ⟨x, hx, rfl⟩ := List.mem_map.mp ha
    obtain ⟨y, hy, rfl⟩ := List.mem_map.mp hb
    exact shp_alike x y (shp_tr _ _ _ (shp_sym _ _ (hc x hx)) (hc y hy))
  · intro y hy
    have := (er_ok y 60 (hd y hy) (by omega)).2
    omega
  · rw [sort_eq hc] at eo
    obtain ⟨vs', r2, rv2⟩ := of_each eo
    obtain ⟨ep, he'⟩ := PyProof.Rows.sortedAll_at s.heap its out.toArray
    have hl' : vs'.length ≤ sizeLine := by rw [r2.len, (sortBy_perm D.ltD xs).length_eq, ← line_eq]; exact hlen
    have hf := I.hok.fresh (Nat.le_succ s.heap.objs.size)
    have pl' : D.plainL (sortBy D.ltD xs) = true := plainL_all fun y hy => (shp_plain c y (hc y ((sortBy_perm D.ltD xs).mem_iff.mp hy))).1
    obtain ⟨F, R⟩ := new_lst zh hf r2 pl'
    exact ⟨.ref _, upd H (s.heap.objs.size + 1) (.lst vs'), I.laid (t' := s.toks) (fun _ _ => PyProof.Rows.sortedAll_old) (Nat.le_succ _) ⟨hl', out, ep, rv2, he'⟩, rfl, q _ _ _ _ F R⟩
end
end GN
end

section
set_option linter.all false
set_option maxRecDepth 100000
set_option maxHeartbeats 2000000
namespace GN
open PySem PySem.Spec PyProof.Rows L2
section
variable {X : Cx}
theorem ite_s {α : Type} {c : Prop} [Decidable c] {a b : α} (h : (if c then some a else none) = some b) : c ∧ a = b := by
  split at h
  · exact ⟨by assumption, by cases h; rfl⟩
  · cases h
theorem decI_toS (i : Int) : (toString i : Str) = toS (decI i) := by
  show Str.ofString (toString i) = _
  rw [Str.ofString_eq_toList]; rfl
theorem CallR.or {f : Value} {r r' : List V → Hp → VK → Prop} (h : CallR X f r) (g : CallR X f r') : CallR X f (fun xs H Q => r xs H Q ∨ r' xs H Q) := fun pins s σ H xs us Q I rs q => q.elim (h pins s σ H xs us Q I rs) (g pins s σ H xs us Q I rs)
theorem call_str_bl : CallR X (.type "str") (fun xs H Q => ∃ b : Bool, xs = [.bl b] ∧ Q (.str (if b then "True" else "False")) H) := by
  intro pins s σ H xs us Q I r h
  obtain ⟨b, rfl, q⟩ := h
  obtain ⟨u, rfl, hr⟩ := vals1 r
  have hr : u = Value.bool b := hr
  subst hr
  refine PySem.P.str_of_bool ?_
  exact ⟨.str _, H, I.tok _, ⟨_, rfl⟩, q⟩
theorem str_good : CallR X (.type "str") (fun xs H Q => Good X.K .str xs H Q) := CallR.imp (CallR.or call_str_int call_str_bl) fun xs H Q q0 => by
  obtain ⟨Z, a, d, x, zh, rfl, b, e, q⟩ := good1 (f := evStr) (fun ds => by unfold evPrim; split <;> simp_all) q0
  cases a <;> simp [evStr] at e
  case int i =>
    obtain ⟨c, rfl⟩ := e
    exact .inl ⟨_, by rw [b.int], c, by rw [decI_toS]; exact q _ _ _ [] (Fsh.refl zh) rel_str⟩
  case bl k =>
    subst e
    refine .inr ⟨k, by rw [b.bl], ?_⟩
    cases k
    · rw [show (if false = true then ("True" : Str) else "False") = toS [70, 97, 108, 115, 101] from by decide]
      exact q _ _ _ [] (Fsh.refl zh) rel_str
    · rw [show (if true = true then ("True" : Str) else "False") = toS [84, 114, 117, 101] from by decide]
      exact q _ _ _ [] (Fsh.refl zh) rel_str
theorem joinS_toS (s : List Nat) : ∀ l : List (List Nat), Txt.join (toS s) (l.map toS) = toS (joinS s l) := fun l => by
  rw [TL.join_eq]
  induction l with
  | nil => rfl
  | cons x r ih =>
    cases r with
    | nil => rfl
    | cons y r =>
      show toS x ++ toS s ++ Str.join (toS s) ((y :: r).map toS) = _
      rw [ih, toS_app, toS_app]; rfl
theorem sum_len (l : List (List Nat)) : ((l.map toS).map (·.length)).sum = (l.map List.length).sum := by
  induction l with
  | nil => rfl
  | cons x r ih => simp only [List.map_cons, List.sum_cons, ih, toS_len]
theorem pe_constS {s : Str} {k p} : PE X (.Constant (.str s) k p) (tC (.str s)) := by
  first | exact pe_str | exact pe_strC | exact L2.pe_str
theorem joinC_good {s : Str} {p apos pos : Pos} {j} {e : Expr} {te : TE} (he : PE X e te) (m : Mono te) (hs : starEach [e] X.env = [(false, eval e X.env)]) (hl : (apos.endLine == pos.line) = true) :
    PE X (.Call (.Attribute (.Constant (.str s) j p) "join" apos) [e] [] pos) (tPrim X.K (.joinC s.cps.toList) [te]) :=
  PE.imp (pe_join pe_constS he hs rfl hl) fun σ H Q q => ⟨⟨s, rfl⟩, m σ H _ _ (fun v H1 g => by
    obtain ⟨Z, ds, d, zh, b, e, q⟩ := g
    obtain ⟨d1, rfl, b1⟩ := b.one
    change evJoin (.str s.cps.toList) d1 = some d at e
    have es : s = toS s.cps.toList := by cases s; simp [toS]
    cases d1 <;> simp only [evJoin] at e <;> try (cases e; done)
    case lst o xs =>
      obtain ⟨l, e1, e2⟩ := Option.bind_eq_some_iff.mp e
      obtain ⟨hz, e3⟩ := ite_s e2
      cases e3
      obtain ⟨a, vs, f, rfl, sq, r, _⟩ := b1.lst
      obtain ⟨rfl, _⟩ := r.strs e1
      refine ⟨s, a, l.map toS, rfl, rfl, .inl sq, ?_, ?_⟩
      · rw [sum_len, List.length_map]
        have : s.length = s.cps.toList.length := by simp [Str.length]
        rw [this]; exact hz
      · have h := q _ _ _ [] (Fsh.refl zh) rel_str
        rw [← joinS_toS, ← es] at h
        exact h) q⟩
end
end GN
end

section
set_option linter.all false
set_option maxRecDepth 100000
set_option maxHeartbeats 2000000
namespace GN
open PySem PySem.Spec PyProof.Rows L2
theorem erKs_fst : ∀ (ks : List Ky) (xs : List PyData), ks.length = xs.length → (erKs ks xs).map (·.1) = ks.map erK ∧ (erKs ks xs).map (·.2) = xs
  | [], [], _ => ⟨rfl, rfl⟩
  | [], _ :: _, h => by simp at h
  | _ :: _, [], h => by simp at h
  | k :: r, x :: xs, h => by
    obtain ⟨a, b⟩ := erKs_fst r xs (by simpa using h)
    unfold erKs at a b ⊢
    simp only [List.map_cons, List.zip_cons_cons, a, b]
    exact ⟨trivial, trivial⟩
theorem kshow : ∀ k : Ky, k.shw = true → (erK k).showable = true
  | .x (.i n), h => by simpa [erK, PyData.showable, Ky.shw, Kx.shw] using h
  | .x (.s l), h => rfl
  | .t _, h => by simp [Ky.shw] at h
theorem erKs_show : ∀ (ks : List Ky) (xs : List PyData), (ks.all Ky.shw) = true → PyData.showableAll xs = true → PyData.showableKv (erKs ks xs) = true
  | [], _, _, _ => rfl
  | _ :: _, [], _, _ => rfl
  | k :: r, x :: xs, h, g => by
    simp only [List.all_cons, Bool.and_eq_true] at h
    simp only [PyData.showableAll, Bool.and_eq_true] at g
    have := erKs_show r xs h.2 g.2
    unfold erKs at this ⊢
    simp only [List.map_cons, List.zip_cons_cons, PyData.showableKv, kshow k h.1, g.1, this, Bool.and_self]
mutual
theorem er_show : ∀ d : D, d.shw = true → (er d).showable = true
  | .non, _ => rfl
  | .bl _, _ => rfl
  | .int i, h => by simpa [er, PyData.showable, D.shw] using h
  | .str _, _ => rfl
  | .tup xs, h => by simpa [er, PyData.showable] using erL_show xs (by simpa [D.shw] using h)
  | .lst o xs, h => by simpa [er, PyData.showable] using erL_show xs (by simpa [D.shw] using h)
  | .dct o ks xs, h => by
    simp only [D.shw, Bool.and_eq_true] at h
    simp only [er, PyData.showable]
    exact erKs_show ks _ h.1 (erL_show xs h.2)
theorem erL_show : ∀ xs : List D, D.shwL xs = true → PyData.showableAll (erL xs) = true
  | [], _ => rfl
  | x :: r, h => by
    simp only [D.shwL, Bool.and_eq_true] at h
    simp [erL, PyData.showableAll, er_show x h.1, erL_show r h.2]
end
theorem int_wt {i : Int} (h : i.natAbs.log2 < 1920) : ((toString i : String) : Str).length ≤ i.natAbs.log2 + 3 := by
  have := int_text_length_le (a := i) (k := i.natAbs.log2 + 1) (by omega) (by omega)
  rw [decI_toS, toS_len]
  have e : (decI i).length = (toString i).length := by simp only [decI, List.length_map]; exact String.length_toList
  rw [e]; omega
theorem str_wt {s : List Nat} (h : (s.all fun c => decide (c < 1114112)) = true) : (reprText (toS s)).length ≤ 10 * s.length + 2 := by
  have hx : ∀ c ∈ (toS s).cps.toList, c < 16 ^ 8 := fun c hc => by
    rw [toS_cps] at hc
    have := List.all_eq_true.mp h c hc
    have h2 : c < 1114112 := by simpa using this
    exact Nat.lt_trans h2 (by decide)
  have e := StrLaws.reprText_len (toS s) hx
  have e2 := toS_len s
  omega
theorem key_wt : ∀ k : Ky, k.shw = true → (erK k).shown.length ≤ k.wt
  | .x (.i n), h => by
    simp only [erK, PyData.shown, Ky.wt, Kx.wt]
    exact int_wt (by simpa [Ky.shw, Kx.shw] using h)
  | .x (.s l), h => by
    simp only [erK, PyData.shown, Ky.wt, Kx.wt]
    exact str_wt (by simpa [Ky.shw, Kx.shw] using h)
  | .t _, h => by simp [Ky.shw] at h
theorem pairs_wt : ∀ (ks : List Ky) (xs : List PyData), (ks.all Ky.shw) = true → ((PyData.shownKv (erKs ks xs)).map (·.length)).sum + 2 * (PyData.shownKv (erKs ks xs)).length ≤ kwt ks + (((PyData.shownAll xs).map (·.length)).sum + 2 * (PyData.shownAll xs).length)
  | [], _, _ => by simp [erKs, PyData.shownKv, kwt]
  | k :: r, [], _ => by simp [erKs, PyData.shownKv]
  | k :: r, x :: xs, h => by
    simp only [List.all_cons, Bool.and_eq_true] at h
    have a := key_wt k h.1
    have b := pairs_wt r xs h.2
    have e : erKs (k :: r) (x :: xs) = (erK k, x) :: erKs r xs := rfl
    rw [e]
    simp only [PyData.shownKv, PyData.shownAll, List.map_cons, List.sum_cons, List.length_cons, kwt, strLen_append]
    have e2 : ((": " : Str)).length = 2 := rfl
    omega
mutual
theorem shown_wt : ∀ d : D, d.shw = true → (er d).shown.length ≤ d.wt
  | .non, _ => by decide
  | .bl b, _ => by cases b <;> decide
  | .int i, h => by
    simp only [er, PyData.shown, D.wt]
    exact int_wt (by simpa [D.shw] using h)
  | .str s, h => by
    simp only [er, PyData.shown, D.wt]
    exact str_wt (by simpa [D.shw] using h)
  | .tup xs, h => by
    have a := shownL_wt xs (by simpa [D.shw] using h)
    have b := tupleText_len_le (PyData.shownAll (erL xs))
    simp only [er, PyData.shown, D.wt]
    omega
  | .lst o xs, h => by
    have a := shownL_wt xs (by simpa [D.shw] using h)
    have b := listText_len_le (PyData.shownAll (erL xs))
    simp only [er, PyData.shown, D.wt]
    omega
  | .dct o ks xs, h => by
    simp only [D.shw, Bool.and_eq_true] at h
    have a := shownL_wt xs h.2
    have b := pairs_wt ks (erL xs) h.1
    have c := dictText_len_le (PyData.shownKv (erKs ks (erL xs)))
    simp only [er, PyData.shown, D.wt]
    omega
theorem shownL_wt : ∀ xs : List D, D.shwL xs = true → ((PyData.shownAll (erL xs)).map (·.length)).sum + 2 * (PyData.shownAll (erL xs)).length ≤ D.wtL xs
  | [], _ => by simp [erL, PyData.shownAll, D.wtL]
  | x :: r, h => by
    simp only [D.shwL, Bool.and_eq_true] at h
    have a := shown_wt x h.1
    have b := shownL_wt r h.2
    simp only [erL, PyData.shownAll, D.wtL, List.map_cons, List.sum_cons, List.length_cons]
    omega
end
theorem toS_repr (d : D) : (er d).shown = toS (reprD d) := by
  unfold reprD toS
  simp
theorem key_depth : ∀ k : Ky, (erK k).depth = 0
  | .x (.i _) => rfl
  | .x (.s _) => rfl
  | .t _ => rfl
theorem erKs_depth : ∀ (ks : List Ky) (xs : List PyData), PyData.depthKv (erKs ks xs) ≤ PyData.depthAll xs
  | [], _ => by simp [erKs, PyData.depthKv]
  | _ :: _, [] => by simp [erKs, PyData.depthKv]
  | k :: r, x :: xs => by
    have a := erKs_depth r xs
    have e : erKs (k :: r) (x :: xs) = (erK k, x) :: erKs r xs := rfl
    rw [e]
    simp only [PyData.depthKv, PyData.depthAll, key_depth]
    omega
mutual
theorem er_dph : ∀ d : D, (er d).depth ≤ d.dph
  | .non => by simp [er, PyData.depth]
  | .bl _ => by simp [er, PyData.depth]
  | .int _ => by simp [er, PyData.depth]
  | .str _ => by simp [er, PyData.depth]
  | .tup xs => by have := erL_dph xs; simp only [er, PyData.depth, D.dph]; omega
  | .lst o xs => by have := erL_dph xs; simp only [er, PyData.depth, D.dph]; omega
  | .dct o ks xs => by
    have := erL_dph xs
    have := erKs_depth ks (erL xs)
    simp only [er, PyData.depth, D.dph]; omega
theorem erL_dph : ∀ xs : List D, PyData.depthAll (erL xs) ≤ D.dphL xs
  | [] => by simp [erL, PyData.depthAll]
  | x :: r => by
    have := er_dph x
    have := erL_dph r
    simp only [erL, PyData.depthAll, D.dphL]; omega
end
/-! what is read, and told -/
section
variable {X : Cx} {pins : List (Addr × Obj)} {σ : L2.St} {H : Hp} {s : Shared} {Z : Addr → Prop}
def Told (X : Cx) (s : Shared) (u : Value) (d : PyData) : Prop := (∃ as, Reads s.heap u d as) ∧ (d.showable = true → d.shown.length ≤ sizeLine → ∃ bs, ReadAtMost s.heap d.depth bs ∧ ReprK X.prog X.w bs s.heap d.depth u d.shown) ∧ ∀ a, u = .ref a → d.showable = true → d.shown.length ≤ sizeLine → ∃ T idr, ShowsBy X.prog X.w s.heap a d T idr
def ToldL (X : Cx) (s : Shared) (us : List Value) (ds : List PyData) : Prop := (∃ as, ReadsAll s.heap us ds as) ∧ (PyData.showableAll ds = true → (∀ t ∈ PyData.shownAll ds, t.length ≤ sizeLine) → ∃ bs, ReadAtMost s.heap (PyData.depthAll ds) bs ∧ ReprAllK X.prog X.w bs s.heap (PyData.depthAll ds) us (PyData.shownAll ds))
theorem ToldL.nil : ToldL X s [] [] := ⟨⟨_, .nil⟩, fun _ _ => ⟨[], (fun _ h => nomatch h), .nil⟩⟩
theorem ToldL.cons {u : Value} {us : List Value} {d : PyData} {ds : List PyData} (a : Told X s u d) (b : ToldL X s us ds) : ToldL X s (u :: us) (d :: ds) := by
  obtain ⟨⟨as, ra⟩, ta, _⟩ := a
  obtain ⟨⟨bs, rb⟩, tb⟩ := b
  refine ⟨⟨_, .cons ra rb⟩, fun h g => ?_⟩
  simp only [PyData.showableAll, Bool.and_eq_true] at h
  obtain ⟨b1, q1, k1⟩ := ta h.1 (g _ (by simp [PyData.shownAll]))
  obtain ⟨b2, q2, k2⟩ := tb h.2 fun t ht => g t (by simp [PyData.shownAll, ht])
  refine ⟨b1 ++ b2, fun x hm => ?_, ?_⟩
  · rcases List.mem_append.mp hm with hm | hm
    · obtain ⟨d', as', r', e'⟩ := q1 x hm
      exact ⟨d', as', r', Nat.le_trans e' (by simp only [PyData.depthAll]; omega)⟩
    · obtain ⟨d', as', r', e'⟩ := q2 x hm
      exact ⟨d', as', r', Nat.le_trans e' (by simp only [PyData.depthAll]; omega)⟩
  · have m1 := (k1.more (as' := b1 ++ b2) fun x m => List.mem_append.mpr (.inl m)).level_le (d' := PyData.depthAll (d :: ds)) (by simp only [PyData.depthAll]; omega)
    have m2 := k2.more_le (as' := b1 ++ b2) (d' := PyData.depthAll (d :: ds)) (fun x m => List.mem_append.mpr (.inr m)) (by simp only [PyData.depthAll]; omega)
    simp only [PyData.shownAll]
    exact .cons m1 m2
theorem told_list {a : Addr} {o : Obj} {its : List Value} {n : Nat} {ds : List PyData} (g1 : s.heap.get? a = some o) (g2 : o.cls = .type "list") (g3 : o.data = .seq its.toArray n) (t : ToldL X s its ds) : Told X s (.ref a) (.list ds) := by
  obtain ⟨⟨as, ra⟩, ta⟩ := t
  have rr : Reads s.heap (.ref a) (.list ds) (a :: as) := .list g1 g2 g3 ra
  refine ⟨⟨_, rr⟩, fun h g => ?_, fun a' ea h g => ?_⟩
  case' refine_2 => cases ea
  all_goals
    simp only [PyData.shown] at g
    obtain ⟨bs, q, k⟩ := ta (by simpa [PyData.showable] using h) fun t m => Nat.le_trans (listText_mem_le m) g
    have na : a ∉ bs := not_mem_of_deeper rr (by simp only [PyData.depth]; omega) q
  case' refine_2 =>
    refine ⟨"list", "list.__repr__", F.slot_list_repr.toG, F.slot_list_str, F.slot_list_format, fun z k0 => ⟨o, k0 _ _ g1, g2⟩, fun A E z Q hg hu k0 hQ => ?_⟩
    simp only [PyData.depth] at hu
    simp only [PyData.shown] at hQ
    cases its with
    | nil =>
      cases ra
      simp only [PyData.shownAll, listText_nil] at hQ
      exact call_list_repr_empty ⟨o, k0 _ _ g1, g2⟩ (k0 _ _ g1) g3 (hQ z.heap _ _ fun _ _ e => e)
    | cons y l => exact call_list_reprK g1 g2 g3 na (by simpa using k.length_eq) (fun i y e => k.item i y (by simpa using e)) hg (fun b _ => Clear.nil b) hu k0 hQ g
  refine ⟨a :: bs, ReadAtMost.cons rr (by simp only [PyData.depth]; omega) q, ?_⟩
  cases its with
  | nil =>
    cases ra
    have := ReprK.listEmpty (prog := X.prog) (w := X.w) (as := a :: bs) (d := (PyData.list []).depth) g1 g2 g3
    simpa only [PyData.shown, PyData.shownAll, listText_nil] using this
  | cons x l =>
    have := ReprK.list (prog := X.prog) (w := X.w) g1 g2 g3 na (by simpa using k.length_eq) (fun i y e => k.item i y (by simpa using e))
    simpa only [PyData.depth, PyData.shown] using this
theorem told_tuple {a : Addr} {o : Obj} {its : List Value} {n : Nat} {ds : List PyData} (g1 : s.heap.get? a = some o) (g2 : o.cls = .type "tuple") (g3 : o.data = .seq its.toArray n) (t : ToldL X s its ds) : Told X s (.ref a) (.tuple ds) := by
  obtain ⟨⟨as, ra⟩, ta⟩ := t
  have rr : Reads s.heap (.ref a) (.tuple ds) as := .tuple g1 g2 g3 ra
  refine ⟨⟨_, rr⟩, fun h g => ?_, fun a' ea h g => ?_⟩
  case' refine_2 => cases ea
  all_goals
    simp only [PyData.shown] at g
    obtain ⟨bs, q, k⟩ := ta (by simpa [PyData.showable] using h) fun t m => Nat.le_trans (tupleText_mem_le m) g
    have na : a ∉ bs := not_mem_of_deeper rr (by simp only [PyData.depth]; omega) q
  case' refine_2 =>
    refine ⟨"tuple", "tuple.__repr__", F.slot_tuple_repr, F.slot_tuple_str, F.slot_tuple_format, fun z k0 => ⟨o, k0 _ _ g1, g2⟩, fun A E z Q hg hu k0 hQ => ?_⟩
    simp only [PyData.depth] at hu
    simp only [PyData.shown] at hQ
    exact call_tuple_reprK g1 g2 g3 na k hg (fun b _ => Clear.nil b) hu k0 hQ g
  refine ⟨a :: bs, ReadAtMost.cons rr (by simp only [PyData.depth]; omega) q, ?_⟩
  have := ReprK.tuple (prog := X.prog) (w := X.w) g1 g2 g3 na k
  simpa only [PyData.depth, PyData.shown] using this
/-- a dict's keys, read and told -/
theorem told_keys : ∀ {ks : List Ky} {vs : List (Key × Value)} {es : List DictEntry}, kyOk ks (vs.map (·.1)) → Pairs (mixKind X.prog X.w) es vs → ToldL X s (es.map (·.key)) (ks.map erK)
  | [], [], _, _, .nil => ToldL.nil
  | [], _ :: _, _, h, _ => by simp [kyOk] at h
  | .t _ :: _, _, _, h, _ => h.elim
  | .x k :: r, [], _, h, _ => by obtain ⟨_, e, _⟩ := h; cases e
  | .x k :: r, kv :: vs, e :: es, h, .cons hk hv hp => by
    obtain ⟨ks', e1, h2⟩ := h
    simp only [List.map_cons, List.cons.injEq] at e1
    obtain ⟨e1, rfl⟩ := e1
    refine ToldL.cons ?_ (told_keys h2 hp)
    have hk' : keyIs kv.1 e.key = true := hk
    cases k with
    | i n =>
      rcases keyIs_shape hk' with ⟨i, t, q1, q2⟩ | ⟨x, t, q1, q2⟩
      · rw [e1] at q1; cases q1
        show Told X s e.key _
        rw [q2]
        exact ⟨⟨_, .int _ _⟩, fun h _ => ⟨[], (fun _ h => nomatch h), .of_is (ReprIs.int t (by simpa [erK, PyData.showable] using h)) _ _ _⟩, fun _ e => nomatch e⟩
      · rw [e1] at q1; cases q1
    | s l =>
      rcases keyIs_shape hk' with ⟨i, t, q1, q2⟩ | ⟨x, t, q1, q2⟩
      · rw [e1] at q1; cases q1
      · rw [e1] at q1; cases q1
        show Told X s e.key _
        rw [q2]
        exact ⟨⟨_, .str _ _⟩, fun h g => ⟨[], (fun _ h => nomatch h), .of_is (ReprIs.str _ t (by simpa [erK, PyData.shown] using g)) _ _ _⟩, fun _ e => nomatch e⟩
theorem kyOk_ln : ∀ {ks : List Ky} {l : List Key}, kyOk ks l → ks.length = l.length
  | [], l, h => by have h : l = [] := h; rw [h]; rfl
  | .x _ :: r, l, h => by obtain ⟨l', rfl, h⟩ := h; simp [kyOk_ln h]
  | .t _ :: _, _, h => h.elim
theorem told_dict {a : Addr} {o : Obj} {es : Array DictEntry} {n : Nat} {ks : List Ky} {ds : List PyData} (g1 : s.heap.get? a = some o) (g2 : o.cls = .type "dict") (g3 : o.data = .dict es n) (hs : (a == sysModules) = false) (hl : ks.length = ds.length) (t1 : ToldL X s (es.toList.map (·.key)) (ks.map erK)) (t2 : ToldL X s (es.toList.map (·.val)) ds) :
    Told X s (.ref a) (.dict (erKs ks ds)) := by
  obtain ⟨⟨as, ra⟩, ta⟩ := t1
  obtain ⟨⟨bs, rb⟩, tb⟩ := t2
  obtain ⟨e1, e2⟩ := erKs_fst ks ds hl
  have rr : Reads s.heap (.ref a) (.dict (erKs ks ds)) (a :: as ++ bs) := .dict g1 g2 g3 (by rw [e1]; exact ra) (by rw [e2]; exact rb)
  refine ⟨⟨_, rr⟩, fun h g => ?_, fun a' ea h g => ?_⟩
  case' refine_2 => cases ea
  all_goals
    simp only [PyData.shown] at g
    obtain ⟨s1, s2⟩ := PyData.showableKv_split (erKs ks ds) (by simpa [PyData.showable] using h)
    rw [e1] at s1
    rw [e2] at s2
    obtain ⟨b1, q1, k1⟩ := ta s1 fun t ht => by
      obtain ⟨p, hp, hl⟩ := PyData.shownKv_key_le (erKs ks ds) t (by rw [e1]; exact ht)
      exact Nat.le_trans hl (Nat.le_trans (dictText_mem_le hp) g)
    obtain ⟨b2, q2, k2⟩ := tb s2 fun t ht => by
      obtain ⟨p, hp, hl⟩ := PyData.shownKv_val_le (erKs ks ds) t (by rw [e2]; exact ht)
      exact Nat.le_trans hl (Nat.le_trans (dictText_mem_le hp) g)
    have dk := PyData.depthAll_keys_le (erKs ks ds)
    have dv := PyData.depthAll_vals_le (erKs ks ds)
    rw [e1] at dk
    rw [e2] at dv
    have q : ReadAtMost s.heap (PyData.depthKv (erKs ks ds)) (b1 ++ b2) := (q1.mono dk).append (q2.mono dv)
    have na : a ∉ b1 ++ b2 := not_mem_of_deeper rr (by simp only [PyData.depth]; omega) q
    have e3 := PyData.shownKv_eq (erKs ks ds)
    rw [e1, e2] at e3
    have ents := ReprEntriesK.of_two (d := PyData.depthKv (erKs ks ds)) es.toList _ _ (k1.more_le (as' := b1 ++ b2) (fun b m => List.mem_append.mpr (.inl m)) dk) (k2.more_le (as' := b1 ++ b2) (fun b m => List.mem_append.mpr (.inr m)) dv)
  case' refine_2 =>
    refine ⟨"dict", "dict.__repr__", F.slot_dict_repr, F.slot_dict_str, F.slot_dict_format, fun z k0 => ⟨o, k0 _ _ g1, g2⟩, fun A E z Q hg hu k0 hQ => ?_⟩
    simp only [PyData.depth] at hu
    simp only [PyData.shown, e3] at hQ
    exact call_dict_reprK g1 g2 g3 hs na ents hg (fun b _ => Clear.nil b) hu k0 hQ (by rw [← e3]; exact g)
  refine ⟨a :: (b1 ++ b2), ReadAtMost.cons rr (by simp only [PyData.depth]; omega) q, ?_⟩
  simp only [PyData.depth, PyData.shown, e3]
  exact ReprK.dict (prog := X.prog) (w := X.w) g1 g2 g3 hs na ents
theorem kv_split : ∀ {kvs : List (Key × V)} {vs : List (Key × Value)} {es : List DictEntry}, KV kvs vs → Pairs (mixKind X.prog X.w) es vs → vs.map (·.1) = kvs.map (·.1) ∧ Vals (kvs.map (·.2)) (es.map (·.val))
  | _, _, _, .nil, .nil => ⟨rfl, .nil⟩
  | _, _, _, .cons h t, .cons hk hv hp => by
    obtain ⟨a, b⟩ := kv_split t hp
    exact ⟨by simp only [List.map_cons, a, h.1], by simp only [List.map_cons]; rw [hv]; exact .cons h.2 b⟩
mutual
theorem told (I : Inv X pins σ H s) : ∀ (d : D) (v : V) (f : List Addr) (u : Value), Rel X.K Z H d v f → RelV v u → Told X s u (er d)
  | .non, v, f, u, h, r => by
    rw [h.1] at r; cases r
    exact ⟨⟨_, .none⟩, fun _ _ => ⟨[], (fun _ h => nomatch h), .of_is ReprIs.none _ _ _⟩, fun _ e => nomatch e⟩
  | .bl b, v, f, u, h, r => by
    rw [h.1] at r; cases r
    exact ⟨⟨_, .bool b⟩, fun _ _ => ⟨[], (fun _ h => nomatch h), by simp only [er, PyData.shown]; exact .of_is (ReprIs.bool b) _ _ _⟩, fun _ e => nomatch e⟩
  | .int i, v, f, u, h, r => by
    rw [h.1] at r; obtain ⟨t, rfl⟩ := r
    exact ⟨⟨_, .int i t⟩, fun h _ => ⟨[], (fun _ h => nomatch h), .of_is (ReprIs.int t (by simpa [er, PyData.showable] using h)) _ _ _⟩, fun _ e => nomatch e⟩
  | .str x, v, f, u, h, r => by
    rw [h.1] at r; obtain ⟨t, rfl⟩ := r
    exact ⟨⟨_, .str _ t⟩, fun _ g => ⟨[], (fun _ h => nomatch h), .of_is (ReprIs.str _ t (by simpa [er, PyData.shown] using g)) _ _ _⟩, fun _ e => nomatch e⟩
  | .tup xs, v, f, u, h, r => by
    obtain ⟨a, vs, rfl, sq, rl⟩ := h
    cases r
    obtain ⟨its, rv, ⟨o, ho, hc, n, hd⟩, _⟩ := I.tuple sq
    have t := toldL I xs vs f its rl rv
    simp only [er]
    exact told_tuple ho hc hd t
  | .lst o xs, v, f, u, h, r => by
    obtain ⟨a, vs, f', rfl, sq, rl, _⟩ := Bor.lst (o := o) (xs := xs) ⟨f, h⟩
    cases r
    obtain ⟨its, rv, ⟨o, n, ho, hc, _, hd⟩, _⟩ := I.list sq
    have t := toldL I xs vs f' its rl rv
    simp only [er]
    exact told_list ho hc hd t
  | .dct .own ks xs, v, f, u, h, r => by
    obtain ⟨a, kvs, f', rfl, hH, hky, _, rl⟩ := h
    cases r
    obtain ⟨_, hsm, vs, hkv, o, es, ep, ho, hx, hd, _, hp, _⟩ := dk_of I.hok hH
    obtain ⟨e1, rv⟩ := kv_split hkv hp
    simp only [er]
    refine told_dict ho hx.1 hd hsm ?_ (told_keys (by rw [e1]; exact hky) hp) (toldL I xs _ f' _ rl rv)
    rw [kyOk_ln hky, List.length_map, erL_len, ← rl.len, List.length_map]
  | .dct .shr ks xs, v, f, u, h, r => by
    obtain ⟨a, kvs, rfl, hH, _, hky, rl, _⟩ := h
    cases r
    obtain ⟨_, hsm, vs, hkv, o, es, ep, ho, hx, hd, _, hp, _⟩ := dk_of I.hok hH
    obtain ⟨e1, rv⟩ := kv_split hkv hp
    simp only [er]
    refine told_dict ho hx.1 hd hsm ?_ (told_keys (by rw [e1]; exact hky) hp) (toldL I xs _ [] _ rl rv)
    rw [kyOk_ln hky, List.length_map, erL_len, ← rl.len, List.length_map]
  | .dct .ext ks xs, v, f, u, h, r => h.elim
theorem toldL (I : Inv X pins σ H s) : ∀ (ds : List D) (vs : List V) (f : List Addr) (us : List Value), RelL X.K Z H ds vs f → Vals vs us → ToldL X s us (erL ds)
  | [], vs, f, us, h, r => by
    rw [h.1] at r; cases r
    exact ToldL.nil
  | d :: ds, vs, f, us, h, r => by
    obtain ⟨v, vs', f1, f2, rfl, rfl, h1, h2⟩ := h
    cases r with
    | cons r1 r2 => exact ToldL.cons (told I d v f1 _ h1 r1) (toldL I ds vs' f2 _ h2 r2)
theorem erL_len : ∀ xs : List D, (erL xs).length = xs.length
  | [] => rfl
  | x :: r => by simp [erL, erL_len r]
end
/-- repr of a list, a tuple, a dict that is told -/
theorem repr_of_told {a : Addr} {d : PyData} {A : Around} {E : Value → Shared → Prop} {Q : Value → Shared → Prop} (t : Told X s (.ref a) d) (hs : d.showable = true) (hz : d.shown.length ≤ sizeLine) (hg : A.guards = some []) (hu : A.units + (d.depth + 1) < cLine)
    (hQ : ∀ h' u tk, (∀ b o, s.heap.get? b = some o → h'.get? b = some o) → Q (.str d.shown u) { s with heap := h', toks := tk }) : wpAny (model X.prog X.w) A (call (.builtin "repr") [.ref a]) Q E s := by
  obtain ⟨T, idr, S⟩ := t.2.2 a rfl hs hz
  have k0 : ∀ b o, s.heap.get? b = some o → s.heap.get? b = some o := fun _ _ e => e
  exact call_repr_slot (by omega) (S.typeIs s k0) S.slotRepr (S.call A.in1 E s _ hg (by show A.units + 1 + d.depth < cLine; omega) k0 fun h' u tk hk => ⟨_, _, rfl, hQ h' u tk hk⟩)
end
section
variable {X : Cx}
theorem repr_good (hg : X.A.guards = some []) (hu : X.A.units + 64 < cLine) : CallR X (.builtin "repr") (fun xs H Q => Good X.K .repr xs H Q) := by
  intro pins s σ H xs us Q I r q0
  obtain ⟨Z, a, d, x, zh, rfl, b, e, q⟩ := good1 (f := evRepr) (fun ds => by unfold evPrim; split <;> simp_all) q0
  unfold evRepr at e
  obtain ⟨⟨c1, c2, c3⟩, rfl⟩ := ite_s e
  obtain ⟨u, rfl, ru⟩ := vals1 r
  have sz : (er a).shown.length ≤ sizeLine := Nat.le_trans (shown_wt a c3) (by rw [← line_eq]; exact c2)
  have s1 := er_show a c3
  have qq : ∀ {u : Value} {t : Shared}, Inv X pins σ H t → RelV (.str (toS (reprD a))) u → EP X pins σ Q u t := fun I r => ⟨_, H, I, r, q _ _ _ [] (Fsh.refl zh) rel_str⟩
  have es := toS_repr a
  obtain ⟨f, b0⟩ := b
  have td := told I a x f u b0 ru
  have ed := er_dph a
  have b : Bor X.K Z H a x := ⟨f, b0⟩
  cases a with
  | non =>
    rw [b.non] at ru; cases ru
    exact PySem.P.repr_of_none (qq (I.tok _) ⟨_, by rw [← es]; rfl⟩)
  | bl k =>
    rw [b.bl] at ru; cases ru
    exact PySem.P.repr_of_bool (qq (I.tok _) ⟨_, by rw [← es]; rfl⟩)
  | int i =>
    rw [b.int] at ru; obtain ⟨t, rfl⟩ := ru
    exact PySem.P.repr_of_int (by simpa [D.shw] using c3) (qq (I.tok _) ⟨_, by rw [← es]; rfl⟩)
  | str i =>
    rw [b.str] at ru; obtain ⟨t, rfl⟩ := ru
    exact PySem.P.repr_of_str (qq (I.tok _) ⟨_, by rw [← es]; rfl⟩) sz
  | tup ys =>
    obtain ⟨p, vs, f, rfl, _⟩ := b.tup
    cases ru
    exact repr_of_told td s1 sz hg (by omega) fun h' u tk hk => by rw [es]; exact qq (I.kept hk) ⟨_, rfl⟩
  | lst o ys =>
    obtain ⟨p, vs, f, rfl, _⟩ := b.lst
    cases ru
    exact repr_of_told td s1 sz hg (by omega) fun h' u tk hk => by rw [es]; exact qq (I.kept hk) ⟨_, rfl⟩
  | dct o ks vs =>
    obtain ⟨p, rfl⟩ : ∃ p, x = .ref p := by
      cases o
      · obtain ⟨p, _, _, e, _⟩ := b0; exact ⟨p, e⟩
      · obtain ⟨p, _, e, _⟩ := b0; exact ⟨p, e⟩
      · exact b0.elim
    cases ru
    exact repr_of_told td s1 sz hg (by omega) fun h' u tk hk => by rw [es]; exact qq (I.kept hk) ⟨_, rfl⟩
end
end GN
end

section
set_option linter.all false
set_option maxRecDepth 100000
set_option maxHeartbeats 2000000
namespace GN
open PySem PySem.Spec PyProof.Rows L2
theorem codeI_eq : ∀ k : List Int, codeI k = TS.code 64 k
  | [] => rfl
  | x :: r => by simp only [codeI, TS.code, codeI_eq r]
theorem code_inj : ∀ {a b : List Int}, a.length = b.length → TS.Bd 64 a → TS.Bd 64 b → TS.code 64 a = TS.code 64 b → a = b
  | [], [], _, _, _, _ => rfl
  | [], y :: s, h, _, _, _ => by simp at h
  | x :: r, [], h, _, _, _ => by simp at h
  | x :: r, y :: s, h, ha, hb, e => by
    have hl : r.length = s.length := by simpa using h
    rcases Int.lt_trichotomy x y with c | c | c
    · have := TS.code_lt hl ha.tail hb.tail c
      omega
    · subst c
      have e2 : TS.code 64 r = TS.code 64 s := by
        simp only [TS.code, hl] at e; omega
      rw [code_inj hl ha.tail hb.tail e2]
    · have := TS.code_lt hl.symm hb.tail ha.tail c
      omega
theorem dedup_mem : ∀ {l : List (List Int)} {x : List Int}, x ∈ dedupI l ↔ x ∈ l
  | [], x => Iff.rfl
  | y :: r, x => by
    unfold dedupI
    split
    · rename_i h
      rw [dedup_mem (l := r), List.mem_cons]
      refine ⟨.inr, fun q => q.elim (fun e => ?_) id⟩
      rw [e]; simpa using h
    · rw [List.mem_cons, List.mem_cons, dedup_mem (l := r)]
theorem dedup_nodup : ∀ l : List (List Int), (dedupI l).Nodup
  | [] => List.nodup_nil
  | y :: r => by
    unfold dedupI
    split
    · exact dedup_nodup r
    · rename_i h
      refine List.nodup_cons.mpr ⟨fun q => h ?_, dedup_nodup r⟩
      simpa using dedup_mem.mp q
theorem set_uniq {d : Nat} {l R : List (List Int)} (hd : ∀ k ∈ l, k.length = d ∧ TS.Bd 64 k) (nd : R.Nodup) (mem : ∀ k, k ∈ R ↔ k ∈ l) (pw : R.Pairwise fun a b => TS.code 64 a ≤ TS.code 64 b) :
    R = sortBy (fun a b => decide (codeI a < codeI b)) (dedupI l) := by
  have p1 := sortBy_sorted (lt := fun a b => decide (codeI a < codeI b)) (fun a b h => by simp at h ⊢; omega) (fun a b c h g => by simp at h g ⊢; omega) (dedupI l)
  have pp := sortBy_perm (fun a b => decide (codeI a < codeI b)) (dedupI l)
  have nd2 : (sortBy (fun a b => decide (codeI a < codeI b)) (dedupI l)).Nodup := pp.nodup_iff.mpr (dedup_nodup l)
  have mem2 : ∀ k, k ∈ sortBy (fun a b => decide (codeI a < codeI b)) (dedupI l) ↔ k ∈ l := fun k => by rw [pp.mem_iff, dedup_mem]
  refine List.Perm.eq_of_pairwise (le := fun a b => TS.code 64 a ≤ TS.code 64 b) (fun a b ha hb h1 h2 => ?_) pw (p1.imp fun {a b} h => ?_) ((List.perm_ext_iff_of_nodup nd nd2).mpr fun k => by rw [mem, mem2])
  · have qa := hd a ((mem a).mp ha)
    have qb := hd b ((mem2 b).mp hb)
    exact code_inj (by rw [qa.1, qb.1]) qa.2 qb.2 (by omega)
  · simp only [decide_eq_false_iff_not, codeI_eq] at h; omega
section
variable {K : PySem.W.Frag} {Z : Addr → Prop} {H : Hp}
theorem tups_of : ∀ {xs : List D} {vs : List V} {f : List Addr} {l : List (List Int)}, RelL K Z H xs vs f → tupsI xs = some l → ∃ ks : List (Addr × List Int), vs = ks.map (fun p => V.ref p.1) ∧ l = ks.map (·.2) ∧ ∀ p ∈ ks, SqT K H p.1 (p.2.map V.int)
  | [], vs, f, l, h, e => by
    simp [tupsI] at e; subst e
    exact ⟨[], h.1, rfl, fun p m => nomatch m⟩
  | .tup ys :: xs, vs, f, l, h, e => by
    obtain ⟨v, r, f1, f2, rfl, rfl, h1, h2⟩ := h
    simp only [tupsI] at e
    obtain ⟨k, e1, e2⟩ := Option.bind_eq_some_iff.mp e
    obtain ⟨l', e3, rfl⟩ := Option.map_eq_some_iff.mp e2
    obtain ⟨ks, rfl, rfl, hk⟩ := tups_of h2 e3
    obtain ⟨a, us, rfl, s, rl⟩ := h1
    obtain ⟨rfl, _⟩ := rl.ints e1
    refine ⟨(a, k) :: ks, rfl, rfl, fun p m => ?_⟩
    rcases List.mem_cons.mp m with rfl | m
    · exact s
    · exact hk p m
  | .non :: _, _, _, _, _, e => by simp [tupsI] at e
  | .bl _ :: _, _, _, _, _, e => by simp [tupsI] at e
  | .int _ :: _, _, _, _, _, e => by simp [tupsI] at e
  | .str _ :: _, _, _, _, _, e => by simp [tupsI] at e
  | .lst _ _ :: _, _, _, _, _, e => by simp [tupsI] at e
  | .dct _ _ _ :: _, _, _, _, _, e => by simp [tupsI] at e
theorem relL_intsV : ∀ ns : List Int, RelL K Z H (ns.map D.int) (ns.map V.int) []
  | [] => ⟨rfl, rfl⟩
  | n :: r => ⟨.int n, r.map V.int, [], [], rfl, rfl, ⟨rfl, rfl⟩, relL_intsV r⟩
theorem rows_rel : ∀ {ks : List (Addr × List Int)}, (∀ p ∈ ks, SqT K H p.1 (p.2.map V.int)) → RelL K Z H ((ks.map (·.2)).map rowI) (ks.map fun p => V.ref p.1) []
  | [], _ => ⟨rfl, rfl⟩
  | p :: ks, h => ⟨.ref p.1, _, [], [], rfl, rfl, ⟨p.1, _, rfl, h p (by simp), relL_intsV _⟩, rows_rel fun q m => h q (by simp [m])⟩
theorem plain_rows : ∀ l : List (List Int), D.plainL (l.map rowI) = true
  | [] => rfl
  | k :: r => by
    have : ∀ l : List Int, D.plainL (l.map D.int) = true := fun l => by
      induction l with
      | nil => rfl
      | cons x r ih => simp [D.plainL, D.plain, ih]
    simp [D.plainL, rowI, D.plain, this, plain_rows r]
end
section
variable {X : Cx} {C : Cfg} {G : List Str}
theorem sortSet_pe (B : Base X C G) {e : Expr} {te : TE} {px py p1 p2 : Pos} (he : PE X e te) (m : Mono te) (hn : starEach [e] X.env = (false, eval e X.env) :: starEach [] X.env) (hg : Gl X "sorted") (hg2 : Gl X "set")
    (hs2 : starEach [.Call (.Name "set" py) [e] [] p1] X.env = (false, eval (.Call (.Name "set" py) [e] [] p1) X.env) :: starEach [] X.env) (b1 : bootBuiltins "set" = some (.type "set")) (b2 : bootBuiltins "sorted" = some (.builtin "sorted")) :
    PE X (.Call (.Name "sorted" px) [.Call (.Name "set" py) [e] [] p1] [] p2) (tPrim X.K .sortSet [te]) := by
  have i1 := pe_callTy (p := py) (pos := p1) (cr_setOfT B.calm B.un) hg2 (B.blt _ (by decide)) b1 (pa_cons he pa_nil hn) (by decide) (by decide) hn rfl
  have i2 := pe_callB (p := px) (pos := p2) (cr_sortedT B.calm) hg (B.blt _ (by decide)) b2 (pa_cons i1 pa_nil hs2) (by decide) (by decide) hs2 rfl
  refine PE.imp i2 fun σ H Q q => m σ H _ _ (fun v H1 g => ?_) q
  obtain ⟨Z, ds, d, zh, b, e, q⟩ := g
  obtain ⟨d1, rfl, b1⟩ := b.one
  change evSortSet d1 = some d at e
  cases d1 <;> simp only [evSortSet] at e <;> try (cases e; done)
  rename_i o xs
  obtain ⟨l, e1, e2⟩ := Option.bind_eq_some_iff.mp e
  obtain ⟨⟨hl, hall⟩, e3⟩ := ite_s e2
  cases e3
  obtain ⟨a, vs, f, rfl, sq, rl, _⟩ := b1.lst
  obtain ⟨ks, rfl, rfl, hk⟩ := tups_of rl e1
  simp only [List.length_map] at hl
  have hd : ∀ k ∈ ks.map (·.2), k.length = ((ks.map (·.2)).headD [0]).length ∧ TS.Bd 64 k ∧ k ≠ [] := fun k hk => by
    have := List.all_eq_true.mp hall k hk
    simp only [Bool.and_eq_true, beq_iff_eq, Bool.not_eq_true', List.isEmpty_eq_false_iff, List.all_eq_true, decide_eq_true_eq] at this
    exact ⟨this.1.1, fun m hm => this.2 m hm, this.1.2⟩
  refine ⟨a, ks, rfl, sq, hk, hl, fun a2 L hn2 sub all => ?_⟩
  have F1 : Fsh Z H1 Z (upd H1 a2 (SetTO X.prog X.w a2 L)) [] := Fsh.one zh hn2 (.inl rfl)
  have A1 : Agr Z H1 [] Z (upd H1 a2 (SetTO X.prog X.w a2 L)) := F1.agr fun b m => nomatch m
  have zh1 := F1.ok.zh
  refine ⟨a2, L, ((ks.map (·.2)).headD [0]).length, 64, rfl, upd_same, fun p hp => A1.sqT (hk p (sub p hp)), ?_, fun p hp => ?_, fun L' p pm nd few pw hnp => ?_⟩
  · cases ks with
    | nil => decide
    | cons p r =>
      have := (hd p.2 (by simp)).2.2
      simp only [List.map_cons, List.headD_cons]
      cases h : p.2 with
      | nil => exact absurd h this
      | cons x y => simp
  · have := hd p.2 (List.mem_map.mpr ⟨p, sub p hp, rfl⟩)
    exact ⟨this.1, this.2.1⟩
  · have eR := set_uniq (d := ((ks.map (·.2)).headD [0]).length) (l := ks.map (·.2)) (R := L'.map (·.2)) (fun k hk => ⟨(hd k hk).1, (hd k hk).2.1⟩) nd (fun k => ?_) (List.pairwise_map.mpr pw)
    · rw [← eR] at q
      have r0 : RelL X.K Z (upd H1 a2 (SetTO X.prog X.w a2 L)) ((L'.map (·.2)).map rowI) (L'.map fun p => V.ref p.1) [] := rows_rel fun p hp => A1.sqT (hk p (sub p (pm.mem_iff.mp hp)))
      obtain ⟨F2, R2⟩ := new_lst zh1 hnp r0 (plain_rows _)
      exact q _ _ _ _ (F1.trans F2) R2
    · constructor
      · intro h
        obtain ⟨p, hp, rfl⟩ := List.mem_map.mp h
        exact List.mem_map.mpr ⟨p, sub p (pm.mem_iff.mp hp), rfl⟩
      · intro h
        obtain ⟨p, hp, rfl⟩ := List.mem_map.mp h
        obtain ⟨p', hp', e'⟩ := List.mem_map.mp (all p hp)
        exact List.mem_map.mpr ⟨p', pm.mem_iff.mpr hp', e'⟩
theorem rangeL_eq : ∀ (n : Nat) (lo : Int), rangeL lo n = (List.range n).map fun (i : Nat) => lo + (i : Int)
  | 0, _ => rfl
  | n + 1, lo => by
    rw [List.range_succ_eq_map, List.map_cons, List.map_map, rangeL, rangeL_eq n (lo + 1)]
    simp only [Int.natCast_zero, Int.add_zero, List.cons.injEq, true_and]
    refine List.map_congr_left fun i _ => ?_
    simp only [Function.comp]; omega
theorem listRg_pe (B : Base X C G) {e : Expr} {te : TE} {px py p1 p2 : Pos} (he : PE X e te) (m : Mono te) (hn : starEach [e] X.env = (false, eval e X.env) :: starEach [] X.env) (hg : Gl X "list") (hg2 : Gl X "range")
    (hs2 : starEach [.Call (.Name "range" py) [e] [] p1] X.env = (false, eval (.Call (.Name "range" py) [e] [] p1) X.env) :: starEach [] X.env) :
    PE X (.Call (.Name "list" px) [.Call (.Name "range" py) [e] [] p1] [] p2) (tPrim X.K .lstRg [te]) := by
  have i2 := pe_listRg (p := px) (pos := p2) B.calm hg (B.blt _ (by decide)) (prg_1 (p := py) (pos := p1) hg2 (B.blt _ (by decide)) he hn) hs2
  refine PE.imp i2 fun σ H Q q => m σ H _ _ (fun v H1 g => ?_) q
  obtain ⟨Z, ds, d, zh, b, e, q⟩ := g
  obtain ⟨d1, rfl, b1⟩ := b.one
  change evLstRg d1 = some d at e
  cases d1 <;> simp only [evLstRg] at e <;> try (cases e; done)
  rename_i n
  obtain ⟨⟨h1, h2⟩, e3⟩ := ite_s e
  cases e3
  refine ⟨n, b1.int, ⟨by omega, by omega, by omega, by omega, by omega⟩, fun p hp => ?_⟩
  have r0 : RelL X.K Z H1 ((rangeL 0 n.toNat).map D.int) ((rangeL 0 n.toNat).map V.int) [] := relL_intsV _
  have pl : ∀ l : List Int, D.plainL (l.map D.int) = true := fun l => by
    induction l with
    | nil => rfl
    | cons x r ih => simp [D.plainL, D.plain, ih]
  have ev : rgV 0 n = (rangeL 0 n.toNat).map V.int := by
    unfold rgV
    rw [rangeL_eq, List.map_map]
    simp only [Int.sub_zero]; rfl
  rw [ev]
  obtain ⟨F2, R2⟩ := new_lst zh hp r0 (pl _)
  exact q _ _ _ _ F2 R2
end
end GN
end

section
set_option linter.all false
set_option maxRecDepth 100000
set_option maxHeartbeats 2000000
namespace GN
open PySem PySem.Spec PyProof.Rows L2
/-! xs[::-1] of a list, a tuple, a text -/
theorem RelL.rev {K : PySem.W.Frag} {Z : Addr → Prop} {H : Hp} : ∀ {ds : List D} {vs : List V}, RelL K Z H ds vs [] → RelL K Z H ds.reverse vs.reverse []
  | [], vs, h => by rw [h.1]; exact ⟨rfl, rfl⟩
  | d :: ds, vs, h => by
    obtain ⟨v, r, f1, f2, rfl, ef, h1, h2⟩ := h
    have e := List.append_eq_nil_iff.mp ef.symm
    rw [e.1] at h1
    rw [e.2] at h2
    rw [List.reverse_cons, List.reverse_cons]
    exact RelL.app (RelL.rev h2) (show RelL K Z H [d] [v] [] from ⟨v, [], [], [], rfl, rfl, h1, rfl, rfl⟩)
theorem plainL_rev : ∀ {xs : List D}, D.plainL xs = true → D.plainL xs.reverse = true
  | [], _ => rfl
  | x :: r, h => by
    simp only [D.plainL, Bool.and_eq_true] at h
    rw [List.reverse_cons, plainL_app, plainL_rev h.2]
    simp [D.plainL, h.1]
theorem back_adjust (n : Nat) : Builtin.Slice.sliceAdjust none none (-1) (n : Int) = ((n : Int) - 1, -1) := by
  unfold Builtin.Slice.sliceAdjust
  simp
theorem back_places (n : Nat) : Builtin.Slice.slicePlaces ((n : Int) - 1) (-1) (-1) = n := by
  unfold Builtin.Slice.slicePlaces
  rw [if_neg (by omega)]
  split
  · rw [show (-(-1) : Int) = 1 by omega, Int.ediv_one]; omega
  · omega
theorem back_pick {α : Type} (xs : Array α) : ((List.range xs.size).filterMap fun (k : Nat) => xs[(((xs.size : Nat) : Int) - 1 + (k : Int) * (-1)).toNat]?) = xs.toList.reverse := by
  apply List.ext_getElem?
  intro i
  have e : ∀ k ∈ List.range xs.size, xs[(((xs.size : Nat) : Int) - 1 + (k : Int) * (-1)).toNat]? = xs[xs.size - 1 - k]? := fun k hk => by
    have := List.mem_range.mp hk
    congr 1; omega
  have e2 : ((List.range xs.size).filterMap fun (k : Nat) => xs[(((xs.size : Nat) : Int) - 1 + (k : Int) * (-1)).toNat]?) = (List.range xs.size).filterMap fun k => xs[xs.size - 1 - k]? := by
    revert e
    generalize List.range xs.size = l
    intro e
    induction l with
    | nil => rfl
    | cons k r ih =>
      rw [List.filterMap_cons, List.filterMap_cons, e k (by simp), ih fun j hj => e j (by simp [hj])]
  rw [e2]
  have e3 : ((List.range xs.size).filterMap fun k => xs[xs.size - 1 - k]?) = ((List.range xs.size).map fun k => xs.size - 1 - k).filterMap (xs[·]?) := by
    rw [List.filterMap_map]; rfl
  rw [e3, PySem.W.krv_range, List.filterMap_reverse, PySem.W.krv_all]
section
variable {prog : Program} {w : World} {A : Around} {E : Value → Shared → Prop} {s : Shared}
theorem back_applied {sl : Addr} {n : Nat} {t : Tok} {Q : Int × Int × Nat → Shared → Prop} (hs : s.heap.IsSliceOf sl .none .none (.int (-1) t)) (h : Q ((n : Int) - 1, -1, n) s) : wpAny (model prog w) A (Builtin.Slice.sliceApplied (.ref sl) (pure (n : Int))) Q E s := by
  obtain ⟨os, hos, hcs, hds⟩ := id hs
  unfold Builtin.Slice.sliceApplied Builtin.Slice.sliceFields
  refine wpAny_bind (wpAny_bind (wpAny_field hos hds (x := .none) rfl (wpAny_bind (wpAny_field hos hds (x := .none) rfl (wpAny_bind (wpAny_field hos hds (x := .int (-1) t) rfl (wpAny_pure ?_)))))))
  refine wpAny_bind (slicePart_int ?_)
  show wpAny _ _ (if ((-1 : Int) == 0) = true then _ else _) _ _ s
  rw [if_neg (by decide)]
  refine wpAny_bind (slicePart_none (wpAny_bind (slicePart_none (wpAny_bind (wpAny_pure ?_)))))
  show wpAny _ _ (match Builtin.Slice.sliceAdjust none none (-1) (n : Int) with | (a, b) => pure (a, (-1 : Int), Builtin.Slice.slicePlaces a b (-1))) _ _ s
  rw [back_adjust]
  show wpAny _ _ (pure ((n : Int) - 1, (-1 : Int), Builtin.Slice.slicePlaces ((n : Int) - 1) (-1) (-1))) _ _ s
  rw [back_places]
  exact wpAny_pure h
theorem back_tuple {t sl : Addr} {u : Tok} {items : Array Value} {Q : Value → Shared → Prop} (ht : IsTup s.heap t items) (hs : s.heap.IsSliceOf sl .none .none (.int (-1) u))
    (h : Q (.ref s.heap.objs.size) { s with heap := s.heap.push { cls := .type "tuple", data := .seq items.toList.reverse.toArray } }) (hsz : items.size ≤ sizeLine) : wpAny (model prog w) A (getItem (.ref t) (.ref sl)) Q E s := by
  have ok : sizeOk (.seq items.toList.reverse.toArray) := by
    show items.toList.reverse.toArray.size ≤ sizeLine
    simpa using hsz
  have hTs : s.TypeIs (.ref sl) "slice" := by obtain ⟨os, hos, hcs, _⟩ := id hs; exact ⟨os, hos, hcs⟩
  unfold getItem
  try with_reducible refine wpAny_holding ?_
  first | refine wpAny_bind (wpAny_pure ?_) | skip
  refine wpAny_bind (wpAny_sequenceKey ht.typeIs (by decide) (wpAny_bind (wpAny_callSpecial?_slot (name := Str.ofString "__getitem__") ht.typeIs PyProof.Rows.slot_tuple_getitem (wpAny_call_entry PyProof.Rows.slot_tuple_getitem ht.typeIs entry_tuple_getitem ?_ (args_tuple_getitem _ _)))))
  show wpAny _ _ (Builtin.Tuple.tupleItemsOf (.ref t) >>= _) _ _ s
  refine wpAny_bind (tupleItemsOf_ ht (wpAny_bind (wpAny_typeOf hTs ?_)))
  rw [if_pos (by decide)]
  refine wpAny_bind (back_applied hs ?_)
  have hno : ¬ (((((items.size : Nat) : Int) - 1) == 0 && (-1 : Int) == 1 && items.size == items.size) = true) := by simp
  show wpAny _ _ (if ((((items.size : Nat) : Int) - 1) == 0 && (-1 : Int) == 1 && items.size == items.size) = true then _ else _) _ _ s
  rw [if_neg hno, back_pick]
  first
    | exact wpAny_bind (m := Builtin.Tuple.tupleExact _) (wpAny_newObj_type (wpAny_pure ⟨_, rfl, wpAny_pure h⟩) ok)
    | exact wpAny_bind (m := Builtin.Tuple.tupleExact _) (wpAny_newObj_type (wpAny_bind (wpAny_pure (wpAny_pure ⟨_, rfl, wpAny_pure h⟩))) ok)
    | exact wpAny_bind (wpAny_bind (m := Builtin.Tuple.tupleExact _) (wpAny_newObj_type (wpAny_pure (wpAny_pure ⟨_, rfl, wpAny_pure h⟩)) ok))
    | exact wpAny_bind (wpAny_bind (m := Builtin.Tuple.tupleExact _) (wpAny_newObj_type (wpAny_pure ⟨_, rfl, wpAny_pure h⟩) ok))
end
theorem back_text (x : Str) : (Builtin.Str.strSliceIndices none none (-1) x.length).filterMap (x.cps[·]?) = x.cps.toList.reverse := by
  unfold Builtin.Str.strSliceIndices
  show ((sliceRange ((x.cps.size : Int) - 1) (-1) (-1)).filterMap (x.cps[·]?)) = _
  rw [PySem.W.krv_sliceRange, PySem.W.krv_range, List.filterMap_reverse, PySem.W.krv_all]
section
variable {X : Cx}
theorem pe_rev {e : Expr} {te : TE} {k : Nat} {p1 p2 p3 pos : Pos} (he : PE X e te) (m : Mono te) : PE X (.Subscript e (.Slice none none (some (.UnaryOp .USub (.Constant (.int 1) k p1) p2)) p3) pos) (tPrim X.K .rev [te]) := by
  refine ⟨fun pins s σ H Q I h => ?_⟩
  refine Subscript_ (thn (he.run pins s σ H _ I h) fun v s1 ⟨x, H1, I1, r1, q1⟩ => ?_)
  obtain ⟨Z, a, d, x', zh, ex, b, ed, q⟩ := good1 (f := evRev) (fun ds => by unfold evPrim; split <;> simp_all) q1
  cases ex
  have hst : PO X (some (.UnaryOp .USub (.Constant (.int 1) k p1) p2)) (tPart (tUn (rU fun i => .int (-i)) (tC (.int 1)))) := po_some (pe_un un_neg pe_int)
  refine wpAny_Slice (thn (po_none.run pins s1 σ H1 (fun o H2 => o = none ∧ H2 = H1) I1 ⟨rfl, rfl⟩) fun vl s2 ⟨l, H2, I2, pl, el, e2⟩ => ?_)
  subst el e2
  refine thn (po_none.run pins s2 σ H2 (fun o H3 => o = none ∧ H3 = H2) I2 ⟨rfl, rfl⟩) fun vu s3 ⟨u, H3, I3, pu, eu, e3⟩ => ?_
  subst eu e3
  refine thn (hst.run pins s3 σ H3 (fun o H4 => o = some (-1) ∧ H4 = H3) I3 ⟨1, rfl, -1, rfl, rfl, rfl⟩) fun vs s4 ⟨o, H4, I4, ps, eo, e4⟩ => ?_
  subst eo e4
  have pl' := pl
  cases pl
  cases pu
  cases ps
  rename_i tk _
  have I5 : Inv X pins σ H4 { s4 with heap := s4.heap.push { cls := .type "slice", data := .fields #[.none, .none, .int (-1) tk] } } := I4.kept (t' := s4.toks) fun b ob q => Heap.get?_push_of_some _ q
  show wpAny (model X.prog X.w) X.A (subscriptTail e (.Slice none none (some (.UnaryOp .USub (.Constant (.int 1) k p1) p2)) p3) v (.ref s4.heap.objs.size)) (EP X pins σ Q) X.xe { s4 with heap := s4.heap.push { cls := .type "slice", data := .fields #[.none, .none, .int (-1) tk] } }
  cases a <;> simp [evRev] at ed
  case lst ow ys =>
    obtain ⟨pl, rfl⟩ := ed
    obtain ⟨p, ws, f, rfl, sq, rl, _⟩ := b.lst
    cases r1
    obtain ⟨its, r, ht, hz⟩ := I5.list sq
    have hlen := r.length
    refine tail_any (ops := [.ref p, .ref s4.heap.objs.size]) ht.isList.typeIs (PySem.slot_list_getitem.lookup) ?_ (by with_unfolding_all rfl)
    refine wpAny_getItem_list_slice ht.isList (Heap.IsSliceOf.new _ _ _ _) .none .none (.int _ _) (by decide) ?_ (by rw [List.size_toArray]; omega)
    rw [PySem.W.krv_pick]
    have hf := I5.hok.fresh (Nat.le_refl _)
    obtain ⟨F, R⟩ := new_lst zh hf (RelL.rev (rl.nil_of pl)) (plainL_rev pl)
    refine ⟨.ref _, _, I5.laid (t' := s4.toks) (o := .lst ws.reverse) (fun b ob q => Heap.get?_push_of_some _ q) (Nat.le_refl _) ?_, rfl, q _ _ _ _ F R⟩
    exact ⟨by rw [List.length_reverse]; exact hz, _, 0, r.reverse, Heap.get?_push_size _ rfl⟩
  case tup ys =>
    obtain ⟨pl, rfl⟩ := ed
    obtain ⟨p, ws, f, rfl, sq, rl⟩ := b.tup
    cases r1
    obtain ⟨its, r, ht, hz⟩ := I5.tuple sq
    have hlen := r.length
    refine tail_any (ops := [.ref p, .ref s4.heap.objs.size]) ht.typeIs PyProof.Rows.slot_tuple_getitem.lookup ?_ (by with_unfolding_all rfl)
    refine back_tuple ht (Heap.IsSliceOf.new _ _ _ _) ?_ (by rw [List.size_toArray]; omega)
    have hf := I5.hok.fresh (Nat.le_refl _)
    obtain ⟨F, R⟩ := new_tup zh hf (RelL.rev (rl.nil_of pl)) (plainL_rev pl)
    refine ⟨.ref _, _, I5.laid (t' := s4.toks) (o := .tup ws.reverse) (fun b ob q => Heap.get?_push_of_some _ q) (Nat.le_refl _) ?_, rfl, q _ _ _ _ F R⟩
    exact ⟨by rw [List.length_reverse]; exact hz, _, r.reverse, IsTup.new _ _⟩
  case str z =>
    obtain ⟨hl, rfl⟩ := ed
    rw [b.str] at r1
    obtain ⟨tt, rfl⟩ := r1
    refine tail_any (ops := [.ref s4.heap.objs.size, .str (toS z) tt]) (typeIs_str _ _ _) F.slot_str_getitem.lookup ?_ (by with_unfolding_all rfl)
    refine wpAny_getItem_str_slice (l := none) (u := none) (st := some (-1, tk)) (Heap.IsSliceOf.new _ _ _ _) rfl ?_
    show Made.post (if ((-1 : Int) == 1 && _) = true then Made.val _ else Made.str ⟨((Builtin.Str.strSliceIndices none none (-1) (toS z).length).filterMap ((toS z).cps[·]?)).toArray⟩) (EP X pins σ Q) _
    rw [if_neg (by simp), back_text]
    have e : (⟨(toS z).cps.toList.reverse.toArray⟩ : Str) = toS z.reverse := by rw [toS_cps]; rfl
    rw [e]
    exact ⟨by rw [toS_len, List.length_reverse, ← line_eq]; exact hl, .str _, H4, I5.tok _, ⟨_, rfl⟩, q _ _ _ [] (Fsh.refl zh) rel_str⟩
end
end GN
end

section
set_option linter.all false
set_option maxRecDepth 100000
set_option maxHeartbeats 2000000
namespace GN
open PySem PySem.Spec PyProof.Rows L2 RT
/-! list(reversed(xs)) -/
section
variable {prog : Program} {w : World} {A : Around} {E : Value → Shared → Prop} {s : Shared}
abbrev LstAt (h : Heap) (S : Addr) (acc : Array Value) (c : Nat) : Prop := h.get? S = some { cls := .type "list", dict := none, data := .seq acc c, slots := #[] }
theorem extend_revit {R : Result → Shared → Prop} {it l S : Addr} {items : Array Value} {c₀ : Nat} (hh : A.handled = none) (hit : s.heap.IsRevIter it l ((items.size : Int) - 1)) (hl : s.heap.IsList l items) (hne : l ≠ it) (hn : items.size ≤ sizeLine) (hS : LstAt s.heap S #[] c₀) (n1 : S ≠ it) (n2 : S ≠ l) (res : Value)
    (hR : ∀ h' tk acc c, (∀ b o, b ≠ S → b ≠ it → s.heap.get? b = some o → h'.get? b = some o) → LstAt h' S acc c → ItemsOf (fun i v => items[items.size - 1 - i]? = some v) acc items.size → R (.ok (.ret res)) { s with heap := h', toks := tk }) :
    wpAny (model prog w) A.in1 (Builtin.List.listExtendWith (.ref S) (.ref it) res) (fun fin s' => match fin with | .done f => R (.ok f) s' | .again c' => c'.quiet = true ∧ codeAny (model prog w) A c' R s') (fun e s' => R (.error e) s') s := by
  have W := (Walks.listRev (prog := prog) (w := w) (A := A.in1) hh it l hne items).toS
  have hSf : S ∉ [it, l] := by simp [n1, n2]
  have hT : s.TypeIs (.ref it) "list_reverseiterator" := hit.typeIs
  have h1 : Builtin.List.listSameRef (.ref S) (.ref it) = false := by simp [Builtin.List.listSameRef, n1]
  unfold Builtin.List.listExtendWith
  refine wpAny_bind (wpAny_typeOf hT ?_)
  rw [if_neg (by rw [h1]; decide)]
  refine wpAny_bind (wpAny_pyIter_revIter hit (wpAny_bind (wpAny_holding ?_)))
  unfold Builtin.List.listLengthHint
  refine wpAny_bind (wpAny_specialOf hT nolen_lri ?_)
  show wpAny _ A.in1 (specialOf (Value.ref it) (Str.ofString "__length_hint__") >>= _) _ _ _
  refine wpAny_bind (wpAny_specialOf hT hint_lri ?_)
  generalize hid : ("list_reverseiterator.__length_hint__" : String) = id0
  wp_delta
  rw [show splitId id0 = some ("list_reverseiterator", "__length_hint__") from by subst hid; decide +kernel]
  subst hid
  refine wpAny_bind (wpAny_isInstance (b := true) hT (by rw [isSubtype_type]; kernel_rfl) (wpAny_pure ?_))
  rw [if_neg (by decide)]
  have e0 : ((items.size : Nat) : Int) - 1 - ((0 : Nat) : Int) = (items.size : Int) - 1 := by omega
  refine wpAny_pure ⟨plainId_quiet F.plain_extend_loop _, codeAny_extend_loopS W hn S hSf res items.size 0 _ _ _ rfl (Nat.zero_le _) ⟨Nat.zero_le _, by rw [e0]; exact hit, hl⟩ hS (ItemsOf.nil _) fun s' acc' c' hm hS' hacc => ?_⟩
  rw [Moved.eq_with hm]
  refine hR s'.heap s'.toks acc' c' (fun b o b1 b2 e => hm.heap b o (fun hmem => ?_) e) hS' hacc
  rcases List.mem_cons.mp hmem with e' | hmem
  · exact b1 e'
  · exact b2 (List.mem_singleton.mp hmem)
theorem init_revit {R : Result → Shared → Prop} {it l S : Addr} {items : Array Value} (hh : A.handled = none) (hit : s.heap.IsRevIter it l ((items.size : Int) - 1)) (hl : s.heap.IsList l items) (hne : l ≠ it) (hn : items.size ≤ sizeLine) (hS : s.heap.get? S = some { cls := .type "list", data := .seq #[] }) (n1 : S ≠ it) (n2 : S ≠ l)
    (hR : ∀ h' tk acc c, (∀ b o, b ≠ S → b ≠ it → s.heap.get? b = some o → h'.get? b = some o) → LstAt h' S acc c → ItemsOf (fun i v => items[items.size - 1 - i]? = some v) acc items.size → R (.ok (.ret .none)) { s with heap := h', toks := tk }) :
    wpAny (model prog w) A.in1 (Builtin.«list.__init__» ⟨[.ref S, .ref it], []⟩) (fun fin s' => match fin with | .done f => R (.ok f) s' | .again c' => c'.quiet = true ∧ codeAny (model prog w) A c' R s') (fun e s' => R (.error e) s') s := by
  show wpAny _ _ (do let was ← Builtin.List.listItems (.ref S); Builtin.List.listUpdate (.ref S) (fun _ => #[]); letGo was.toList.reverse; Builtin.List.listExtendWith (.ref S) (.ref it) .none) _ _ s
  refine wpAny_bind ?_
  unfold Builtin.List.listItems
  refine wpAny_bind (wpAny_seqItems hS rfl (wpAny_pure ?_))
  show wpAny _ _ (updateSeq S (fun _ => #[]) >>= fun _ => letGo (#[] : Array Value).toList.reverse >>= fun _ => Builtin.List.listExtendWith (.ref S) (.ref it) .none) _ _ s
  refine wpAny_bind (wpAny_updateSeq hS rfl ?_)
  have hS2 := Heap.get?_update_self (Obj.mapSeq (fun _ => (#[] : Array Value))) hS rfl
  have oth : ∀ b o, b ≠ S → s.heap.get? b = some o → (s.heap.update S (Obj.mapSeq (fun _ => (#[] : Array Value)))).get? b = some o := fun b o hb e => (Heap.get?_update_other _ _ (Ne.symm hb)).trans e
  refine wpAny_bind (wpAny_letGo (extend_revit hh (hit.at fun o e => oth it o (Ne.symm n1) e) ?_ hne hn hS2 n1 n2 .none fun h' tk acc c hk hS' hacc => ?_))
  · obtain ⟨o, ho, r⟩ := hl
    exact ⟨o, oth l o (Ne.symm n2) ho, r⟩
  · exact hR h' tk acc c (fun b o b1 b2 e => hk b o b1 b2 (oth b o b1 e)) hS' hacc
theorem call_list_revit {it l : Addr} {items : Array Value} {Q : Value → Shared → Prop} (hh : A.handled = none) (hit : s.heap.IsRevIter it l ((items.size : Int) - 1)) (hl : s.heap.IsList l items) (hne : l ≠ it) (hn : items.size ≤ sizeLine)
    (hQ : ∀ h' tk acc c, (∀ b o, b ≠ it → s.heap.get? b = some o → h'.get? b = some o) → LstAt h' s.heap.objs.size acc c → ItemsOf (fun i v => items[items.size - 1 - i]? = some v) acc items.size → Q (.ref s.heap.objs.size) { s with heap := h', toks := tk }) :
    wpAny (model prog w) A (call (.type "list") [.ref it]) Q E s := by
  refine callType_codes (Q₁ := fun obj t => obj = .ref s.heap.objs.size ∧ t = { s with heap := s.heap.push { cls := .type "list", data := .seq #[] } }) F.called_list (F.typeCall_list_1 _) F.entry_list_init (code_list_new _ ⟨rfl, rfl⟩) fun obj t h1 => ?_
  obtain ⟨rfl, rfl⟩ := h1
  have hS : (s.heap.push { cls := .type "list", data := .seq #[] }).get? s.heap.objs.size = some { cls := .type "list", data := .seq #[] } := Heap.get?_push_size _ rfl
  have n1 : s.heap.objs.size ≠ it := by obtain ⟨o, ho, _⟩ := id hit; exact Nat.ne_of_gt (Heap.lt_size ho)
  have n2 : s.heap.objs.size ≠ l := by obtain ⟨o, ho, _⟩ := id hl; exact Nat.ne_of_gt (Heap.lt_size ho)
  refine ⟨⟨_, hS, rfl⟩, F.args_list_init_2 _ _, init_revit (A := A.in1) hh (hit.at fun o e => Heap.get?_push_of_some _ e) (hl.push _) hne hn hS n1 n2 fun h' tk acc c hk hS' hacc => ?_⟩
  exact ⟨rfl, hQ h' tk acc c (fun b o b2 e => hk b o (Nat.ne_of_lt (Heap.lt_size e)) b2 (Heap.get?_push_of_some _ e)) hS' hacc⟩
end
section
variable {X : Cx}
theorem pe_lrev {e : Expr} {te : TE} {p p2 pos pos2 : Pos} (hc : X.calm = true) (hg : Gl X "list") (hm : X.mg "list" = none) (hg2 : Gl X "reversed") (hm2 : X.mg "reversed" = none) (he : PE X e te) (m : Mono te)
    (hs : starEach [e] X.env = (false, eval e X.env) :: starEach [] X.env) (hs2 : starEach [.Call (.Name "reversed" p2) [e] [] pos2] X.env = (false, eval (.Call (.Name "reversed" p2) [e] [] pos2) X.env) :: starEach [] X.env) :
    PE X (.Call (.Name "list" p) [.Call (.Name "reversed" p2) [e] [] pos2] [] pos) (tPrim X.K .lrev [te]) := by
  refine ⟨fun pins s σ H Q I h => ?_⟩
  refine Call_ (ld_blt I hg hm boot_list (PyProof.Rows.callWith_type1 (args_cons (Call_ (ld_blt I hg2 hm2 PyProof.Rows.boot_reversed (PyProof.Rows.callWith_type1 (args_cons (thn (he.run pins s σ H _ I h) fun u s1 ⟨v, H1, I1, r1, q1⟩ => args_nil ?_) hs) hs rfl))) hs2) hs2 rfl))
  obtain ⟨Z, d, r, x', zh, ex, b, ed, q⟩ := good1 (f := evLrev) (fun ds => by unfold evPrim; split <;> simp_all) q1
  cases ex
  cases d <;> simp [evLrev] at ed
  rename_i ow ys
  obtain ⟨pl, rfl⟩ := ed
  obtain ⟨a, xs, f, rfl, hq, rl, _⟩ := b.lst
  obtain rfl : u = Value.ref a := r1
  obtain ⟨its, rv, p', hz⟩ := I1.list hq
  refine call_reversed_list p'.isList (args_nil ?_)
  have k0 : ∀ b o, s1.heap.get? b = some o → (s1.heap.push (revObj a ((its.toArray.size : Int) - 1))).get? b = some o := fun b o e => Heap.get?_push_of_some _ e
  have I2 : Inv X pins σ H1 { s1 with heap := s1.heap.push (revObj a ((its.toArray.size : Int) - 1)) } := I1.kept (t' := s1.toks) k0
  have fp := I1.fpOk (H' := H1) (b := s1.heap.objs.size) (Nat.le_refl _) (I1.hok.fresh (Nat.le_refl _))
  have hl := p'.isList
  obtain ⟨ol, hol, _⟩ := id hl
  have hne : a ≠ s1.heap.objs.size := Nat.ne_of_lt (Heap.lt_size hol)
  have hn : its.toArray.size ≤ sizeLine := by rw [List.size_toArray, ← rv.length]; exact hz
  refine call_list_revit (s := { s1 with heap := s1.heap.push (revObj a ((its.toArray.size : Int) - 1)) }) (I1.ok.hd hc) ⟨_, Heap.get?_push_size _ rfl, rfl, rfl⟩ (hl.push _) hne hn fun h' tk acc c hk hS hi => ?_
  have hsz : (s1.heap.push (revObj a ((its.toArray.size : Int) - 1))).objs.size = s1.heap.objs.size + 1 := Heap.size_push ..
  have hf : H1 (s1.heap.push (revObj a ((its.toArray.size : Int) - 1))).objs.size = none := by rw [hsz]; exact I1.hok.fresh (Nat.le_succ _)
  obtain ⟨F, R⟩ := new_lst zh hf (RelL.rev (rl.nil_of pl)) (plainL_rev pl)
  have hacc : Vals xs.reverse acc.toList := vals_rev rv hi
  unfold LstAt at hS
  refine ⟨.ref _, upd H1 _ (.lst xs.reverse), I2.turnedNew (t' := tk) (ch := [s1.heap.objs.size]) (fun b o hb e => hk b o (fun z => hb (by simp [z])) e) (fun b hb => ?_) (Nat.le_refl _) ⟨by rw [List.length_reverse]; exact hz, acc.toList, c, hacc, by simpa using hS⟩, rfl, q _ _ _ _ F R⟩
  obtain rfl : b = s1.heap.objs.size := by simpa using hb
  exact fp
end
end GN
end

section
set_option linter.all false
set_option maxRecDepth 100000
set_option maxHeartbeats 4000000
namespace GN
open PySem PySem.Spec PyProof.Rows L2
/-! a tuple, once or some times -/
theorem tuple_mul1 (l : Addr) (items : Array Value) (n : Nat) (dd : Option Addr) (sl : Array (Option Value)) (u : Tok) :
    Meets (Builtin.«tuple.__mul__» ⟨[.ref l, .int 1 u], []⟩) (fun _ R s => s.heap.get? l = some { cls := .type "tuple", dict := dd, data := .seq items n, slots := sl } ∧ R (.ok (.ret (Value.ref l))) s) :=
  .of_wp fun prog w A R s h => by
    obtain ⟨hp, g, d, tk, os⟩ := s
    obtain ⟨hl, h⟩ := h
    have f1 := AutoSeq1.idx_int
    wp_walk using wpAny_loadPart' hl
    exact ⟨_, rfl, h⟩
section
variable {X : Cx}
theorem op_rep1 : OpR X (binaryOp .Mult) (fun x y H Q => ∃ l xs, x = .ref l ∧ y = .int 1 ∧ SqT X.K H l xs ∧ Q (.ref l) H) := by
  intro pins s σ H x y v u Q I rx ry h
  obtain ⟨l, xs, rfl, rfl, hT, q⟩ := h
  cases rx
  obtain ⟨t, rfl⟩ := ry
  obtain ⟨its, r, ⟨⟨cls, dd, data, sl⟩, ho, hc, n, hd⟩, hs⟩ := I.tuple hT
  simp only at hc hd
  subst hc hd
  refine wpAny_binaryOp_repeat_ref (T := "tuple") (U := "int") (by decide) ⟨_, ho, rfl⟩ (fun s' => typeIs_int s' 1 t) noFill_tuple_mul F.fills_int_mul F.slot_int_rmul repeat_tuple F.slot_int_index.lookup
    (call_meets F.slot_int_rmul (typeIs_int s 1 t) F.entry_int_rmul (F.args_int_rmul_2 _ _) (int_rmul_tuple 1 t l its.toArray n dd sl)
      ⟨ho, rfl, ⟨_, ho, rfl⟩, call_meets F.slot_tuple_mul ⟨_, ho, rfl⟩ F.entry_tuple_mul (F.args_tuple_mul_2 _ _) (tuple_mul1 l its.toArray n dd sl t) ⟨ho, ?_⟩⟩)
  exact ⟨.ref l, H, I, rfl, q⟩
theorem op_good_mul : OpR X (binaryOp .Mult) (fun x y H Q => Good X.K .mul [x, y] H Q) := OpR.imp (OpR.or (OpR.or op_mul op_mulW) (OpR.or op_rep (OpR.or op_mul_str (OpR.or op_rep1 op_repT)))) fun x y H Q q => by
  obtain ⟨Z, ds, d, zh, b, e, q⟩ := q
  obtain ⟨d1, d2, rfl, b1, b2⟩ := b.two
  change evMul d1 d2 = some d at e
  cases d1 <;> cases d2 <;> simp [evMul] at e
  case int.int =>
    obtain ⟨c, rfl⟩ := e
    rcases c with c | c
    · exact .inl (.inl ⟨_, _, b1.int, b2.int, c.imp small_iff small_iff, q _ _ _ [] (Fsh.refl zh) rel_int⟩)
    · exact .inl (.inr ⟨_, _, b1.int, b2.int, c, q _ _ _ [] (Fsh.refl zh) rel_int⟩)
  case lst.int o xs k =>
    obtain ⟨⟨n1, pl, c1, c2, c3⟩, rfl⟩ := e
    obtain ⟨a, vs, f, rfl, s, r1, hh⟩ := b1.lst
    refine .inr (.inl ⟨a, k, vs, rfl, b2.int, hh n1, c1, c2, by rw [r1.len, ← line_eq]; exact c3, fun p hp => ?_⟩)
    have rp : ∀ n, RelL X.K Z H (List.replicate n xs).flatten (List.replicate n vs).flatten [] := fun n => by
      induction n with
      | zero => exact ⟨rfl, rfl⟩
      | succ n ih => rw [List.replicate_succ, List.replicate_succ, List.flatten_cons, List.flatten_cons]; exact RelL.app (r1.nil_of pl) ih
    have pp : ∀ n, D.plainL (List.replicate n xs).flatten = true := fun n => by
      induction n with
      | zero => rfl
      | succ n ih => rw [List.replicate_succ, List.flatten_cons, plainL_app, pl, ih]; rfl
    obtain ⟨F, R⟩ := new_lst zh hp (rp k.toNat) (pp k.toNat)
    exact q _ _ _ _ F R
  case str.int a k =>
    obtain ⟨⟨c1, c2, c3⟩, rfl⟩ := e
    exact .inr (.inr (.inl ⟨toS a, k, b1.str, b2.int, c1, c2, by rw [toS_len, ← line_eq]; exact c3, by rw [mul_toS]; exact q _ _ _ [] (Fsh.refl zh) rel_str⟩))
  case tup.int a k =>
    obtain ⟨⟨hne, pl, h1, h2, h3⟩, rfl⟩ := e
    obtain ⟨p, vs, f, rfl, sq, rl⟩ := b1.tup
    have r0 := rl.nil_of pl
    have rp : ∀ n, RelL X.K Z H (List.replicate n a).flatten (List.replicate n vs).flatten [] := fun n => by
      induction n with
      | zero => exact ⟨rfl, rfl⟩
      | succ n ih => rw [List.replicate_succ, List.replicate_succ, List.flatten_cons, List.flatten_cons]; exact RelL.app r0 ih
    have pp : ∀ n, D.plainL (List.replicate n a).flatten = true := fun n => by
      induction n with
      | zero => rfl
      | succ n ih => rw [List.replicate_succ, List.flatten_cons, plainL_app, pl, ih]; rfl
    by_cases hk : k = 1
    · subst hk
      refine .inr (.inr (.inr (.inl ⟨p, vs, rfl, b2.int, sq, ?_⟩)))
      have e1 : (List.replicate (1 : Int).toNat a).flatten = a := by simp
      rw [e1] at q
      exact q _ _ _ [] (Fsh.refl zh) ⟨p, vs, rfl, sq, r0⟩
    · refine .inr (.inr (.inr (.inr ⟨p, k, vs, rfl, b2.int, sq, fun ev => ?_, by omega, h2, by rw [rl.len]; exact h3, fun l hl => ?_⟩)))
      · have := rl.len
        rw [ev] at this
        exact hne (List.length_eq_zero_iff.mp this.symm)
      · obtain ⟨F, R⟩ := new_tup zh hl (rp k.toNat) (pp k.toNat)
        exact q _ _ _ _ F R
end
end GN
end

section
set_option linter.all false
set_option maxRecDepth 100000
set_option maxHeartbeats 2000000
namespace GN
open PySem PySem.Spec PyProof.Rows L2
section
variable {X : Cx}
theorem op_good_band : OpR X (binaryOp .BitAnd) (fun x y H Q => Good X.K .band [x, y] H Q) := OpR.imp op_and fun x y H Q q => by
  obtain ⟨Z, ds, d, zh, b, e, q⟩ := q
  obtain ⟨d1, d2, rfl, b1, b2⟩ := b.two
  change evBand d1 d2 = some d at e
  cases d1 <;> cases d2 <;> simp [evBand] at e
  subst e
  exact ⟨_, _, b1.int, b2.int, q _ _ _ [] (Fsh.refl zh) rel_int⟩
theorem op_good_bor : OpR X (binaryOp .BitOr) (fun x y H Q => Good X.K .bor [x, y] H Q) := OpR.imp op_or fun x y H Q q => by
  obtain ⟨Z, ds, d, zh, b, e, q⟩ := q
  obtain ⟨d1, d2, rfl, b1, b2⟩ := b.two
  change evBor d1 d2 = some d at e
  cases d1 <;> cases d2 <;> simp [evBor] at e
  subst e
  exact ⟨_, _, b1.int, b2.int, q _ _ _ [] (Fsh.refl zh) rel_int⟩
theorem op_good_shl : OpR X (binaryOp .LShift) (fun x y H Q => Good X.K .shl [x, y] H Q) := OpR.imp op_shl fun x y H Q q => by
  obtain ⟨Z, ds, d, zh, b, e, q⟩ := q
  obtain ⟨d1, d2, rfl, b1, b2⟩ := b.two
  change evShl d1 d2 = some d at e
  cases d1 <;> cases d2 <;> simp [evShl] at e
  obtain ⟨⟨c1, c2, c3⟩, rfl⟩ := e
  exact ⟨_, _, b1.int, b2.int, ⟨c1, by omega, by omega⟩, q _ _ _ [] (Fsh.refl zh) rel_int⟩
theorem op_good_shr : OpR X (binaryOp .RShift) (fun x y H Q => Good X.K .shr [x, y] H Q) := OpR.imp op_shr fun x y H Q q => by
  obtain ⟨Z, ds, d, zh, b, e, q⟩ := q
  obtain ⟨d1, d2, rfl, b1, b2⟩ := b.two
  change evShr d1 d2 = some d at e
  cases d1 <;> cases d2 <;> simp [evShr] at e
  obtain ⟨c1, rfl⟩ := e
  exact ⟨_, _, b1.int, b2.int, c1, q _ _ _ [] (Fsh.refl zh) rel_int⟩
theorem un_inv_good : UnR X (unaryOp .Invert) (fun x H Q => Good X.K .inv [x] H Q) := fun pins s σ H x v Q I r q => by
  refine un_inv pins s σ H x v Q I r ?_
  obtain ⟨Z, ds, d, zh, b, e, q⟩ := q
  obtain ⟨d1, rfl, b1⟩ := b.one
  change evInv d1 = some d at e
  cases d1 <;> simp [evInv] at e
  subst e
  exact ⟨_, b1.int, q _ _ _ [] (Fsh.refl zh) rel_int⟩
theorem pick_rel {K : PySem.W.Frag} {Z : Addr → Prop} {H : Hp} {ds : List D} {vs : List V} (h : RelL K Z H ds vs []) : ∀ ix : List Nat, RelL K Z H (ix.filterMap (ds[·]?)) (ix.filterMap (vs[·]?)) []
  | [] => ⟨rfl, rfl⟩
  | i :: r => by
    have ih := pick_rel h r
    cases e : ds[i]? with
    | none =>
      have : vs[i]? = none := by
        rw [List.getElem?_eq_none_iff] at e ⊢
        rw [h.len]; exact e
      simp only [List.filterMap_cons, e, this]
      exact ih
    | some d =>
      obtain ⟨v, f', e2, r2, hs⟩ := h.get e
      have : f' = [] := List.eq_nil_iff_forall_not_mem.mpr fun a m => nomatch hs a m
      subst this
      simp only [List.filterMap_cons, e, e2]
      exact ⟨v, _, [], [], rfl, rfl, r2, ih⟩
theorem pick_plain {ds : List D} (h : D.plainL ds = true) (ix : List Nat) : D.plainL (ix.filterMap (ds[·]?)) = true := plainL_all fun d hd => by
  obtain ⟨i, _, e⟩ := List.mem_filterMap.mp hd
  have hm := List.mem_of_getElem? e
  clear e hd
  induction ds with
  | nil => cases hm
  | cons x r ih =>
    simp only [D.plainL, Bool.and_eq_true] at h
    rcases List.mem_cons.mp hm with rfl | hm
    · exact h.1
    · exact ih h.2 hm
theorem vals_get : ∀ {xs : List V} {us : List Value}, Vals xs us → ∀ i : Nat, (xs[i]? = none ∧ us[i]? = none) ∨ ∃ x u, xs[i]? = some x ∧ us[i]? = some u ∧ RelV x u
  | _, _, .nil, i => .inl ⟨by simp, by simp⟩
  | _, _, .cons r rs, 0 => .inr ⟨_, _, rfl, rfl, r⟩
  | _, _, .cons r rs, i + 1 => by simpa using vals_get rs i
theorem pick_vals {xs : List V} {us : List Value} (h : Vals xs us) : ∀ ix : List Nat, Vals (ix.filterMap (xs[·]?)) (ix.filterMap (us[·]?))
  | [] => .nil
  | i :: r => by
    have ih := pick_vals h r
    rcases vals_get h i with ⟨e1, e2⟩ | ⟨x, u, e1, e2, e3⟩
    · simp only [List.filterMap_cons, e1, e2]; exact ih
    · simp only [List.filterMap_cons, e1, e2]; exact .cons e3 ih
theorem stp_pick (items : List Value) {a s : Int} (h0 : 0 ≤ a) (h1 : 1 ≤ s) : slicePick items.toArray (some a) none (some s) = ((sliceRange (min a items.length) items.length s).filterMap (items[·]?)).toArray := by
  unfold slicePick sliceBounds
  have e1 : ¬ s < 0 := by omega
  have e2 : s > 0 := by omega
  have e3 : ¬ a < 0 := by omega
  simp [e1, e2, e3]
  try rw [show max 0 (min a (items.length : Int)) = min a items.length by omega]
theorem stp_len (n : Nat) {a s : Int} (h0 : 0 ≤ a) (h1 : 1 ≤ s) : (sliceRange (min a n) n s).length ≤ n := by
  unfold sliceRange
  have e2 : s > 0 := by omega
  rw [List.length_map, List.length_range, if_pos e2]
  split
  · have : ((n : Int) - min a n + s - 1) / s ≤ n := by
      have h2 : (n : Int) - min a n + s - 1 ≤ n * s := by
        have : (n : Int) * 1 ≤ n * s := Int.mul_le_mul_of_nonneg_left h1 (by omega)
        rcases Nat.eq_zero_or_pos n with rfl | hn
        · omega
        · have h3 : (n : Int) * s = (n - 1) * s + s := by rw [Int.sub_mul]; omega
          have h4 : ((n : Int) - 1) * 1 ≤ (n - 1) * s := Int.mul_le_mul_of_nonneg_left h1 (by omega)
          omega
      exact Int.ediv_le_of_le_mul (by omega) h2
    omega
  · omega
theorem pe_stp {e ea es : Expr} {te ta ts : TE} {p3 pos : Pos} (he : PE X e te) (m : Mono te) (ha : PE X ea ta) (m2 : Mono ta) (hs : PE X es ts) (m3 : Mono ts) : PE X (.Subscript e (.Slice (some ea) none (some es) p3) pos) (tPrim X.K .stp [te, ta, ts]) := by
  refine ⟨fun pins s σ H Q I h => ?_⟩
  refine Subscript_ (thn (he.run pins s σ H _ I h) fun v s1 ⟨x, H1, I1, r1, q1⟩ => ?_)
  refine wpAny_Slice ?_
  rw [evalPart_some]
  refine thn (ha.run pins s1 σ H1 _ I1 q1) fun vl s2 ⟨l, H2, I2, pl, q2⟩ => ?_
  rw [evalPart_none]
  refine wpAny_pure ?_
  rw [evalPart_some]
  refine thn (hs.run pins s2 σ H2 _ I2 q2) fun vs s3 ⟨o, H3, I3, ps, q3⟩ => ?_
  obtain ⟨Z, ds, d, zh, b, ed, q⟩ := q3
  obtain ⟨a, d2, d3, rfl⟩ : ∃ a b c, ds = [a, b, c] := by
    have hl3 := b.len
    match ds, hl3 with
    | [a, b, c], _ => exact ⟨a, b, c, rfl⟩
  obtain ⟨va, ra, e1, b1, b⟩ := b
  cases e1
  obtain ⟨va, ra, e1, b2, b⟩ := b
  cases e1
  obtain ⟨va, ra, e1, b3, b⟩ := b
  cases e1
  change evStp a d2 d3 = some d at ed
  cases a <;> cases d2 <;> cases d3 <;> simp only [evStp] at ed <;> try (cases ed; done)
  rename_i ow ys lo st
  obtain ⟨⟨ply, h0, h1⟩, ed⟩ := ite_s ed
  cases ed
  have pl' := pl
  have ps' := ps
  rw [b2.int] at pl'
  rw [b3.int] at ps'
  obtain ⟨t1, rfl⟩ := pl'
  obtain ⟨t2, rfl⟩ := ps'
  have I5 : Inv X pins σ H3 { s3 with heap := s3.heap.push { cls := .type "slice", data := .fields #[.int lo t1, .none, .int st t2] } } := I3.kept (t' := s3.toks) fun b ob q => Heap.get?_push_of_some _ q
  show wpAny (model X.prog X.w) X.A (subscriptTail e (.Slice (some ea) none (some es) p3) v (.ref s3.heap.objs.size)) (EP X pins σ Q) X.xe { s3 with heap := s3.heap.push { cls := .type "slice", data := .fields #[.int lo t1, .none, .int st t2] } }
  obtain ⟨p, ws, f, rfl, sq, rl, _⟩ := b1.lst
  cases r1
  obtain ⟨its, r, ht, hz⟩ := I5.list sq
  have hlen := r.length
  refine tail_any (ops := [.ref p, .ref s3.heap.objs.size]) ht.isList.typeIs (PySem.slot_list_getitem.lookup) ?_ (by with_unfolding_all rfl)
  refine wpAny_getItem_list_slice ht.isList (Heap.IsSliceOf.new _ _ _ _) (.int _ _) .none (.int _ _) (by intro z; injection z with z; omega) ?_ (by rw [List.size_toArray]; omega)
  rw [stp_pick its h0 h1]
  have hf := I5.hok.fresh (Nat.le_refl _)
  have eL : its.length = ys.length := by rw [← hlen, rl.len]
  rw [eL]
  obtain ⟨F, R⟩ := new_lst zh hf (pick_rel (rl.nil_of ply) (sliceRange (min lo ys.length) ys.length st)) (pick_plain ply _)
  refine ⟨.ref _, _, I5.laid (t' := s3.toks) (o := .lst _) (fun b ob q => Heap.get?_push_of_some _ q) (Nat.le_refl _) ?_, rfl, q _ _ _ _ F R⟩
  refine ⟨?_, _, 0, pick_vals r _, Heap.get?_push_size _ rfl⟩
  have q1 : ((sliceRange (min lo ys.length) ys.length st).filterMap (ws[·]?)).length ≤ (sliceRange (min lo ys.length) ys.length st).length := List.length_filterMap_le _ _
  have q2 := stp_len ys.length h0 h1
  have q3 := rl.len
  omega
end
end GN
end

section
set_option linter.all false
set_option maxRecDepth 100000
set_option maxHeartbeats 2000000
namespace GN
open PySem PySem.Spec PyProof.Rows L2
section
variable {X : Cx}
theorem cr_range1 : CallR X (.type "range") (fun vs H Q => ∃ j, vs = [V.int j] ∧ ∀ p, H p = none → Q (.ref p) (upd H p (.rng 0 j))) := by
  intro pins s σ H xs us Q I r h
  obtain ⟨j, rfl, q⟩ := h
  obtain ⟨u, rfl, hr⟩ := vals1 r
  obtain ⟨t, rfl⟩ := hr
  refine call_range_1 ⟨.ref s.heap.objs.size, upd H s.heap.objs.size (.rng 0 j), I.laid (t' := s.toks + 2) (fun b o e => Heap.get?_push_of_some _ e) (Nat.le_refl _) ?_, rfl, q _ (I.hok.fresh (Nat.le_refl _))⟩
  exact ⟨_, _, _, Heap.get?_push_size _ rfl⟩
theorem op_notin_rng : OpR X (compareOp .NotIn) (fun x y H Q => ∃ i a lo hi, x = V.int i ∧ y = V.ref a ∧ H a = some (.rng lo hi) ∧ Q (.bl (!decide (lo ≤ i ∧ i < hi))) H) := by
  intro pins s σ H x y v u Q I rx ry h
  obtain ⟨i, a, lo, hi, rfl, rfl, ha, q⟩ := h
  obtain ⟨k, rfl⟩ := rx
  obtain rfl : u = Value.ref a := ry
  obtain ⟨t1, t2, t3, ho⟩ := I.hok a _ ha
  show wpAny _ _ (do return Value.bool (!(← contains (Value.ref a) (Value.int i k)))) _ _ s
  refine wpAny_bind (wpAny_contains_slot (T := "range") ⟨_, ho, rfl⟩ F.slot_range_contains (call_meets F.slot_range_contains ⟨_, ho, rfl⟩ F.entry_range_contains (F.args_range_contains_2 _ _) (q_contains a lo hi i t1 t2 t3 k)
    ⟨ho, wpAny_truthy_bool (wpAny_pure ⟨.bl _, H, I, rfl, ?_⟩)⟩))
  rw [place1]
  exact q
theorem good_rng {K : PySem.W.Frag} {neg : Bool} {x n : V} {H : Hp} {Q : VK} {p : Prim} (hp : p = if neg = true then .ninRg else .inRg) (q : Good K p [x, n] H Q) : ∃ i j, x = .int i ∧ n = .int j ∧ ∀ a, H a = none → Q (.bl (neg != (decide (0 ≤ i ∧ i < j)))) (upd H a (.rng 0 j)) := by
  obtain ⟨Z, ds, d, zh, b, e, q⟩ := q
  obtain ⟨d1, d2, rfl, b1, b2⟩ := b.two
  have e : evInRg neg d1 d2 = some d := by subst hp; cases neg <;> exact e
  cases d1 <;> cases d2 <;> simp only [evInRg] at e <;> try (cases e; done)
  cases e
  rename_i i j
  refine ⟨i, j, b1.int, b2.int, fun a hn => ?_⟩
  have h := q _ _ _ [] (Fsh.one (o := .rng 0 j) zh hn (.inl rfl)) rel_bl
  rw [show decide (0 ≤ i ∧ i < j) = (decide (0 ≤ i) && decide (i < j)) by simp [Bool.decide_and]]
  exact h
end
end GN
end

section
set_option linter.all false
set_option maxRecDepth 100000
set_option maxHeartbeats 2000000
namespace GN
open PySem PySem.Spec PyProof.Rows L2

def nstar : Expr → Bool
  | .Starred _ _ => false
  | _ => true
theorem star_of {e : Expr} (h : nstar e = true) (es : List Expr) (env : PySem.Env) : starEach (e :: es) env = (false, eval e env) :: starEach es env := by
  cases e <;> first | rfl | cases h
theorem star_any (pos : Pos) (env : PySem.Env) : ∀ (es : List Expr), es.all nstar = true → (backTo pos (starEach es env)).any (·.1) = false := by
  have h : ∀ (es : List Expr), es.all nstar = true → ∀ p ∈ starEach es env, p.1 = false := fun es => by
    induction es with
    | nil => intro _ p hp; cases hp
    | cons e es ih =>
      intro h p hp
      simp only [List.all_cons, Bool.and_eq_true] at h
      rw [star_of h.1] at hp
      rcases List.mem_cons.mp hp with rfl | hp
      · rfl
      · exact ih h.2 p hp
  intro es hes
  cases e : (backTo pos (starEach es env)).any (·.1) with
  | false => rfl
  | true =>
    obtain ⟨p, hp, hq⟩ := List.any_eq_true.mp e
    have : ∃ q ∈ starEach es env, q.1 = p.1 := by
      unfold backTo at hp
      first
        | (obtain ⟨q, hq1, rfl⟩ := List.mem_map.mp hp; exact ⟨q, hq1, rfl⟩)
        | exact ⟨p, hp, rfl⟩
    obtain ⟨q, h1, h2⟩ := this
    rw [← h2, h es hes q h1] at hq
    cases hq
theorem pa_of {X : Cx} : ∀ {es : List Expr} {ts : List TE}, PEs X es ts → es.all nstar = true → PA X es (tSeq ts)
  | _, _, .nil, _ => pa_nil
  | _, _, .cons h _ hs, hn => by
    simp only [List.all_cons, Bool.and_eq_true] at hn
    exact pa_cons h (pa_of hs hn.2) (star_of hn.1 _ _)

def isHead : Expr → Bool
  | .Slice _ _ _ _ => false
  | _ => true
theorem plainIx_of {b : Expr} (h : isHead b = true) : PlainIx b := by
  intro o i
  cases b <;> first | rfl | cases h
def constNon : Expr → Bool
  | .Constant .none _ _ => true
  | _ => false
def constBl : Expr → Bool
  | .Constant (.bool _) _ _ => true
  | _ => false
def bltArgs (sc : Scope) (p : Prim) (x : Str) (args : List Expr) : Option (List Expr) :=
  if args.all nstar = true then
    match p, args with
    | .len, [a] => if x = ("len" : Str) then some [a] else none
    | .tuple, [a] => if x = ("tuple" : Str) then some [a] else none
    | .list, [a] => if x = ("list" : Str) then some [a] else none
    | .int, [a] => if x = ("int" : Str) then some [a] else none
    | .sum, [a] => if x = ("sum" : Str) then some [a] else none
    | .all, [a] => if x = ("all" : Str) then some [a] else none
    | .any, [a] => if x = ("any" : Str) then some [a] else none
    | .abs, [a] => if x = ("abs" : Str) then some [a] else none
    | .max, [a] => if x = ("max" : Str) then some [a] else none
    | .min, [a] => if x = ("min" : Str) then some [a] else none
    | .max2, [a, b] => if x = ("max" : Str) then some [a, b] else none
    | .min2, [a, b] => if x = ("min" : Str) then some [a, b] else none
    | .sortSet, [.Call (.Name y _) [e] [] _] => if (x = ("sorted" : Str) ∧ y = ("set" : Str) ∧ glB sc y = true) ∧ nstar e = true then some [e] else none
    | .lstRg, [.Call (.Name y _) [e] [] _] => if (x = ("list" : Str) ∧ y = ("range" : Str) ∧ glB sc y = true) ∧ nstar e = true then some [e] else none
    | .lrev, [.Call (.Name y _) [e] [] _] => if (x = ("list" : Str) ∧ y = ("reversed" : Str) ∧ glB sc y = true) ∧ nstar e = true then some [e] else none
    | .str, [a] => if x = ("str" : Str) then some [a] else none
    | .repr, [a] => if x = ("repr" : Str) then some [a] else none
    | .sorted, [a] => if x = ("sorted" : Str) then some [a] else none
    | .isi [t], [a, .Name y _] => if x = ("isinstance" : Str) ∧ y = (tyNm t : Str) ∧ glB sc y = true then some [a] else none
    | .isi [t, t'], [a, .Tuple [.Name y _, .Name y' _] _ _] => if x = ("isinstance" : Str) ∧ (y = (tyNm t : Str) ∧ glB sc y = true) ∧ y' = (tyNm t' : Str) ∧ glB sc y' = true then some [a] else none
    | _, _ => none
  else none
def inRgArgs (sc : Scope) (p : Prim) (op : CmpOp) (a : Expr) : Expr → Option (List Expr)
  | .Call (.Name r _) [b] [] _ => if (p = .inRg ∧ op = .In ∨ p = .ninRg ∧ op = .NotIn) ∧ r = ("range" : Str) ∧ glB sc r = true ∧ nstar b = true then some [a, b] else none
  | _ => none
def argsOf (sc : Scope) (p : Prim) : Expr → Option (List Expr)
  | .BinOp a op b _ => if opOf p = some op then some [a, b] else none
  | .UnaryOp .USub a _ => if p = .neg then some [a] else none
  | .UnaryOp .Invert a _ => if p = .inv then some [a] else none
  | .Compare a [op] [b] _ => if behindInMarks op b = false then match p with
      | .cmp c => if cmpOf c = op then some [a, b] else none
      | .isN => if op = .Is ∧ constNon b = true then some [a] else none
      | .isNotN => if op = .IsNot ∧ constNon b = true then some [a] else none
      | .isB => if op = .Is then some [a, b] else none
      | .isNotB => if op = .IsNot then some [a, b] else none
      | p => inRgArgs sc p op a b
    else none
  | .Subscript a s _ => match s with
      | .Slice none none none _ => if p = .slc false false then some [a] else none
      | .Slice (some x) none none _ => if p = .slc true false then some [a, x] else none
      | .Slice none (some y) none _ => if p = .slc false true then some [a, y] else none
      | .Slice (some x) (some y) none _ => if p = .slc true true then some [a, x, y] else none
      | .Slice none none (some (.UnaryOp .USub (.Constant (.int 1) _ _) _)) _ => if p = .rev then some [a] else none
      | .Slice (some x) none (some y) _ => if p = .stp then some [a, x, y] else none
      | _ => if p = .idx ∧ isHead s = true then some [a, s] else none
  | .Call (.Name x _) args [] _ => if glB sc x = true then bltArgs sc p x args else none
  | .Call (.Attribute (.Constant (.str s) _ _) m apos) [e] [] pos => match p with
      | .joinC t => if (m = ("join" : Str) ∧ t = s.cps.toList) ∧ nstar e = true ∧ (apos.endLine == pos.line) = true then some [e] else none
      | _ => none
  | _ => none

def TeT (t : TE) : TT := tTest t
/-- an expression of a plain kind, as a value and as a test -/
structure PV (X : Cx) (e : Expr) (t : TE) : Prop where
  pe : PE X e t
  pt : PT X e (tTest t)
theorem ite_some {α : Type} {c : Prop} [Decidable c] {a b : α} (h : (if c then some a else none) = some b) : c ∧ a = b := by
  split at h
  · exact ⟨by assumption, by cases h; rfl⟩
  · cases h
theorem op_all {X : Cx} (p : Prim) (op : Operator) (h : opOf p = some op) : OpR X (binaryOp op) (fun x y H Q => Good X.K p [x, y] H Q) := by
  cases p <;> simp [opOf] at h <;> subst h
  · exact op_good_add
  · exact op_good_sub
  · exact op_good_mul
  · exact op_good_fdiv
  · exact op_good_mod
  · exact op_good_pow
  · exact op_good_band
  · exact op_good_bor
  · exact op_good_shl
  · exact op_good_shr
theorem blt_mem {X : Cx} {C : Cfg} {G : List Str} (B : Base X C G) {x : Str} (h : x ∈ bltNames) : X.mg x = none := B.blt x h
theorem ty_pe {X : Cx} {C : Cfg} {G : List Str} (B : Base X C G) {t : Ty} {py : Pos} (hy : glB X.env.scope (tyNm t : Str) = true) : PE X (.Name (tyNm t : Str) py) (tC (.ty (tyNm t))) := by
  cases t
  · exact pe_bltn (gl_of hy) (blt_mem B (by decide)) (by first | exact PySem.boot_int | exact PyProof.Rows.boot_int) rfl (by decide) (by decide)
  · exact pe_bltn (gl_of hy) (blt_mem B (by decide)) (by first | exact PySem.boot_bool | exact PyProof.Rows.boot_bool) rfl (by decide) (by decide)
  · exact pe_bltn (gl_of hy) (blt_mem B (by decide)) (by first | exact PySem.boot_str | exact PyProof.Rows.boot_str) rfl (by decide) (by decide)
  · exact pe_bltn (gl_of hy) (blt_mem B (by decide)) (by first | exact PySem.boot_tuple | exact PyProof.Rows.boot_tuple) rfl (by decide) (by decide)
  · exact pe_bltn (gl_of hy) (blt_mem B (by decide)) (by first | exact PySem.boot_list | exact PyProof.Rows.boot_list) rfl (by decide) (by decide)
  · exact pe_bltn (gl_of hy) (blt_mem B (by decide)) (by first | exact PySem.boot_dict | exact PyProof.Rows.boot_dict) rfl (by decide) (by decide)
theorem pv_blt {X : Cx} {C : Cfg} {G : List Str} (B : Base X C G) {p : Prim} {x : Str} {px pos : Pos} {args es : List Expr} {ts : List TE} (hg : glB X.env.scope x = true) (h : bltArgs X.env.scope p x args = some es) (hts : PEs X es ts) :
    PV X (.Call (.Name x px) args [] pos) (tPrim X.K p ts) := by
  unfold bltArgs at h
  split at h
  case isFalse => cases h
  rename_i hn
  have pvB : ∀ {id : String} {a : Expr} {as : List Expr}, x ∈ bltNames → bootBuiltins x = some (.builtin id) → CallR X (.builtin id) (fun xs H Q => Good X.K p xs H Q) → x ≠ "__name__" → (x == ("__debug__" : Str)) = false → PEs X (a :: as) ts → (a :: as).all nstar = true →
      PV X (.Call (.Name x px) (a :: as) [] pos) (tPrim X.K p ts) := fun hm hb hc h1 h2 hts hn => by
    have q := pa_of hts hn
    have hn' := hn
    simp only [List.all_cons, Bool.and_eq_true] at hn'
    have e := pe_callB (p := px) (pos := pos) hc (gl_of hg) (blt_mem B hm) hb q h1 h2 (star_of hn'.1 _ _) (star_any _ _ _ hn'.2)
    exact ⟨e, pt_val e (fun _ => rfl)⟩
  have pvT : ∀ {id : String} {a : Expr} {as : List Expr}, x ∈ bltNames → bootBuiltins x = some (.type id) → CallR X (.type id) (fun xs H Q => Good X.K p xs H Q) → x ≠ "__name__" → (x == ("__debug__" : Str)) = false → PEs X (a :: as) ts → (a :: as).all nstar = true →
      PV X (.Call (.Name x px) (a :: as) [] pos) (tPrim X.K p ts) := fun hm hb hc h1 h2 hts hn => by
    have q := pa_of hts hn
    have hn' := hn
    simp only [List.all_cons, Bool.and_eq_true] at hn'
    have e := pe_callTy (p := px) (pos := pos) hc (gl_of hg) (blt_mem B hm) hb q h1 h2 (star_of hn'.1 _ _) (star_any _ _ _ hn'.2)
    exact ⟨e, pt_val e (fun _ => rfl)⟩
  split at h <;> try (cases h; done)
  all_goals (obtain ⟨hx, rfl⟩ := ite_some h)
  · subst hx; exact pvB (by decide) (by first | exact PySem.boot_len | exact PyProof.Rows.boot_len) lenD_good (by decide) (by decide) hts hn
  · subst hx; exact pvT (by decide) (by first | exact PySem.boot_tuple | exact PyProof.Rows.boot_tuple) (tuple_good B.calm) (by decide) (by decide) hts hn
  · subst hx; exact pvT (by decide) (by first | exact PySem.boot_list | exact PyProof.Rows.boot_list) (list_good B.calm) (by decide) (by decide) hts hn
  · subst hx; exact pvT (by decide) (by first | exact PySem.boot_int | exact PyProof.Rows.boot_int) int_good (by decide) (by decide) hts hn
  · subst hx; exact pvB (by decide) (by first | exact PySem.boot_sum | exact PyProof.Rows.boot_sum) (sum_good B.calm) (by decide) (by decide) hts hn
  · subst hx; exact pvB (by decide) (by first | exact PySem.boot_all | exact PyProof.Rows.boot_all) (all_good B.calm) (by decide) (by decide) hts hn
  · subst hx; exact pvB (by decide) (by first | exact PySem.boot_any | exact PyProof.Rows.boot_any) (any_good B.calm) (by decide) (by decide) hts hn
  · subst hx; exact pvB (by decide) (by first | exact PySem.boot_abs | exact PyProof.Rows.boot_abs) abs_good (by decide) (by decide) hts hn
  · subst hx; exact pvB (by decide) (by first | exact PySem.boot_max | exact PyProof.Rows.boot_max) (max_good B.calm) (by decide) (by decide) hts hn
  · subst hx; exact pvB (by decide) (by first | exact PySem.boot_min | exact PyProof.Rows.boot_min) (min_good B.calm) (by decide) (by decide) hts hn
  · subst hx; exact pvB (by decide) (by first | exact PySem.boot_max | exact PyProof.Rows.boot_max) (max2_good B.calm) (by decide) (by decide) hts hn
  · subst hx; exact pvB (by decide) (by first | exact PySem.boot_min | exact PyProof.Rows.boot_min) (min2_good B.calm) (by decide) (by decide) hts hn
  · obtain ⟨⟨rfl, rfl, hy⟩, hn2⟩ := hx
    cases hts with
    | cons h1 m1 h2 =>
      cases h2
      have b1 : bootBuiltins "set" = some (.type "set") := by first | exact PySem.boot_set | exact PyProof.Rows.boot_set
      have b2 : bootBuiltins "sorted" = some (.builtin "sorted") := by first | exact PySem.boot_sorted | exact PyProof.Rows.boot_sorted
      exact ⟨sortSet_pe B h1 m1 (star_of hn2 _ _) (gl_of hg) (gl_of hy) (star_of rfl _ _) b1 b2, pt_val (sortSet_pe B h1 m1 (star_of hn2 _ _) (gl_of hg) (gl_of hy) (star_of rfl _ _) b1 b2) (fun _ => rfl)⟩
  · obtain ⟨⟨rfl, rfl, hy⟩, hn2⟩ := hx
    cases hts with
    | cons h1 m1 h2 =>
      cases h2
      exact ⟨listRg_pe B h1 m1 (star_of hn2 _ _) (gl_of hg) (gl_of hy) (star_of rfl _ _), pt_val (listRg_pe B h1 m1 (star_of hn2 _ _) (gl_of hg) (gl_of hy) (star_of rfl _ _)) (fun _ => rfl)⟩
  · obtain ⟨⟨rfl, rfl, hy⟩, hn2⟩ := hx
    cases hts with
    | cons h1 m1 h2 =>
      cases h2
      exact ⟨pe_lrev B.calm (gl_of hg) (blt_mem B (by decide)) (gl_of hy) (blt_mem B (by decide)) h1 m1 (star_of hn2 _ _) (star_of rfl _ _), pt_val (pe_lrev B.calm (gl_of hg) (blt_mem B (by decide)) (gl_of hy) (blt_mem B (by decide)) h1 m1 (star_of hn2 _ _) (star_of rfl _ _)) (fun _ => rfl)⟩
  · subst hx; exact pvT (by decide) (by first | exact PySem.boot_str | exact PyProof.Rows.boot_str) str_good (by decide) (by decide) hts hn
  · subst hx; exact pvB (by decide) (by first | exact PySem.boot_repr | exact PyProof.Rows.boot_repr) (repr_good B.gd B.un) (by decide) (by decide) hts hn
  · subst hx; exact pvB (by decide) (by first | exact PySem.boot_sorted | exact PyProof.Rows.boot_sorted) (sorted_good B.un B.calm) (by decide) (by decide) hts hn
  · rename_i t a y py
    obtain ⟨rfl, rfl, hy⟩ := hx
    cases hts with
    | cons h1 m1 h2 =>
      cases h2
      rename_i t1
      have ty : PE X (.Name (tyNm t : Str) py) (tC (.ty (tyNm t))) := by
        cases t
        · exact pe_bltn (gl_of hy) (blt_mem B (by decide)) (by first | exact PySem.boot_int | exact PyProof.Rows.boot_int) rfl (by decide) (by decide)
        · exact pe_bltn (gl_of hy) (blt_mem B (by decide)) (by first | exact PySem.boot_bool | exact PyProof.Rows.boot_bool) rfl (by decide) (by decide)
        · exact pe_bltn (gl_of hy) (blt_mem B (by decide)) (by first | exact PySem.boot_str | exact PyProof.Rows.boot_str) rfl (by decide) (by decide)
        · exact pe_bltn (gl_of hy) (blt_mem B (by decide)) (by first | exact PySem.boot_tuple | exact PyProof.Rows.boot_tuple) rfl (by decide) (by decide)
        · exact pe_bltn (gl_of hy) (blt_mem B (by decide)) (by first | exact PySem.boot_list | exact PyProof.Rows.boot_list) rfl (by decide) (by decide)
        · exact pe_bltn (gl_of hy) (blt_mem B (by decide)) (by first | exact PySem.boot_dict | exact PyProof.Rows.boot_dict) rfl (by decide) (by decide)
      have hn' := hn
      simp only [List.all_cons, Bool.and_eq_true] at hn'
      have q := pa_of (PEs.cons h1 m1 (PEs.cons ty (fun _ _ _ _ h q => h _ _ q) PEs.nil)) hn
      have e := pe_callB (p := px) (pos := pos) (isi_good t) (gl_of hg) (blt_mem B (by decide)) (by first | exact PySem.boot_isinstance | exact PyProof.Rows.boot_isinstance) q (by decide) (by decide) (star_of hn'.1 _ _) (star_any _ _ _ (by simp [nstar]))
      have im : ∀ σ H Q, tPrim X.K (.isi [t]) [t1] σ H Q → tCB (fun xs H Q => ∃ x, xs = [x, .ty (tyNm t)] ∧ Good X.K (.isi [t]) [x] H Q) (tSeq [t1, tC (.ty (tyNm t))]) σ H Q := fun σ H Q h => m1 σ H _ _ (fun v H' g => ⟨v, rfl, g⟩) h
      exact ⟨PE.imp e im, PT.imp (pt_val e (fun _ => rfl)) fun σ H Q h => im σ H _ h⟩
  · rename_i t t' a y py y' py' kk ppos
    obtain ⟨rfl, ⟨rfl, hy⟩, rfl, hy'⟩ := hx
    cases hts with
    | cons h1 m1 h2 =>
      cases h2
      rename_i t1
      have pt : PE X (.Tuple [.Name (tyNm t : Str) py, .Name (tyNm t' : Str) py'] kk ppos) (tTup (tSeq [tC (.ty (tyNm t)), tC (.ty (tyNm t'))])) := pe_tup (pa_of (PEs.cons (ty_pe B hy) (fun _ _ _ _ h q => h _ _ q) (PEs.cons (ty_pe B hy') (fun _ _ _ _ h q => h _ _ q) PEs.nil)) rfl)
      have hn' := hn
      simp only [List.all_cons, Bool.and_eq_true] at hn'
      have q := pa_of (PEs.cons h1 m1 (PEs.cons pt (fun σ H Q Q' h q => ⟨q.1, fun p hp => h _ _ (q.2 p hp)⟩) PEs.nil)) hn
      have e := pe_callB (p := px) (pos := pos) (isi2_good t t') (gl_of hg) (blt_mem B (by decide)) (by first | exact PySem.boot_isinstance | exact PyProof.Rows.boot_isinstance) q (by decide) (by decide) (star_of hn'.1 _ _) (star_any _ _ _ (by simp [nstar]))
      have im : ∀ σ H Q, tPrim X.K (.isi [t, t']) [t1] σ H Q → tCB (fun xs H Q => ∃ x p H0, xs = [x, .ref p] ∧ H0 p = none ∧ H = upd H0 p (.tup [.ty (tyNm t), .ty (tyNm t')]) ∧ Good X.K (.isi [t, t']) [x] H0 Q) (tSeq [t1, tTup (tSeq [tC (.ty (tyNm t)), tC (.ty (tyNm t'))])]) σ H Q := fun σ H Q h => m1 σ H _ _ (fun v H' g => ⟨by rw [← line_eq]; exact Nat.le_trans (Nat.le_refl 2) (by decide), fun p hp => ⟨v, p, H', rfl, hp, rfl, g⟩⟩) h
      exact ⟨PE.imp e im, PT.imp (pt_val e (fun _ => rfl)) fun σ H Q h => im σ H _ h⟩
theorem seq2 {t1 t2 : TE} {K : PySem.W.Frag} {p : Prim} : tPrim K p [t1, t2] = tOp (fun x y H Q => Good K p [x, y] H Q) t1 t2 := rfl
theorem seq1 {t1 : TE} {K : PySem.W.Frag} {p : Prim} : tPrim K p [t1] = tUn (fun x H Q => Good K p [x] H Q) t1 := rfl
theorem isN_good {X : Cx} {a b : Expr} {ta : TE} {pos : Pos} (h : PE X a ta) (m : Mono ta) (hb : constNon b = true) : PV X (.Compare a [.Is] [b] pos) (tPrim X.K .isN [ta]) := by
  cases b <;> try (cases hb; done)
  rename_i c k p
  cases c <;> try (cases hb; done)
  have im : ∀ σ H Q, tPrim X.K .isN [ta] σ H Q → tOp (fun x y H Q => y = .non ∧ Q (.bl (decide (x = .non))) H) ta (tC .non) σ H Q := fun σ H Q q => m σ H _ _ (fun v H' g => by
    obtain ⟨Z, ds, d, zh, b, e, q⟩ := g
    obtain ⟨d1, rfl, b1⟩ := b.one
    cases e
    exact ⟨rfl, by rw [bor_non b1]; exact q _ _ _ [] (Fsh.refl zh) rel_bl⟩) q
  exact ⟨PE.imp (pe_cmpR op_isN h pe_non rfl) im, PT.imp (pt_cmpR op_isN h pe_non rfl) fun σ H Q h => im σ H _ h⟩
theorem isNotN_good {X : Cx} {a b : Expr} {ta : TE} {pos : Pos} (h : PE X a ta) (m : Mono ta) (hb : constNon b = true) : PV X (.Compare a [.IsNot] [b] pos) (tPrim X.K .isNotN [ta]) := by
  cases b <;> try (cases hb; done)
  rename_i c k p
  cases c <;> try (cases hb; done)
  have im : ∀ σ H Q, tPrim X.K .isNotN [ta] σ H Q → tOp (fun x y H Q => y = .non ∧ Q (.bl (!decide (x = .non))) H) ta (tC .non) σ H Q := fun σ H Q q => m σ H _ _ (fun v H' g => by
    obtain ⟨Z, ds, d, zh, b, e, q⟩ := g
    obtain ⟨d1, rfl, b1⟩ := b.one
    cases e
    exact ⟨rfl, by rw [bor_non b1]; exact q _ _ _ [] (Fsh.refl zh) rel_bl⟩) q
  exact ⟨PE.imp (pe_cmpR op_notN h pe_non rfl) im, PT.imp (pt_cmpR op_notN h pe_non rfl) fun σ H Q h => im σ H _ h⟩
theorem isB_good {X : Cx} : OpR X (compareOp .Is) (fun x y H Q => Good X.K .isB [x, y] H Q) := OpR.imp op_is_bl fun x y H Q q => by
  obtain ⟨Z, ds, d, zh, b, e, q⟩ := q
  obtain ⟨d1, d2, rfl, b1, b2⟩ := b.two
  change evIsB false d1 d2 = some d at e
  cases d1 <;> cases d2 <;> simp [evIsB] at e
  subst e
  refine ⟨_, _, b1.bl, b2.bl, ?_⟩
  have h := q _ _ _ [] (Fsh.refl zh) rel_bl
  rename_i a c
  have e : decide (a = c) = (a == c) := by cases a <;> cases c <;> rfl
  rw [e]; exact h
theorem isNotB_good {X : Cx} : OpR X (compareOp .IsNot) (fun x y H Q => Good X.K .isNotB [x, y] H Q) := OpR.imp op_isnot_bl fun x y H Q q => by
  obtain ⟨Z, ds, d, zh, b, e, q⟩ := q
  obtain ⟨d1, d2, rfl, b1, b2⟩ := b.two
  change evIsB true d1 d2 = some d at e
  cases d1 <;> cases d2 <;> simp [evIsB] at e
  subst e
  refine ⟨_, _, b1.bl, b2.bl, ?_⟩
  have h := q _ _ _ [] (Fsh.refl zh) rel_bl
  rename_i a c
  have e : (!decide (a = c)) = (a != c) := by cases a <;> cases c <;> rfl
  rw [e]; exact h
section
variable {X : Cx}
theorem inRg_pv {neg : Bool} {a b : Expr} {ta tb : TE} {p2 pos2 pos : Pos} (hg : Gl X "range") (hm : X.mg "range" = none) (h1 : PE X a ta) (m1 : Mono ta) (h2 : PE X b tb) (m2 : Mono tb) (hs : starEach [b] X.env = (false, eval b X.env) :: starEach [] X.env) (hpl : (backTo pos2 (starEach [] X.env)).any (·.1) = false)
    (hmk : behindInMarks (if neg = true then .NotIn else .In) (.Call (.Name "range" p2) [b] [] pos2) = false) :
    PV X (.Compare a [if neg = true then .NotIn else .In] [.Call (.Name "range" p2) [b] [] pos2] pos) (tPrim X.K (if neg = true then .ninRg else .inRg) [ta, tb]) := by
  have hr := pe_callTy (p := p2) (pos := pos2) (cr_range1 (X := X)) hg hm PyProof.Rows.boot_range (pa_cons h2 pa_nil hs) (by decide) (by decide) hs hpl
  have op : OpR X (compareOp (if neg = true then .NotIn else .In)) (fun x y H Q => ∃ i a lo hi, x = V.int i ∧ y = V.ref a ∧ H a = some (.rng lo hi) ∧ Q (.bl (neg != decide (lo ≤ i ∧ i < hi))) H) := by
    cases neg
    · exact OpR.imp op_in_rng fun x y H Q ⟨i, a, lo, hi, e1, e2, e3, q⟩ => ⟨i, a, lo, hi, e1, e2, e3, by simpa using q⟩
    · exact OpR.imp op_notin_rng fun x y H Q ⟨i, a, lo, hi, e1, e2, e3, q⟩ => ⟨i, a, lo, hi, e1, e2, e3, by simpa using q⟩
  have im : ∀ σ H Q, tPrim X.K (if neg = true then .ninRg else .inRg) [ta, tb] σ H Q → ta σ H fun x H1 => tb σ H1 fun n H2 => ∃ j, [n] = [V.int j] ∧ ∀ p, H2 p = none → ∃ i a lo hi, x = V.int i ∧ (V.ref p) = V.ref a ∧ (upd H2 p (.rng 0 j)) a = some (.rng lo hi) ∧ Q (.bl (neg != decide (lo ≤ i ∧ i < hi))) (upd H2 p (.rng 0 j)) := fun σ H Q q => m1 σ H _ _ (fun x H1 q => m2 σ H1 _ _ (fun n H2 q => by
    obtain ⟨i, j, e1, e2, q⟩ := good_rng rfl q
    exact ⟨j, by rw [e2], fun p hn => ⟨i, p, 0, j, e1, rfl, upd_same, q p hn⟩⟩) q) q
  exact ⟨PE.imp (pe_cmpR op h1 hr hmk) im, PT.imp (pt_cmpR op h1 hr hmk) fun σ H Q q => im σ H _ q⟩
end
/-! ### slices -/
def PartV (u : Value) : Option V → Prop
  | none => u = .none
  | some v => RelV v u
structure PQ (X : Cx) (e : Option Expr) (t : L2.St → Hp → (Option V → Hp → Prop) → Prop) : Prop where
  run : ∀ (pins : List (Addr × Obj)) (s : Shared) (σ : L2.St) (H : Hp) (Q : Option V → Hp → Prop), Inv X pins σ H s → t σ H Q →
    wpAny (model X.prog X.w) X.A (evalPart e X.env) (fun u s' => ∃ o H', Inv X pins σ H' s' ∧ PartV u o ∧ Q o H') X.xe s
theorem pq_none {X : Cx} : PQ X none (fun _ H Q => Q none H) := by
  refine ⟨fun pins s σ H Q I h => ?_⟩
  rw [evalPart_none]
  exact wpAny_pure ⟨none, H, I, rfl, h⟩
theorem pq_some {X : Cx} {e : Expr} {te : TE} (h : PE X e te) : PQ X (some e) (fun σ H Q => te σ H fun v H1 => Q (some v) H1) := by
  refine ⟨fun pins s σ H Q I hw => ?_⟩
  rw [evalPart_some]
  exact thn (h.run pins s σ H _ I hw) fun u s1 ⟨x, H1, I1, r1, q1⟩ => ⟨some x, H1, I1, r1, q1⟩
theorem part_int {u : Value} {o : Option V} {i : Option Int} (h : PartV u o) (e : o = i.map V.int) : IsPart u i := by
  cases i with
  | none => cases e; rw [show u = Value.none from h]; exact .none
  | some i => cases e; obtain ⟨t, rfl⟩ := (show ∃ t, u = Value.int i t from h); exact .int i t
theorem pe_sliceV {X : Cx} {e : Expr} {te : TE} {lo hi : Option Expr} {tl th : L2.St → Hp → (Option V → Hp → Prop) → Prop} {pos p2 : Pos} (he : PE X e te) (hl : PQ X lo tl) (hu : PQ X hi th) :
    PE X (.Subscript e (.Slice lo hi none p2) pos) (fun σ H Q => te σ H fun x H1 => tl σ H1 fun l H2 => th σ H2 fun u H3 => ∃ i j, l = i.map V.int ∧ u = j.map V.int ∧ GoodS X.K x i j H3 Q) := by
  refine ⟨fun pins s σ H Q I h => ?_⟩
  refine Subscript_ (thn (he.run pins s σ H _ I h) fun v s1 ⟨x, H1, I1, r1, q1⟩ => ?_)
  refine wpAny_Slice (thn (hl.run pins s1 σ H1 _ I1 q1) fun vl s2 ⟨l, H2, I2, pl, q2⟩ => thn (hu.run pins s2 σ H2 _ I2 q2) fun vu s3 ⟨u, H3, I3, pu, q3⟩ => ?_)
  obtain ⟨i, j, e1, e2, q3⟩ := q3
  rw [evalPart_none]
  refine wpAny_pure ?_
  have I4 : Inv X pins σ H3 { s3 with heap := s3.heap.push { cls := .type "slice", data := .fields #[vl, vu, .none] } } := I3.kept (t' := s3.toks) fun b ob q => Heap.get?_push_of_some _ q
  obtain ⟨T, id, hT, ht, hg⟩ := sl_good pins { s3 with heap := s3.heap.push { cls := .type "slice", data := .fields #[vl, vu, .none] } } σ H3 x v vl vu i j s3.heap.objs.size Q I4 r1 (Heap.IsSliceOf.new ..) (part_int pl e1) (part_int pu e2) q3
  show wpAny (model X.prog X.w) X.A (subscriptTail e (.Slice lo hi none p2) v (.ref s3.heap.objs.size)) (EP X pins σ Q) X.xe { s3 with heap := s3.heap.push { cls := .type "slice", data := .fields #[vl, vu, .none] } }
  exact tail_any (ops := [.ref s3.heap.objs.size, v]) ht hT hg (by with_unfolding_all rfl)
theorem slc_of {K : PySem.W.Frag} {l h : Bool} {x : V} {vs : List V} {H : Hp} {Q : VK} (q : Good K (.slc l h) (x :: vs) H Q) :
    ∃ ds i j, optInt ds [l, h] = some [i, j] ∧ (∃ Z, BorL K Z H ds vs) ∧ GoodS K x i j H Q := by
  obtain ⟨Z, ds, d, zh, b, e, q⟩ := q
  cases ds with
  | nil => cases b
  | cons d0 ds =>
    obtain ⟨v, r, e2, b1, b2⟩ := b
    cases e2
    change (match optInt ds [l, h] with | some [a, b] => evSlc d0 a b | _ => none) = some d at e
    split at e
    · rename_i i j ho
      exact ⟨ds, i, j, ho, ⟨Z, b2⟩, Z, d0, d, zh, b1, e, q⟩
    · cases e
theorem BorL.nil {K : PySem.W.Frag} {Z : Addr → Prop} {H : Hp} {ds : List D} (b : BorL K Z H ds []) : ds = [] := by
  cases ds with
  | nil => rfl
  | cons d ds => obtain ⟨v, r, e, _⟩ := b; cases e
theorem opt_tf {d : D} {i j : Option Int} (h : optInt [d] [true, false] = some [i, j]) : ∃ k, d = .int k ∧ i = some k ∧ j = none := by
  cases d <;> simp [optInt] at h
  obtain ⟨h1, h2⟩ := h
  exact ⟨_, rfl, by simp_all, by simp_all⟩
theorem opt_ft {d : D} {i j : Option Int} (h : optInt [d] [false, true] = some [i, j]) : ∃ k, d = .int k ∧ i = none ∧ j = some k := by
  cases d <;> simp [optInt] at h
  obtain ⟨h1, h2⟩ := h
  exact ⟨_, rfl, by simp_all, by simp_all⟩
theorem opt_tt {d e : D} {i j : Option Int} (h : optInt [d, e] [true, true] = some [i, j]) : ∃ k l, d = .int k ∧ e = .int l ∧ i = some k ∧ j = some l := by
  cases d <;> cases e <;> simp [optInt] at h
  obtain ⟨h1, h2⟩ := h
  exact ⟨_, _, rfl, rfl, by simp_all, by simp_all⟩
theorem opt_int1 {K : PySem.W.Frag} {Z : Addr → Prop} {H : Hp} {ds : List D} {v : V} (b : BorL K Z H ds [v]) {d : D} (e : ds = [d]) {i : Int} (h : d = .int i) : v = .int i := by
  subst e h
  obtain ⟨d, e, b⟩ := b.one
  cases e
  exact b.int
theorem pv_prim {X : Cx} {C : Cfg} {G : List Str} (B : Base X C G) {p : Prim} {e : Expr} {es : List Expr} {ts : List TE} (h : argsOf X.env.scope p e = some es) (hts : PEs X es ts) : PV X e (tPrim X.K p ts) := by
  unfold argsOf at h
  split at h
  · obtain ⟨ho, rfl⟩ := ite_some h
    cases hts with
    | cons h1 m1 h2 => cases h2 with
      | cons h2 m2 h3 =>
        cases h3
        exact ⟨pe_op (op_all p _ ho) h1 h2, pt_val (pe_op (op_all p _ ho) h1 h2) (fun _ => rfl)⟩
  · obtain ⟨rfl, rfl⟩ := ite_some h
    cases hts with
    | cons h1 m1 h2 =>
      cases h2
      exact ⟨pe_un un_neg_good h1, pt_val (pe_un un_neg_good h1) (fun _ => rfl)⟩
  · obtain ⟨rfl, rfl⟩ := ite_some h
    cases hts with
    | cons h1 m1 h2 =>
      cases h2
      exact ⟨pe_un un_inv_good h1, pt_val (pe_un un_inv_good h1) (fun _ => rfl)⟩
  · split at h
    case isFalse => cases h
    rename_i hm
    split at h
    · obtain ⟨rfl, rfl⟩ := ite_some h
      cases hts with
      | cons h1 m1 h2 => cases h2 with
        | cons h2 m2 h3 =>
          cases h3
          exact ⟨pe_cmpR (op_good_cmp B.un _) h1 h2 hm, pt_cmpR (op_good_cmp B.un _) h1 h2 hm⟩
    · obtain ⟨⟨rfl, hc⟩, rfl⟩ := ite_some h
      cases hts with
      | cons h1 m1 h2 => cases h2; exact isN_good h1 m1 hc
    · obtain ⟨⟨rfl, hc⟩, rfl⟩ := ite_some h
      cases hts with
      | cons h1 m1 h2 => cases h2; exact isNotN_good h1 m1 hc
    · obtain ⟨rfl, rfl⟩ := ite_some h
      cases hts with
      | cons h1 m1 h2 => cases h2 with
        | cons h2 m2 h3 =>
          cases h3
          exact ⟨pe_cmpR isB_good h1 h2 hm, pt_cmpR isB_good h1 h2 hm⟩
    · obtain ⟨rfl, rfl⟩ := ite_some h
      cases hts with
      | cons h1 m1 h2 => cases h2 with
        | cons h2 m2 h3 =>
          cases h3
          exact ⟨pe_cmpR isNotB_good h1 h2 hm, pt_cmpR isNotB_good h1 h2 hm⟩
    · unfold inRgArgs at h
      split at h
      · obtain ⟨⟨hp, hr, hg, hn⟩, rfl⟩ := ite_some h
        subst hr
        cases hts with
        | cons h1 m1 h2 => cases h2 with
          | cons h2 m2 h3 =>
            cases h3
            rcases hp with ⟨rfl, rfl⟩ | ⟨rfl, rfl⟩
            · exact inRg_pv (neg := false) (gl_of hg) (blt_mem B (by decide)) h1 m1 h2 m2 (star_of hn [] _) rfl hm
            · exact inRg_pv (neg := true) (gl_of hg) (blt_mem B (by decide)) h1 m1 h2 m2 (star_of hn [] _) rfl hm
      · cases h
  · split at h
    · obtain ⟨rfl, rfl⟩ := ite_some h
      cases hts with
      | cons h1 m1 h2 =>
        cases h2
        have im : ∀ σ H Q, tPrim X.K (.slc false false) [_] σ H Q → _ := fun σ H Q q => m1 σ H _ (fun x H1 => ∃ i j, (none : Option V) = i.map V.int ∧ (none : Option V) = j.map V.int ∧ GoodS X.K x i j H1 Q) (fun v H' g => by
          obtain ⟨ds, i, j, e, ⟨Z, b⟩, g⟩ := slc_of g
          have b := b.nil
          subst b
          cases e
          exact ⟨none, none, rfl, rfl, g⟩) q
        exact ⟨PE.imp (pe_sliceV h1 pq_none pq_none) im, PT.imp (pt_val (pe_sliceV h1 pq_none pq_none) (fun _ => rfl)) fun σ H Q q => im σ H _ q⟩
    · obtain ⟨rfl, rfl⟩ := ite_some h
      cases hts with
      | cons h1 m1 h2 => cases h2 with
        | cons h2 m2 h3 =>
          cases h3
          have im : ∀ σ H Q, tPrim X.K (.slc true false) [_, _] σ H Q → _ := fun σ H Q q => m1 σ H _ (fun x H1 => _) (fun v H' g => m2 σ H' _ (fun y H2 => ∃ i j, some y = i.map V.int ∧ (none : Option V) = j.map V.int ∧ GoodS X.K v i j H2 Q) (fun w H'' g => by
            obtain ⟨ds, i, j, e, ⟨Z, b⟩, g⟩ := slc_of g
            obtain ⟨d, rfl, b1⟩ := b.one
            obtain ⟨k, rfl, rfl, rfl⟩ := opt_tf e
            exact ⟨some k, none, by rw [b1.int]; rfl, rfl, g⟩) g) q
          exact ⟨PE.imp (pe_sliceV h1 (pq_some h2) pq_none) im, PT.imp (pt_val (pe_sliceV h1 (pq_some h2) pq_none) (fun _ => rfl)) fun σ H Q q => im σ H _ q⟩
    · obtain ⟨rfl, rfl⟩ := ite_some h
      cases hts with
      | cons h1 m1 h2 => cases h2 with
        | cons h2 m2 h3 =>
          cases h3
          have im : ∀ σ H Q, tPrim X.K (.slc false true) [_, _] σ H Q → _ := fun σ H Q q => m1 σ H _ (fun x H1 => _) (fun v H' g => m2 σ H' _ (fun y H2 => ∃ i j, (none : Option V) = i.map V.int ∧ some y = j.map V.int ∧ GoodS X.K v i j H2 Q) (fun w H'' g => by
            obtain ⟨ds, i, j, e, ⟨Z, b⟩, g⟩ := slc_of g
            obtain ⟨d, rfl, b1⟩ := b.one
            obtain ⟨k, rfl, rfl, rfl⟩ := opt_ft e
            exact ⟨none, some k, rfl, by rw [b1.int]; rfl, g⟩) g) q
          exact ⟨PE.imp (pe_sliceV h1 pq_none (pq_some h2)) im, PT.imp (pt_val (pe_sliceV h1 pq_none (pq_some h2)) (fun _ => rfl)) fun σ H Q q => im σ H _ q⟩
    · obtain ⟨rfl, rfl⟩ := ite_some h
      cases hts with
      | cons h1 m1 h2 => cases h2 with
        | cons h2 m2 h3 => cases h3 with
          | cons h3 m3 h4 =>
            cases h4
            have im : ∀ σ H Q, tPrim X.K (.slc true true) [_, _, _] σ H Q → _ := fun σ H Q q => m1 σ H _ (fun x H1 => _) (fun v H' g => m2 σ H' _ (fun y H2 => _) (fun w H'' g => m3 σ H'' _ (fun z H3 => ∃ i j, some w = i.map V.int ∧ some z = j.map V.int ∧ GoodS X.K v i j H3 Q) (fun u H3 g => by
              obtain ⟨ds, i, j, e, ⟨Z, b⟩, g⟩ := slc_of g
              obtain ⟨d, d', rfl, b1, b2⟩ := b.two
              obtain ⟨k, l, rfl, rfl, rfl, rfl⟩ := opt_tt e
              exact ⟨some k, some l, by rw [b1.int]; rfl, by rw [b2.int]; rfl, g⟩) g) g) q
            exact ⟨PE.imp (pe_sliceV h1 (pq_some h2) (pq_some h3)) im, PT.imp (pt_val (pe_sliceV h1 (pq_some h2) (pq_some h3)) (fun _ => rfl)) fun σ H Q q => im σ H _ q⟩
    · obtain ⟨rfl, rfl⟩ := ite_some h
      cases hts with
      | cons h1 m1 h2 =>
        cases h2
        exact ⟨pe_rev h1 m1, pt_val (pe_rev h1 m1) (fun _ => rfl)⟩
    · obtain ⟨rfl, rfl⟩ := ite_some h
      cases hts with
      | cons h1 m1 h2 => cases h2 with
        | cons h2 m2 h3 => cases h3 with
          | cons h3 m3 h4 =>
            cases h4
            exact ⟨pe_stp h1 m1 h2 m2 h3 m3, pt_val (pe_stp h1 m1 h2 m2 h3 m3) (fun _ => rfl)⟩
    · obtain ⟨⟨rfl, hh⟩, rfl⟩ := ite_some h
      cases hts with
      | cons h1 m1 h2 => cases h2 with
        | cons h2 m2 h3 =>
          cases h3
          exact ⟨pe_ix (ix_prim B.un) h1 h2 (plainIx_of hh), pt_val (pe_ix (ix_prim B.un) h1 h2 (plainIx_of hh)) (fun _ => rfl)⟩
  · split at h
    case isFalse => cases h
    rename_i hg
    exact pv_blt B hg h hts
  · split at h
    · obtain ⟨⟨⟨rfl, rfl⟩, hn, hl⟩, rfl⟩ := ite_some h
      cases hts with
      | cons h1 m1 h2 =>
        cases h2
        exact ⟨joinC_good h1 m1 (star_of hn [] X.env) hl, pt_val (joinC_good h1 m1 (star_of hn [] X.env) hl) (fun _ => rfl)⟩
    · cases h
  · cases h
end GN
end

section
set_option linter.all false
namespace GN
mutual
inductive MA where
  | var (i : Nat) | cst (d : D) | gbl (j : Nat)
  | idx (a b : MA) | prim (p : Prim) (as : MAs)
  | and (a b : MA) | or (a b : MA) | not (a : MA) | ite (c a b : MA) | chain (c d : Cop) (x y z : MA)
  | tup (as : MAs) | lst (as : MAs)
  | tor (a : MA)   -- tuple(a or ())
  | ali (i n : Nat)   -- a name that stands for an item of a list at another name
  | alk (i : Nat) (s : List Nat)   -- .. for an item of a dict at another name
inductive MAs where | nil | cons (a : MA) (r : MAs)
end
inductive MT where | v (i : Nat) | t (ts : List MT)
/-- a list that is changed: a name's, or an item of it -/
inductive MP where | v (i : Nat) | s (i : Nat) (k : MA)

mutual
inductive ME where
  | at_ (a : MA) | fz (i : Nat) | mv (i : Nat)
  | po (p : Prim) (as : MOs) | tup (as : MOs) | lst (as : MOs)
  | call (f : Nat) (as : MOs)
  | and (a b : ME) | or (a b : ME) | not (a : ME) | ite (c a b : ME)
  | comp (own : List Nat) (t : MT) (it : MI) (c : ME) (e : ME)
  | pop (p : MP) (as : MOs)
  | dct (ks : List Kx) (as : MOs)
  | dctK (as : MOs)   -- {k: v}, the key reckoned
  | frz (a : ME)
  | mt (m : Mt) (a : ME) (as : MOs)
  | mtp (m : Mt) (i : Nat) (as : MOs)
inductive MOs where
  | nil | ow (e : ME) (r : MOs) | pl (i : Nat) (r : MOs) | fl (i : Nat) (r : MOs) | ml (i : Nat) (r : MOs)
inductive MI where
  | own (e : ME) | take (i : Nat) | rng (as : MOs) | enum (x : MI) | zip (x y : MI) | zip3 (x y z : MI) | rev (e : ME) | revT (i : Nat) | revR (e : ME)
end
section
variable (C : Cfg)
mutual
def evA : MA → Env → Option D
  | .var i, ρ => get ρ i
  | .cst d, _ => some d
  | .gbl j, _ => C.gbl j
  | .idx a b, ρ => (evA a ρ).bind fun x => (evA b ρ).bind fun k => evItem x k
  | .prim p as, ρ => (evAs as ρ).bind fun ds => evPrim p ds
  | .and a b, ρ => (evA a ρ).bind fun x => (asB x).bind fun c => if c = true then evA b ρ else some (.bl false)
  | .or a b, ρ => (evA a ρ).bind fun x => (asB x).bind fun c => if c = true then some (.bl true) else evA b ρ
  | .not a, ρ => (evA a ρ).bind fun x => (asB x).bind fun c => some (.bl (!c))
  | .ite c a b, ρ => (evA c ρ).bind fun x => (asB x).bind fun c => if c = true then evA a ρ else evA b ρ
  | .chain c d x y z, ρ => (evA x ρ).bind fun u => (evA y ρ).bind fun v => (evCmp c u v).bind fun r => (asB r).bind fun k =>
      if k = true then (evA z ρ).bind fun w => evCmp d v w else some (.bl false)
  | .tor a, ρ => (evA a ρ).bind torD
  | .tup as, ρ => (evAs as ρ).bind fun ds => if D.plainL ds = true ∧ ds.length ≤ line then some (.tup ds) else none
  | .lst as, ρ => (evAs as ρ).bind fun ds => if D.plainL ds = true ∧ ds.length ≤ line then some (.lst .own ds) else none
  | .ali i n, ρ => match get ρ i with
    | some (.lst o xs) => if o = .ext then none else xs[n]?
    | _ => none
  | .alk i s, ρ => match get ρ i with
    | some (.dct o ks xs) => if o = .ext then none else (kAt ks (.s s)).bind fun n => xs[n]?
    | _ => none
def evAs : MAs → Env → Option (List D)
  | .nil, _ => some []
  | .cons a r, ρ => (evA a ρ).bind fun d => (evAs r ρ).bind fun ds => some (d :: ds)
end

mutual
def bindT : MT → D → Env → Option Env
  | .v i, d, ρ => if i < ρ.length then some (put ρ i (some d)) else none
  | .t ts, .tup xs, ρ => bindTs ts xs ρ
  | .t _, _, _ => none
def bindTs : List MT → List D → Env → Option Env
  | [], [], ρ => some ρ
  | t :: ts, x :: xs, ρ => (bindT t x ρ).bind fun ρ1 => bindTs ts xs ρ1
  | _, _, _ => none
end
def wipe (ρ : Env) : List Nat → Env
  | [] => ρ
  | i :: r => wipe (put ρ i none) r
def getP : MP → Env → Option (List D)
  | .v i, ρ => match get ρ i with | some (.lst .own xs) => some xs | _ => none
  | .s i k, ρ => match get ρ i, evA C k ρ with
    | some (.lst .own xs), some (.int j) => match at_ xs j with | some (.lst .own ys) => some ys | _ => none
    | some (.dct .own ks xs), some kd => match ((kxOf kd).bind (kAt ks)).bind fun n => xs[n]? with | some (.lst .own ys) => some ys | _ => none
    | _, _ => none
def putP : MP → List D → Env → Option Env
  | .v i, ys, ρ => some (put ρ i (some (.lst .own ys)))
  | .s i k, ys, ρ => match get ρ i, evA C k ρ with
    | some (.lst .own xs), some (.int j) => (ixAt xs.length j).map fun n => put ρ i (some (.lst .own (xs.set n (.lst .own ys))))
    | some (.dct .own ks xs), some kd => ((kxOf kd).bind (kAt ks)).map fun n => put ρ i (some (.dct .own ks (xs.set n (.lst .own ys))))
    | _, _ => none

def compLoop (own : List Nat) (f : D → Env → Option (Option D × Env)) : List D → Env → List D → Option (List D × Env)
  | [], ρ, acc => some (acc, ρ)
  | x :: r, ρ, acc => (f x ρ).bind fun p => match p.1 with
    | some d => if acc.length < line then compLoop own f r (wipe p.2 own) (acc ++ [d]) else none
    | none => compLoop own f r (wipe p.2 own) acc

/-- items to walk, the state, slots to fill again behind the walk -/
abbrev Its := List D × Env × List (Nat × D)
def refill (ρ : Env) : List (Nat × D) → Env
  | [] => ρ
  | (i, d) :: r => refill (put ρ i (some d)) r
def rangeD (lo : Int) : Nat → List D
  | 0 => []
  | n + 1 => .int lo :: rangeD (lo + 1) n
def rangeCD (lo c : Int) : Nat → List D
  | 0 => []
  | n + 1 => .int lo :: rangeCD (lo + c) c n
def enumD (k : Nat) : List D → List D
  | [] => []
  | x :: r => .tup [.int k, x] :: enumD (k + 1) r
def zipD : List D → List D → List D
  | x :: r, y :: s => .tup [x, y] :: zipD r s
  | _, _ => []
def zip3D : List D → List D → List D → List D
  | x :: r, y :: s, z :: t => .tup [x, y, z] :: zip3D r s t
  | _, _, _ => []
def itemsOf : D → Option (List D)
  | .lst o xs => if D.plainL xs = true then some xs else none
  | .tup xs => if D.plainL xs = true then some xs else none
  | .str s => some (s.map fun c => .str [c])
  | _ => none
def seqOf : D → Option (List D)
  | .lst o xs => if D.plainL xs = true then some xs else none
  | .tup xs => if D.plainL xs = true then some xs else none
  | _ => none
def rngOf : List D → Option (List D)
  | [.int b] => if -4611686018427387904 ≤ b ∧ b < 4611686018427387904 then some (rangeD 0 b.toNat) else none
  | [.int a, .int b] => if -4611686018427387904 ≤ a ∧ a < 4611686018427387904 ∧ -4611686018427387904 ≤ b ∧ b < 4611686018427387904 then some (rangeD a (b - a).toNat) else none
  | [.int a, .int b, .int c] => if -4611686018427387904 ≤ a ∧ a < 4611686018427387904 ∧ -4611686018427387904 ≤ b ∧ b < 4611686018427387904 ∧ c ≠ 0 ∧ c.natAbs < 1073741824 then some (rangeCD a c (PySem.Builtin.Range.rangeSize a b c).toNat) else none
  | _ => none

/-- lent names, emptied; filled again behind the call -/
def emptyL : MOs → Env → Env
  | .nil, ρ => ρ
  | .ow _ r, ρ => emptyL r ρ
  | .pl i r, ρ => emptyL r (put ρ i none)
  | .fl _ r, ρ => emptyL r ρ
  | .ml _ r, ρ => emptyL r ρ
def lendBack : MOs → List (Option D) → Env → Env
  | .ow _ r, _ :: ds, ρ => lendBack r ds ρ
  | .pl i r, d :: ds, ρ => put (lendBack r ds ρ) i d
  | .fl _ r, _ :: ds, ρ => lendBack r ds ρ
  | .ml _ r, _ :: ds, ρ => lendBack r ds ρ
  | _, _, ρ => ρ
mutual
def ev : ME → Env → Option (D × Env)
  | .at_ a, ρ => (evA C a ρ).bind fun d => if d.plain = true then some (d, ρ) else none
  | .frz a, ρ => (ev a ρ).bind fun q => some (q.1.frz, q.2)
  | .fz i, ρ => (get ρ i).bind fun d => some (d.frz, put ρ i (some d.frz))
  | .mv i, ρ => (get ρ i).bind fun d => some (d, put ρ i none)
  | .po p as, ρ => (evOs as ρ).bind fun q => (evPrim p q.1).bind fun d => some (d, q.2)
  | .tup as, ρ => (evOs as ρ).bind fun q => if q.1.length ≤ line then some (.tup q.1, q.2) else none
  | .lst as, ρ => (evOs as ρ).bind fun q => if q.1.length ≤ line then some (.lst .own q.1, q.2) else none
  | .call f as, ρ => (evOs as ρ).bind fun q => (C.call f q.1).bind fun r => some (r.1, lendBack as r.2 (emptyL as q.2))
  | .and a b, ρ => (ev a ρ).bind fun q => (asB q.1).bind fun c => if c = true then ev b q.2 else some (.bl false, q.2)
  | .or a b, ρ => (ev a ρ).bind fun q => (asB q.1).bind fun c => if c = true then some (.bl true, q.2) else ev b q.2
  | .not a, ρ => (ev a ρ).bind fun q => (asB q.1).bind fun c => some (.bl (!c), q.2)
  | .ite c a b, ρ => (ev c ρ).bind fun q => (asB q.1).bind fun c => if c = true then ev a q.2 else ev b q.2
  | .comp own t it c e, ρ => (evI it ρ).bind fun s =>
      (compLoop own (fun x ρ1 => (bindT t x ρ1).bind fun ρ2 => (ev c ρ2).bind fun q => (asB q.1).bind fun k =>
        if k = true then (ev e q.2).bind fun r => some (some r.1, r.2) else some (none, q.2)) s.1 (wipe s.2.1 own) []).bind fun r =>
      some (.lst .own r.1, refill r.2 s.2.2)
  | .pop p as, ρ => (getP C p ρ).bind fun _ => (evOs as ρ).bind fun q => (getP C p q.2).bind fun xs => match q.1 with
    | [] => (at_ xs (-1)).bind fun d => (putP C p xs.dropLast q.2).bind fun ρ1 => some (d, ρ1)
    | [.int k] => if -9223372036854775808 ≤ k ∧ k < 9223372036854775808 then (ixAt xs.length k).bind fun j => (xs[j]?).bind fun d => (putP C p (xs.eraseIdx j) q.2).bind fun ρ1 => some (d, ρ1) else none
    | _ => none
  | .dct ks as, ρ => (evOs as ρ).bind fun q => if q.1.length = ks.length ∧ ks.Nodup ∧ ks.length ≤ 15 then some (.dct .own (ks.map Ky.x) q.1, q.2) else none
  | .dctK as, ρ => (evOs as ρ).bind fun q => match q.1 with
    | [k, d] => (kxOf k).bind fun kx => some (.dct .own [.x kx] [d], q.2)
    | _ => none
  | .mt m a as, ρ => (ev a ρ).bind fun p => (evOs as p.2).bind fun q => (evMt m p.1 q.1).bind fun d => some (d, q.2)
  | .mtp m i as, ρ => (get ρ i).bind fun d0 => if mtTy m d0 = true then (evOs as ρ).bind fun q => (get q.2 i).bind fun d => (evMt m d q.1).bind fun r => some (r, q.2) else none
def evOs : MOs → Env → Option (List D × Env)
  | .nil, ρ => some ([], ρ)
  | .ow e r, ρ => (ev e ρ).bind fun q => (evOs r q.2).bind fun s => some (q.1 :: s.1, s.2)
  | .pl i r, ρ => (get ρ i).bind fun _ => (evOs r ρ).bind fun s => (get s.2 i).bind fun d => some (d :: s.1, s.2)
  | .fl i r, ρ => (get ρ i).bind fun _ => (evOs r ρ).bind fun s => (get s.2 i).bind fun d => some (d.frz :: s.1, put s.2 i (some d.frz))
  | .ml i r, ρ => (get ρ i).bind fun _ => (evOs r ρ).bind fun s => (get s.2 i).bind fun d => some (d :: s.1, put s.2 i none)
def evI : MI → Env → Option Its
  | .own e, ρ => (ev e ρ).bind fun q => (itemsOf q.1).bind fun xs => some (xs, q.2, [])
  | .take i, ρ => match get ρ i with
    | some (.lst o xs) => if D.plainL xs = true then some (xs, put ρ i none, [(i, .lst o xs)]) else none
    | _ => none
  | .rng as, ρ => (evOs as ρ).bind fun q => (rngOf q.1).bind fun xs => some (xs, q.2, [])
  | .enum x, ρ => (evI x ρ).bind fun s => some (enumD 0 s.1, s.2)
  | .zip x y, ρ => (evI x ρ).bind fun s => (evI y s.2.1).bind fun u => some (zipD s.1 u.1, u.2.1, s.2.2 ++ u.2.2)
  | .zip3 x y z, ρ => (evI x ρ).bind fun s => (evI y s.2.1).bind fun u => (evI z u.2.1).bind fun v => some (zip3D s.1 u.1 v.1, v.2.1, s.2.2 ++ (u.2.2 ++ v.2.2))
  | .rev e, ρ => (ev e ρ).bind fun q => (seqOf q.1).bind fun xs => some (xs.reverse, q.2, [])
  | .revT i, ρ => match get ρ i with
    | some (.lst o xs) => if D.plainL xs = true then some (xs.reverse, put ρ i none, [(i, .lst o xs)]) else none
    | _ => none
  | .revR e, ρ => (ev e ρ).bind fun q => (rngOf [q.1]).bind fun xs => some (xs.reverse, q.2, [])
end
end
end GN
end

section
set_option linter.all false
set_option maxRecDepth 100000
set_option maxHeartbeats 2000000
namespace GN
open PySem PySem.Spec PyProof.Rows L2

def constB : Const → D → Bool
  | .none, .non => true
  | .bool a, .bl b => a == b
  | .int a, .int b => a == b
  | .str a, .str b => a.cps.toList == b
  | _, _ => false
def akB : AK → Nat → Bool
  | .i n, m => n == m
  | .s _, _ => false
def alB (N : List Str) (Γ : Al) (i n : Nat) (x : Str) : Bool := Γ.any fun q => decide (N[q.1]? = some x) && q.2.1 == i && akB q.2.2 n
def akS : AK → List Nat → Bool
  | .i _, _ => false
  | .s x, l => decide (x = toS l)
def alkB (N : List Str) (Γ : Al) (i : Nat) (l : List Nat) (x : Str) : Bool := Γ.any fun q => decide (N[q.1]? = some x) && q.2.1 == i && akS q.2.2 l
def notIf : Expr → Bool
  | .IfExp _ _ _ _ => false
  | _ => true
mutual
def okA (sc : Scope) (N G : List Str) (Γ : Al) : MA → Expr → Bool
  | .var i, e => match e with
    | .Name x _ => decide (N[i]? = some x) && visB sc x && nameB x
    | _ => false
  | .cst d, e => match e with
    | .Constant c _ _ => constB c d
    | _ => false
  | .gbl j, e => match e with
    | .Name x _ => decide (G[j]? = some x) && glB sc x && nameB x
    | _ => false
  | .idx a b, e => match e with
    | .Subscript x k _ => isHead k && okA sc N G Γ a x && okA sc N G Γ b k
    | _ => false
  | .ali i n, e => match e with
    | .Name x _ => alB N Γ i n x && visB sc x && nameB x
    | _ => false
  | .alk i l, e => match e with
    | .Name x _ => alkB N Γ i l x && visB sc x && nameB x
    | _ => false
  | .prim p as, e => match argsOf sc p e with
    | some es => okAs sc N G Γ as es
    | none => false
  | .and a b, e => match e with
    | .BoolOp .And (x :: y :: r) pos => notIf x && okA sc N G Γ a x && (if r.isEmpty then notIf y && okA sc N G Γ b y else okA sc N G Γ b (.BoolOp .And (y :: r) pos))
    | _ => false
  | .or a b, e => match e with
    | .BoolOp .Or (x :: y :: r) pos => notIf x && okA sc N G Γ a x && (if r.isEmpty then notIf y && okA sc N G Γ b y else okA sc N G Γ b (.BoolOp .Or (y :: r) pos))
    | _ => false
  | .not a, e => match e with
    | .UnaryOp .Not x _ => notIf x && okA sc N G Γ a x
    | _ => false
  | .tor a, e => match argsOf sc .tuple e with
    | some [.BoolOp .Or [x, .Tuple [] _ _] _] => okA sc N G Γ a x
    | _ => false
  | .ite c a b, e => match e with
    | .IfExp z x y _ => notIf z && okA sc N G Γ c z && okA sc N G Γ a x && okA sc N G Γ b y
    | _ => false
  | .chain c d u v w, e => match e with
    | .Compare x [o1, o2] [y, z] _ => cmpOf c == o1 && cmpOf d == o2 && !behindInMarks o1 y && !behindInMarks o2 z && okA sc N G Γ u x && okA sc N G Γ v y && okA sc N G Γ w z
    | _ => false
  | .tup as, e => match e with
    | .Tuple es _ _ => es.all nstar && okAs sc N G Γ as es
    | _ => false
  | .lst as, e => match e with
    | .List es _ => es.all nstar && okAs sc N G Γ as es
    | _ => false
def okAs (sc : Scope) (N G : List Str) (Γ : Al) : MAs → List Expr → Bool
  | .nil, es => es.isEmpty
  | .cons a r, es => match es with
    | e :: es => okA sc N G Γ a e && okAs sc N G Γ r es
    | [] => false
end

section
variable {X : Cx} {C : Cfg} {G : List Str} {Γ : Al}
theorem visName {x : Str} {i : Nat} {pos : Pos} (hN : X.N[i]? = some x) (hv : visB X.env.scope x = true) (hn : nameB x = true) : PE X (.Name x pos) (tVar i) := by
  unfold nameB at hn
  simp only [Bool.and_eq_true, Bool.not_eq_true'] at hn
  exact pe_var hN (vis_of hv) hn.1 hn.2
/-- a value as a test, for a plain kind of expression -/
theorem test_of {e : Expr} {t : TE} (h : PE X e t) (he : ∀ whole, isTrue e X.env whole = (do let v ← whole; standAt e.pos; holding [v] (truthy v))) : PT X e (tTest t) := pt_val h he

theorem tA_of {F : Env → Option D} {σ : L2.St} {H : Hp} {Q : VK} {Z : Addr → Prop} {g : List Addr} {ρ : Env} {d : D} (S : Sta X.K Γ Z H ρ σ g) (e : F ρ = some d) (q : ∀ v H1 Z1, Fsh Z H Z1 H1 [] → Bor X.K Z1 H1 d v → Q v H1) : tA X.K Γ F σ H Q :=
  ⟨Z, g, ρ, d, S, e, q⟩
theorem Sta.refl {K : PySem.W.Frag} {Z : Addr → Prop} {H : Hp} {ρ : Env} {σ : L2.St} {g : List Addr} (S : Sta K Γ Z H ρ σ g) : Fsh Z H Z H [] := Fsh.refl S.ok.zh

def Atm (X : Cx) (Γ : Al) (F : Env → Option D) (e : Expr) : Prop := PE X e (tA X.K Γ F) ∧ (notIf e = true → PT X e (tTest (tA X.K Γ F))) ∧ ∀ op vs pos, e = .BoolOp op vs pos → PW X e (tTest (tA X.K Γ F))
theorem Atm.of {F : Env → Option D} {e : Expr} {t : TE} (h : PV X e t) (hb : ∀ op vs pos, e ≠ .BoolOp op vs pos) (i : ∀ σ H Q, tA X.K Γ F σ H Q → t σ H Q) : Atm X Γ F e :=
  ⟨PE.imp h.pe i, fun _ => PT.imp h.pt fun σ H Q q => i σ H _ q, fun op vs pos e => absurd e (hb op vs pos)⟩
theorem pv_plain {e : Expr} {t : TE} (h : PE X e t) (he : ∀ whole, isTrue e X.env whole = (do let v ← whole; standAt e.pos; holding [v] (truthy v))) : PV X e t := ⟨h, pt_val h he⟩

theorem const_ok {c : Const} {d : D} {k : Nat} {pos : Pos} (h : constB c d = true) : Atm X Γ (fun _ => some d) (.Constant c k pos) := by
  cases c <;> cases d <;> simp [constB] at h
  case none.non => exact Atm.of (pv_plain pe_non fun _ => rfl) (fun _ _ _ e => nomatch e) fun σ H Q ⟨Z, g, ρ, d, S, e, q⟩ => by cases e; exact q _ _ _ S.refl ⟨[], rfl, rfl⟩
  case bool.bl => subst h; exact Atm.of (pv_plain pe_bl fun _ => rfl) (fun _ _ _ e => nomatch e) fun σ H Q ⟨Z, g, ρ, d, S, e, q⟩ => by cases e; exact q _ _ _ S.refl ⟨[], rfl, rfl⟩
  case int.int => subst h; exact Atm.of (pv_plain pe_int fun _ => rfl) (fun _ _ _ e => nomatch e) fun σ H Q ⟨Z, g, ρ, d, S, e, q⟩ => by cases e; exact q _ _ _ S.refl ⟨[], rfl, rfl⟩
  case str.str x l => subst h; exact Atm.of (pv_plain pe_str fun _ => rfl) (fun _ _ _ e => nomatch e) fun σ H Q ⟨Z, g, ρ, d, S, e, q⟩ => by cases e; exact q _ _ _ S.refl ⟨[], by simp [Rel, toS]⟩
/-- what the atoms give, one behind the other -/
inductive Ats (X : Cx) (C : Cfg) (Γ : Al) : MAs → List Expr → Prop where
  | nil : Ats X C Γ .nil []
  | cons {a : MA} {r : MAs} {e : Expr} {es : List Expr} : Atm X Γ (evA C a) e → Ats X C Γ r es → Ats X C Γ (.cons a r) (e :: es)
def tes (K : PySem.W.Frag) (C : Cfg) (Γ : Al) : MAs → List TE
  | .nil => []
  | .cons a r => tA K Γ (evA C a) :: tes K C Γ r
theorem Ats.pes : ∀ {as : MAs} {es : List Expr}, Ats X C Γ as es → PEs X es (tes X.K C Γ as)
  | _, _, .nil => .nil
  | _, _, .cons h hs => .cons h.1 mono_tA hs.pes
theorem seq_ok : ∀ {as : MAs} {σ : L2.St} {Z : Addr → Prop} {H : Hp} {g : List Addr} {ρ : Env} {ds : List D} {k : List V → Hp → Prop}, Sta X.K Γ Z H ρ σ g → evAs C as ρ = some ds →
    (∀ vs H1 Z1, Fsh Z H Z1 H1 [] → BorL X.K Z1 H1 ds vs → k vs H1) → tSeq (tes X.K C Γ as) σ H k
  | .nil, _, _, _, _, _, _, _, S, e, q => by
    simp [evAs] at e; subst e
    exact q [] _ _ S.refl rfl
  | .cons a r, σ, Z, H, g, ρ, ds, k, S, e, q => by
    simp only [evAs] at e
    obtain ⟨d, e1, e⟩ := Option.bind_eq_some_iff.mp e
    obtain ⟨dr, e2, e⟩ := Option.bind_eq_some_iff.mp e
    cases e
    refine tA_of S e1 fun v H1 Z1 F b => seq_ok (S.fsh F) e2 fun vs H2 Z2 F2 bs => ?_
    exact q _ _ _ (F.trans F2) ⟨v, vs, rfl, b.fsh F2, bs⟩
end
end GN
end

section
set_option linter.all false
set_option maxRecDepth 100000
set_option maxHeartbeats 4000000
namespace GN
open PySem PySem.Spec PyProof.Rows L2
/-- the reading of an expression whose value is told on -/
def tM (K : PySem.W.Frag) (Γ : Al) (F : Env → Option (D × Env)) : TE := fun σ H Q => ∃ Z g ρ d ρ', Stb K Γ Z H ρ σ g ∧ F ρ = some (d, ρ') ∧
  ∀ v H1 Z1 f g1, Sp0 Z H g Z1 H1 (f ++ g1) → Ok Z1 H1 (f ++ g1) → Rel K Z1 H1 d v f → Stb K Γ Z1 H1 ρ' σ g1 → Q v H1
theorem mono_tM {K : PySem.W.Frag} {Γ : Al} {F : Env → Option (D × Env)} : Mono (tM K Γ F) := fun σ H Q Q' h q => by
  obtain ⟨Z, g, ρ, d, ρ', S, e, q⟩ := q
  exact ⟨Z, g, ρ, d, ρ', S, e, fun v H1 Z1 f g1 a b c r => h _ _ (q v H1 Z1 f g1 a b c r)⟩
theorem mono_var {i : Nat} : Mono (tVar i) := fun σ H Q Q' h q => by
  obtain ⟨v, e, q⟩ := q
  exact ⟨v, e, h _ _ q⟩
def Exp (X : Cx) (Γ : Al) (F : Env → Option (D × Env)) (e : Expr) : Prop := PE X e (tM X.K Γ F) ∧ (notIf e = true → PT X e (tTest (tM X.K Γ F))) ∧ ∀ op vs pos, e = .BoolOp op vs pos → PW X e (tTest (tM X.K Γ F))
theorem Exp.of {X : Cx} {Γ : Al} {F : Env → Option (D × Env)} {e : Expr} {t : TE} (h : PV X e t) (hb : ∀ op vs pos, e ≠ .BoolOp op vs pos) (i : ∀ σ H Q, tM X.K Γ F σ H Q → t σ H Q) : Exp X Γ F e :=
  ⟨PE.imp h.pe i, fun _ => PT.imp h.pt fun σ H Q q => i σ H _ q, fun op vs pos e => absurd e (hb op vs pos)⟩
section
variable {X : Cx} {C : Cfg} {G : List Str} {Γ : Al}
theorem tM_of {F : Env → Option (D × Env)} {σ : L2.St} {H : Hp} {Q : VK} {Z : Addr → Prop} {g : List Addr} {ρ ρ' : Env} {d : D} (S : Stb X.K Γ Z H ρ σ g) (e : F ρ = some (d, ρ'))
    (q : ∀ v H1 Z1 f g1, Sp0 Z H g Z1 H1 (f ++ g1) → Ok Z1 H1 (f ++ g1) → Rel X.K Z1 H1 d v f → Stb X.K Γ Z1 H1 ρ' σ g1 → Q v H1) : tM X.K Γ F σ H Q := ⟨Z, g, ρ, d, ρ', S, e, q⟩
theorem Sp0.refl {Z : Addr → Prop} {H : Hp} {g : List Addr} : Sp0 Z H g Z H g := Stp.refl
/-- an atom that is told on -/
theorem at_imp {a : MA} : ∀ σ H Q, tM X.K Γ (ev C (.at_ a)) σ H Q → tA X.K Γ (evA C a) σ H Q := fun σ H Q ⟨Z, g, ρ, d, ρ', S, e, q⟩ => by
  simp only [ev] at e
  obtain ⟨d', e1, e2⟩ := Option.bind_eq_some_iff.mp e
  obtain ⟨pl, e3⟩ := ite_some e2
  cases e3
  refine tA_of S.sta e1 fun v H1 Z1 F b => ?_
  obtain ⟨f, r⟩ := b
  have := Rel.plain d v f r pl
  subst this
  obtain ⟨s1, o1⟩ := F.sp0 S.sta.ok
  exact q v H1 Z1 [] g s1 o1 r (S.fsh F)
theorem at_ok {a : MA} {e : Expr} (h : Atm X Γ (evA C a) e) : Exp X Γ (ev C (.at_ a)) e :=
  ⟨PE.imp h.1 at_imp, fun n => PT.imp (h.2.1 n) fun σ H Q q => at_imp σ H _ q, fun op vs pos e' => by
    have w := h.2.2 op vs pos e'
    exact ⟨fun wh p s σ H Q I q => w.run wh p s σ H Q I (at_imp σ H _ q)⟩⟩
/-- a name's value frozen, behind what else is owned (f) -/
theorem fz_step {Z : Addr → Prop} {H : Hp} {ρ : Env} {σ : L2.St} {f g : List Addr} {i : Nat} {d : D} (ok : Ok Z H (f ++ g)) (S : Stb X.K Γ Z H ρ σ g) (hf : freeB Γ i = true) (hg : get ρ i = some d) :
    ∃ v Z1 g1, σ[i]? = some (some v) ∧ Rel X.K Z1 H d.frz v [] ∧ Ok Z1 H (f ++ g1) ∧ Sp0 Z H (f ++ g) Z1 H (f ++ g1) ∧ Agr Z H f Z1 H ∧ Stb X.K Γ Z1 H (put ρ i (some d.frz)) σ g1 := by
  obtain ⟨v, f', g', e1, r, e2, p⟩ := S.sta.env.take hg
  have p2 : (f ++ g).Perm (f' ++ (f ++ g')) := by
    refine (p.append_left f).trans ?_
    rw [← List.append_assoc, ← List.append_assoc]
    exact (List.perm_append_comm).append_right g'
  obtain ⟨o1, s1, a1⟩ := freeze (ok.perm p2)
  have rz := Rel.frz d v f' r (Z1 := fun b => Z b ∨ b ∈ f') (fun b z => .inl z) (fun b m => .inr m)
  have e3 := EnvRel.agr _ σ g' e2 (a1.sub fun b m => by simp [m])
  obtain ⟨g1, e4, p3⟩ := e3.fill get_put_none e1 rz
  rw [put_put] at e4
  have p4 : (f ++ g').Perm (f ++ g1) := (p3.symm).append_left f
  refine ⟨v, _, g1, e1, rz, o1.perm p4, (s1.from_ p2.symm).perm p4, a1.sub fun b m => by simp [m], ⟨⟨e4, (o1.perm p4).right, S.sta.al⟩, fun j i' k m => ?_⟩⟩
  obtain ⟨dc, h1, h2⟩ := S.alv j i' k m
  exact ⟨dc, by rw [get_put_ne (freeB_ne hf m)]; exact h1, h2⟩
theorem mv_step {Z : Addr → Prop} {H : Hp} {ρ : Env} {σ : L2.St} {f g : List Addr} {i : Nat} {d : D} (ok : Ok Z H (f ++ g)) (S : Stb X.K Γ Z H ρ σ g) (hf : freeB Γ i = true) (hg : get ρ i = some d) :
    ∃ v f' g1, σ[i]? = some (some v) ∧ Rel X.K Z H d v f' ∧ Ok Z H (f' ++ (f ++ g1)) ∧ (f ++ g).Perm (f' ++ (f ++ g1)) ∧ Stb X.K Γ Z H (put ρ i none) σ g1 := by
  obtain ⟨v, f', g', e1, r, e2, p⟩ := S.sta.env.take hg
  have p2 : (f ++ g).Perm (f' ++ (f ++ g')) := by
    refine (p.append_left f).trans ?_
    rw [← List.append_assoc, ← List.append_assoc]
    exact (List.perm_append_comm).append_right g'
  refine ⟨v, f', g', e1, r, ok.perm p2, p2, ⟨⟨e2, (ok.perm p2).right.right, S.sta.al⟩, fun j i' k m => ?_⟩⟩
  obtain ⟨dc, h1, h2⟩ := S.alv j i' k m
  exact ⟨dc, by rw [get_put_ne (freeB_ne hf m)]; exact h1, h2⟩
theorem fz_ok {i : Nat} {x : Str} {pos : Pos} (hN : X.N[i]? = some x) (hv : visB X.env.scope x = true) (hn : nameB x = true) (hf : freeB Γ i = true) : Exp X Γ (ev C (.fz i)) (.Name x pos) := by
  refine Exp.of (pv_plain (visName hN hv hn) fun _ => rfl) (fun _ _ _ e => nomatch e) fun σ H Q ⟨Z, g, ρ, d, ρ', S, e, q⟩ => ?_
  simp only [ev] at e
  obtain ⟨d', e1, e2⟩ := Option.bind_eq_some_iff.mp e
  cases e2
  obtain ⟨v, Z1, g1, s, r, o, st, _, S1⟩ := fz_step (f := []) S.sta.ok S hf e1
  exact ⟨v, s, q v H Z1 [] g1 st o r S1⟩
theorem mv_ok {i : Nat} {x : Str} {pos : Pos} (hN : X.N[i]? = some x) (hv : visB X.env.scope x = true) (hn : nameB x = true) (hf : freeB Γ i = true) : Exp X Γ (ev C (.mv i)) (.Name x pos) := by
  refine Exp.of (pv_plain (visName hN hv hn) fun _ => rfl) (fun _ _ _ e => nomatch e) fun σ H Q ⟨Z, g, ρ, d, ρ', S, e, q⟩ => ?_
  simp only [ev] at e
  obtain ⟨d', e1, e2⟩ := Option.bind_eq_some_iff.mp e
  cases e2
  obtain ⟨v, f', g1, s, r, o, p, S1⟩ := mv_step (f := []) S.sta.ok S hf e1
  exact ⟨v, s, q v H Z f' g1 (Sp0.refl.perm p) o r S1⟩
/-- a fresh value frozen at once -/
theorem frz_imp {a : ME} : ∀ σ H Q, tM X.K Γ (ev C (.frz a)) σ H Q → tM X.K Γ (ev C a) σ H Q := fun σ H Q ⟨Z, g, ρ, d, ρ', S, e, q⟩ => by
  simp only [ev] at e
  obtain ⟨⟨d', ρ1⟩, e1, e2⟩ := Option.bind_eq_some_iff.mp e
  cases e2
  refine ⟨Z, g, ρ, d', _, S, e1, fun v H1 Z1 f g1 s o r S1 => ?_⟩
  obtain ⟨o1, s1, a1⟩ := freeze o
  exact q v H1 _ [] g1 (s.trans s1) o1 (Rel.frz d' v f r (fun b z => .inl z) (fun b m => .inr m)) ⟨⟨EnvRel.agr _ σ g1 S1.sta.env a1, o1, S1.sta.al⟩, S1.alv⟩
def notBoolOp : Expr → Bool
  | .BoolOp _ _ _ => false
  | _ => true
theorem frz_ok {a : ME} {e : Expr} (hb : notBoolOp e = true) (h : Exp X Γ (ev C a) e) : Exp X Γ (ev C (.frz a)) e :=
  ⟨PE.imp h.1 frz_imp, fun n => PT.imp (h.2.1 n) fun σ H Q q => frz_imp σ H _ q, fun op vs pos e => by subst e; cases hb⟩
/-! ### argument lists -/
def lates : MOs → List Nat
  | .nil => []
  | .ow _ r => lates r
  | .pl i r => i :: lates r
  | .fl i r => i :: lates r
  | .ml i r => i :: lates r
inductive OsE (X : Cx) (C : Cfg) (Γ : Al) : MOs → List Expr → Prop where
  | nil : OsE X C Γ .nil []
  | ow {a : ME} {r : MOs} {e : Expr} {es : List Expr} : Exp X Γ (ev C a) e → OsE X C Γ r es → OsE X C Γ (.ow a r) (e :: es)
  | pl {i : Nat} {r : MOs} {x : Str} {pos : Pos} {es : List Expr} : PE X (.Name x pos) (tVar i) → freeB Γ i = true → i ∉ lates r → OsE X C Γ r es → OsE X C Γ (.pl i r) (.Name x pos :: es)
  | fl {i : Nat} {r : MOs} {x : Str} {pos : Pos} {es : List Expr} : PE X (.Name x pos) (tVar i) → freeB Γ i = true → i ∉ lates r → OsE X C Γ r es → OsE X C Γ (.fl i r) (.Name x pos :: es)
  | ml {i : Nat} {r : MOs} {x : Str} {pos : Pos} {es : List Expr} : PE X (.Name x pos) (tVar i) → freeB Γ i = true → i ∉ lates r → OsE X C Γ r es → OsE X C Γ (.ml i r) (.Name x pos :: es)
def tos (K : PySem.W.Frag) (C : Cfg) (Γ : Al) : MOs → List TE
  | .nil => []
  | .ow a r => tM K Γ (ev C a) :: tos K C Γ r
  | .pl i r => tVar i :: tos K C Γ r
  | .fl i r => tVar i :: tos K C Γ r
  | .ml i r => tVar i :: tos K C Γ r
theorem OsE.pes : ∀ {as : MOs} {es : List Expr}, OsE X C Γ as es → PEs X es (tos X.K C Γ as)
  | _, _, .nil => .nil
  | _, _, .ow h hs => .cons h.1 mono_tM hs.pes
  | _, _, .pl h _ _ hs => .cons h mono_var hs.pes
  | _, _, .fl h _ _ hs => .cons h mono_var hs.pes
  | _, _, .ml h _ _ hs => .cons h mono_var hs.pes
/-- what argument lists give: own values with what they own; lent ones stand at their names -/
def OsR (K : PySem.W.Frag) (Z : Addr → Prop) (H : Hp) (ρ : Env) (σ : L2.St) : MOs → List D → List V → List Addr → Prop
  | .nil, ds, vs, f => ds = [] ∧ vs = [] ∧ f = []
  | .ow _ r, ds, vs, f => ∃ d ds' v vs' f1 f2, ds = d :: ds' ∧ vs = v :: vs' ∧ f = f1 ++ f2 ∧ Rel K Z H d v f1 ∧ OsR K Z H ρ σ r ds' vs' f2
  | .fl _ r, ds, vs, f => ∃ d ds' v vs' f1 f2, ds = d :: ds' ∧ vs = v :: vs' ∧ f = f1 ++ f2 ∧ Rel K Z H d v f1 ∧ OsR K Z H ρ σ r ds' vs' f2
  | .ml _ r, ds, vs, f => ∃ d ds' v vs' f1 f2, ds = d :: ds' ∧ vs = v :: vs' ∧ f = f1 ++ f2 ∧ Rel K Z H d v f1 ∧ OsR K Z H ρ σ r ds' vs' f2
  | .pl i r, ds, vs, f => ∃ d ds' v vs', ds = d :: ds' ∧ vs = v :: vs' ∧ get ρ i = some d ∧ σ[i]? = some (some v) ∧ OsR K Z H ρ σ r ds' vs' f
theorem OsR.agr {K : PySem.W.Frag} {Z Z1 : Addr → Prop} {H H1 : Hp} {ρ ρ1 : Env} {σ : L2.St} : ∀ {as : MOs} {ds : List D} {vs : List V} {f : List Addr}, OsR K Z H ρ σ as ds vs f → Agr Z H f Z1 H1 → (∀ i ∈ lates as, get ρ1 i = get ρ i) → OsR K Z1 H1 ρ1 σ as ds vs f
  | .nil, _, _, _, h, _, _ => h
  | .ow _ r, ds, vs, f, h, a, l => by
    obtain ⟨d, ds', v, vs', f1, f2, rfl, rfl, rfl, r1, r2⟩ := h
    exact ⟨d, ds', v, vs', f1, f2, rfl, rfl, rfl, Rel.agr d v f1 r1 (a.sub fun b m => by simp [m]), OsR.agr r2 (a.sub fun b m => by simp [m]) l⟩
  | .fl i r, ds, vs, f, h, a, l => by
    obtain ⟨d, ds', v, vs', f1, f2, rfl, rfl, rfl, r1, r2⟩ := h
    exact ⟨d, ds', v, vs', f1, f2, rfl, rfl, rfl, Rel.agr d v f1 r1 (a.sub fun b m => by simp [m]), OsR.agr r2 (a.sub fun b m => by simp [m]) fun j m => l j (by simp [lates, m])⟩
  | .ml i r, ds, vs, f, h, a, l => by
    obtain ⟨d, ds', v, vs', f1, f2, rfl, rfl, rfl, r1, r2⟩ := h
    exact ⟨d, ds', v, vs', f1, f2, rfl, rfl, rfl, Rel.agr d v f1 r1 (a.sub fun b m => by simp [m]), OsR.agr r2 (a.sub fun b m => by simp [m]) fun j m => l j (by simp [lates, m])⟩
  | .pl i r, ds, vs, f, h, a, l => by
    obtain ⟨d, ds', v, vs', rfl, rfl, r1, r2, r3⟩ := h
    exact ⟨d, ds', v, vs', rfl, rfl, by rw [l i (by simp [lates])]; exact r1, r2, OsR.agr r3 a fun j m => l j (by simp [lates, m])⟩
theorem OsR.bor {K : PySem.W.Frag} {Z : Addr → Prop} {H : Hp} {ρ : Env} {σ : L2.St} {g : List Addr} (E : EnvRel K Z H ρ σ g) : ∀ {as : MOs} {ds : List D} {vs : List V} {f : List Addr}, OsR K Z H ρ σ as ds vs f → BorL K Z H ds vs
  | .nil, _, _, _, h => by obtain ⟨rfl, rfl, _⟩ := h; rfl
  | .ow _ r, ds, vs, f, h => by
    obtain ⟨d, ds', v, vs', f1, f2, rfl, rfl, rfl, r1, r2⟩ := h
    exact ⟨v, vs', rfl, ⟨f1, r1⟩, OsR.bor E r2⟩
  | .fl _ r, ds, vs, f, h => by
    obtain ⟨d, ds', v, vs', f1, f2, rfl, rfl, rfl, r1, r2⟩ := h
    exact ⟨v, vs', rfl, ⟨f1, r1⟩, OsR.bor E r2⟩
  | .ml _ r, ds, vs, f, h => by
    obtain ⟨d, ds', v, vs', f1, f2, rfl, rfl, rfl, r1, r2⟩ := h
    exact ⟨v, vs', rfl, ⟨f1, r1⟩, OsR.bor E r2⟩
  | .pl i r, ds, vs, f, h => by
    obtain ⟨d, ds', v, vs', rfl, rfl, r1, r2, r3⟩ := h
    obtain ⟨v', f', e1, e2, _⟩ := E.get r1
    rw [r2] at e1; cases e1
    exact ⟨v, vs', rfl, ⟨f', e2⟩, OsR.bor E r3⟩
theorem os_ok : ∀ {as : MOs} {es : List Expr} {σ : L2.St} {Z : Addr → Prop} {H : Hp} {g : List Addr} {ρ ρ' : Env} {ds : List D} {k : List V → Hp → Prop}, OsE X C Γ as es → Stb X.K Γ Z H ρ σ g → evOs C as ρ = some (ds, ρ') →
    (∀ vs H1 Z1 f g1, Sp0 Z H g Z1 H1 (f ++ g1) → Ok Z1 H1 (f ++ g1) → OsR X.K Z1 H1 ρ' σ as ds vs f → Stb X.K Γ Z1 H1 ρ' σ g1 → k vs H1) → tSeq (tos X.K C Γ as) σ H k
  | _, _, σ, Z, H, g, ρ, ρ', ds, k, .nil, S, e, q => by
    simp [evOs] at e
    obtain ⟨rfl, rfl⟩ := e
    exact q [] H Z [] g Sp0.refl S.sta.ok ⟨rfl, rfl, rfl⟩ S
  | _, _, σ, Z, H, g, ρ, ρ', ds, k, .ow (a := a) (r := r) h hs, S, e, q => by
    simp only [evOs] at e
    obtain ⟨⟨d, ρ1⟩, e1, e2⟩ := Option.bind_eq_some_iff.mp e
    obtain ⟨⟨ds', ρ2⟩, e3, e4⟩ := Option.bind_eq_some_iff.mp e2
    cases e4
    refine tM_of S e1 fun v H1 Z1 f1 g1 s1 o1 r1 S1 => os_ok hs S1 e3 fun vs H2 Z2 f2 g2 s2 o2 r2 S2 => ?_
    obtain ⟨s3, o3⟩ := s2.part o1 o2
    have a3 := s2.agr o1
    rw [← List.append_assoc] at s3 o3
    exact q _ H2 Z2 (f1 ++ f2) g2 (s1.trans s3) o3 ⟨d, ds', v, vs, f1, f2, rfl, rfl, rfl, Rel.agr d v f1 r1 a3, r2⟩ S2
  | _, _, σ, Z, H, g, ρ, ρ', ds, k, .pl (i := i) (r := r) h hf hl hs, S, e, q => by
    simp only [evOs] at e
    obtain ⟨d0, e0, e⟩ := Option.bind_eq_some_iff.mp e
    obtain ⟨⟨ds', ρ2⟩, e3, e4⟩ := Option.bind_eq_some_iff.mp e
    obtain ⟨d, e5, e6⟩ := Option.bind_eq_some_iff.mp e4
    cases e6
    obtain ⟨v, f0, t1, t2, _⟩ := S.sta.env.get e0
    refine ⟨v, t1, os_ok hs S e3 fun vs H2 Z2 f2 g2 s2 o2 r2 S2 => ?_⟩
    exact q _ H2 Z2 f2 g2 s2 o2 ⟨d, ds', v, vs, rfl, rfl, e5, t1, r2⟩ S2
  | _, _, σ, Z, H, g, ρ, ρ', ds, k, .fl (i := i) (r := r) h hf hl hs, S, e, q => by
    simp only [evOs] at e
    obtain ⟨d0, e0, e⟩ := Option.bind_eq_some_iff.mp e
    obtain ⟨⟨ds', ρ2⟩, e3, e4⟩ := Option.bind_eq_some_iff.mp e
    obtain ⟨d, e5, e6⟩ := Option.bind_eq_some_iff.mp e4
    cases e6
    obtain ⟨v, f0, t1, t2, _⟩ := S.sta.env.get e0
    refine ⟨v, t1, os_ok hs S e3 fun vs H2 Z2 f2 g2 s2 o2 r2 S2 => ?_⟩
    obtain ⟨v', Z3, g3, t3, r3, o3, s3, a3, S3⟩ := fz_step o2 S2 hf e5
    rw [t1] at t3; cases t3
    exact q _ H2 Z3 f2 g3 (s2.trans s3) o3 ⟨d.frz, ds', v, vs, [], f2, rfl, rfl, rfl, r3, r2.agr a3 fun j m => get_put_ne fun e => hl (e ▸ m)⟩ S3
  | _, _, σ, Z, H, g, ρ, ρ', ds, k, .ml (i := i) (r := r) h hf hl hs, S, e, q => by
    simp only [evOs] at e
    obtain ⟨d0, e0, e⟩ := Option.bind_eq_some_iff.mp e
    obtain ⟨⟨ds', ρ2⟩, e3, e4⟩ := Option.bind_eq_some_iff.mp e
    obtain ⟨d, e5, e6⟩ := Option.bind_eq_some_iff.mp e4
    cases e6
    obtain ⟨v, f0, t1, t2, _⟩ := S.sta.env.get e0
    refine ⟨v, t1, os_ok hs S e3 fun vs H2 Z2 f2 g2 s2 o2 r2 S2 => ?_⟩
    obtain ⟨v', f3, g3, t3, r3, o3, p3, S3⟩ := mv_step o2 S2 hf e5
    rw [t1] at t3; cases t3
    have ag : Agr Z2 H2 f2 Z2 H2 := ⟨fun _ z => z, fun _ _ _ => rfl, fun _ _ _ => rfl, fun _ _ => rfl⟩
    have s4 := s2.perm p3
    rw [← List.append_assoc] at s4 o3
    exact q _ H2 Z2 (f3 ++ f2) g3 s4 o3 ⟨d, ds', v, vs, f3, f2, rfl, rfl, rfl, r3, r2.agr ag fun j m => get_put_ne fun e => hl (e ▸ m)⟩ S3
end
end GN
end

section
set_option linter.all false
set_option maxRecDepth 100000
set_option maxHeartbeats 4000000
namespace GN
open PySem PySem.Spec PyProof.Rows L2
section
variable {X : Cx} {C : Cfg} {G : List Str} {Γ : Al}
theorem asB_of {d : D} {c : Bool} (h : asB d = some c) : d = .bl c := by
  cases d <;> simp [asB] at h
  subst h; rfl
theorem and_ok {a b : MA} {x y : Expr} {r : List Expr} {pos : Pos} (h1 : Atm X Γ (evA C a) x) (n1 : notIf x = true)
    (h2 : PE X (.BoolOp .And (y :: r) pos) (tA X.K Γ (evA C b))) (h3 : PW X (.BoolOp .And (y :: r) pos) (tTest (tA X.K Γ (evA C b)))) : Atm X Γ (evA C (.and a b)) (.BoolOp .And (x :: y :: r) pos) := by
  have i1 : ∀ σ H Q, tA X.K Γ (evA C (.and a b)) σ H Q → tAndV (tA X.K Γ (evA C a)) (tA X.K Γ (evA C b)) σ H Q := fun σ H Q ⟨Z, g, ρ, d, S, e, q⟩ => by
    simp only [evA] at e
    obtain ⟨u, e1, e⟩ := Option.bind_eq_some_iff.mp e
    obtain ⟨c, e2, e3⟩ := Option.bind_eq_some_iff.mp e
    have := asB_of e2; subst this
    refine tA_of S e1 fun v H1 Z1 F bv => ⟨c, bv.bl, ?_⟩
    cases c with
    | true =>
      rw [if_pos rfl] at e3 ⊢
      exact tA_of (S.fsh F) e3 fun w H2 Z2 F2 b2 => q w H2 Z2 (F.trans F2) b2
    | false =>
      rw [if_neg Bool.false_ne_true] at e3 ⊢
      cases e3
      exact q _ _ _ F ⟨[], rfl, rfl⟩
  have i2 : ∀ σ H Q, tTest (tA X.K Γ (evA C (.and a b))) σ H Q → tAnd (tTest (tA X.K Γ (evA C a))) (tTest (tA X.K Γ (evA C b))) σ H Q := fun σ H Q ⟨Z, g, ρ, d, S, e, q⟩ => by
    simp only [evA] at e
    obtain ⟨u, e1, e⟩ := Option.bind_eq_some_iff.mp e
    obtain ⟨c, e2, e3⟩ := Option.bind_eq_some_iff.mp e
    have := asB_of e2; subst this
    refine tA_of S e1 fun v H1 Z1 F bv => ⟨c, bv.bl, ?_⟩
    cases c with
    | true =>
      rw [if_pos rfl] at e3 ⊢
      exact tA_of (S.fsh F) e3 fun w H2 Z2 F2 b2 => q w H2 Z2 (F.trans F2) b2
    | false =>
      rw [if_neg Bool.false_ne_true] at e3 ⊢
      cases e3
      obtain ⟨k, hk, q⟩ := q _ _ _ F ⟨[], rfl, rfl⟩
      cases hk
      exact q
  have w : PW X (.BoolOp .And (x :: y :: r) pos) (tTest (tA X.K Γ (evA C (.and a b)))) := ⟨fun wh p s σ H Q I q => (pw_and (h1.2.1 n1) h3).run wh p s σ H Q I (i2 σ H Q q)⟩
  exact ⟨PE.imp (pe_and h1.1 h2) i1, fun _ => w.pt, fun op vs pos' e => by cases e; exact w⟩
theorem or_ok {a b : MA} {x y : Expr} {r : List Expr} {pos : Pos} (h1 : Atm X Γ (evA C a) x) (n1 : notIf x = true)
    (h2 : PE X (.BoolOp .Or (y :: r) pos) (tA X.K Γ (evA C b))) (h3 : PW X (.BoolOp .Or (y :: r) pos) (tTest (tA X.K Γ (evA C b)))) : Atm X Γ (evA C (.or a b)) (.BoolOp .Or (x :: y :: r) pos) := by
  have i1 : ∀ σ H Q, tA X.K Γ (evA C (.or a b)) σ H Q → tOrV (tA X.K Γ (evA C a)) (tA X.K Γ (evA C b)) σ H Q := fun σ H Q ⟨Z, g, ρ, d, S, e, q⟩ => by
    simp only [evA] at e
    obtain ⟨u, e1, e⟩ := Option.bind_eq_some_iff.mp e
    obtain ⟨c, e2, e3⟩ := Option.bind_eq_some_iff.mp e
    have := asB_of e2; subst this
    refine tA_of S e1 fun v H1 Z1 F bv => ⟨c, bv.bl, ?_⟩
    cases c with
    | true =>
      rw [if_pos rfl] at e3 ⊢
      cases e3
      exact q _ _ _ F ⟨[], rfl, rfl⟩
    | false =>
      rw [if_neg Bool.false_ne_true] at e3 ⊢
      exact tA_of (S.fsh F) e3 fun w H2 Z2 F2 b2 => q w H2 Z2 (F.trans F2) b2
  have i2 : ∀ σ H Q, tTest (tA X.K Γ (evA C (.or a b))) σ H Q → tOr (tTest (tA X.K Γ (evA C a))) (tTest (tA X.K Γ (evA C b))) σ H Q := fun σ H Q ⟨Z, g, ρ, d, S, e, q⟩ => by
    simp only [evA] at e
    obtain ⟨u, e1, e⟩ := Option.bind_eq_some_iff.mp e
    obtain ⟨c, e2, e3⟩ := Option.bind_eq_some_iff.mp e
    have := asB_of e2; subst this
    refine tA_of S e1 fun v H1 Z1 F bv => ⟨c, bv.bl, ?_⟩
    cases c with
    | true =>
      rw [if_pos rfl] at e3 ⊢
      cases e3
      obtain ⟨k, hk, q⟩ := q _ _ _ F ⟨[], rfl, rfl⟩
      cases hk
      exact q
    | false =>
      rw [if_neg Bool.false_ne_true] at e3 ⊢
      exact tA_of (S.fsh F) e3 fun w H2 Z2 F2 b2 => q w H2 Z2 (F.trans F2) b2
  have w : PW X (.BoolOp .Or (x :: y :: r) pos) (tTest (tA X.K Γ (evA C (.or a b)))) := ⟨fun wh p s σ H Q I q => (pw_or (h1.2.1 n1) h3).run wh p s σ H Q I (i2 σ H Q q)⟩
  exact ⟨PE.imp (pe_or h1.1 h2) i1, fun _ => w.pt, fun op vs pos' e => by cases e; exact w⟩
theorem last_ok {F : Env → Option D} {op : BoolOp} {y : Expr} {pos : Pos} (h : Atm X Γ F y) (n : notIf y = true) : PE X (.BoolOp op [y] pos) (tA X.K Γ F) ∧ PW X (.BoolOp op [y] pos) (tTest (tA X.K Γ F)) := by
  refine ⟨pe_one h.1, ?_⟩
  cases op
  · exact pw_and1 (h.2.1 n)
  · exact pw_or1 (h.2.1 n)
theorem not_ok {a : MA} {x : Expr} {pos : Pos} (h : Atm X Γ (evA C a) x) (n : notIf x = true) : Atm X Γ (evA C (.not a)) (.UnaryOp .Not x pos) := by
  have i1 : ∀ σ H Q, tA X.K Γ (evA C (.not a)) σ H Q → tNotV (tA X.K Γ (evA C a)) σ H Q := fun σ H Q ⟨Z, g, ρ, d, S, e, q⟩ => by
    simp only [evA] at e
    obtain ⟨u, e1, e⟩ := Option.bind_eq_some_iff.mp e
    obtain ⟨c, e2, e3⟩ := Option.bind_eq_some_iff.mp e
    have := asB_of e2; subst this
    cases e3
    exact tA_of S e1 fun v H1 Z1 F bv => ⟨c, bv.bl, q _ _ _ F ⟨[], rfl, rfl⟩⟩
  have i2 : ∀ σ H Q, tTest (tA X.K Γ (evA C (.not a))) σ H Q → tNot (tTest (tA X.K Γ (evA C a))) σ H Q := fun σ H Q ⟨Z, g, ρ, d, S, e, q⟩ => by
    simp only [evA] at e
    obtain ⟨u, e1, e⟩ := Option.bind_eq_some_iff.mp e
    obtain ⟨c, e2, e3⟩ := Option.bind_eq_some_iff.mp e
    have := asB_of e2; subst this
    cases e3
    refine tA_of S e1 fun v H1 Z1 F bv => ⟨c, bv.bl, ?_⟩
    obtain ⟨k, hk, q⟩ := q _ _ _ F ⟨[], rfl, rfl⟩
    cases hk
    exact q
  exact ⟨PE.imp (pe_not h.1) i1, fun _ => PT.imp (pt_not (h.2.1 n)) i2, fun op vs pos e => nomatch e⟩
theorem ite_ok {c a b : MA} {z x y : Expr} {pos : Pos} (hc : Atm X Γ (evA C c) z) (n : notIf z = true) (ha : Atm X Γ (evA C a) x) (hb : Atm X Γ (evA C b) y) : Atm X Γ (evA C (.ite c a b)) (.IfExp z x y pos) := by
  refine ⟨PE.imp (pe_ifExp (hc.2.1 n) ha.1 hb.1) fun σ H Q ⟨Z, g, ρ, d, S, e, q⟩ => ?_, (fun h => nomatch h), fun op vs pos e => nomatch e⟩
  simp only [evA] at e
  obtain ⟨u, e1, e⟩ := Option.bind_eq_some_iff.mp e
  obtain ⟨k, e2, e3⟩ := Option.bind_eq_some_iff.mp e
  have := asB_of e2; subst this
  refine tA_of S e1 fun v H1 Z1 F bv => ⟨k, bv.bl, ?_⟩
  cases k with
  | true =>
    rw [if_pos rfl] at e3 ⊢
    exact tA_of (S.fsh F) e3 fun w H2 Z2 F2 b2 => q w H2 Z2 (F.trans F2) b2
  | false =>
    rw [if_neg Bool.false_ne_true] at e3 ⊢
    exact tA_of (S.fsh F) e3 fun w H2 Z2 F2 b2 => q w H2 Z2 (F.trans F2) b2
theorem good_of {K : PySem.W.Frag} {p : Prim} {Z : Addr → Prop} {H : Hp} {ds : List D} {vs : List V} {d : D} {Q : VK} (zh : ∀ b, Z b → H b ≠ none) (b : BorL K Z H ds vs) (e : evPrim p ds = some d) (q : ∀ v H1 Z1 f, Fsh Z H Z1 H1 f → Rel K Z1 H1 d v f → Q v H1) : Good K p vs H Q := ⟨Z, ds, d, zh, b, e, q⟩
theorem chain_ok (B : Base X C G) {c d : Cop} {u v w : MA} {x y z : Expr} {pos : Pos} (hu : Atm X Γ (evA C u) x) (hv : Atm X Γ (evA C v) y) (hw : Atm X Γ (evA C w) z) (m2 : lastMarks [cmpOf c, cmpOf d] [y, z] = false) :
    Atm X Γ (evA C (.chain c d u v w)) (.Compare x [cmpOf c, cmpOf d] [y, z] pos) := by
  have i : ∀ σ H Q, tA X.K Γ (evA C (.chain c d u v w)) σ H Q → tChain (fun x y H Q => Good X.K (.cmp c) [x, y] H Q) (fun x y H Q => Good X.K (.cmp d) [x, y] H Q) (tA X.K Γ (evA C u)) (tA X.K Γ (evA C v)) (tA X.K Γ (evA C w)) σ H Q := fun σ H Q ⟨Z, g, ρ, dd, S, e, q⟩ => by
    simp only [evA] at e
    obtain ⟨a, e1, e⟩ := Option.bind_eq_some_iff.mp e
    obtain ⟨b, e2, e⟩ := Option.bind_eq_some_iff.mp e
    obtain ⟨r, e3, e⟩ := Option.bind_eq_some_iff.mp e
    obtain ⟨k, e4, e5⟩ := Option.bind_eq_some_iff.mp e
    have := asB_of e4; subst this
    refine tA_of S e1 fun v1 H1 Z1 F1 b1 => tA_of (S.fsh F1) e2 fun v2 H2 Z2 F2 b2 => ?_
    refine good_of F2.ok.zh (ds := [a, b]) ⟨v1, [v2], rfl, b1.fsh F2, v2, [], rfl, b2, rfl⟩ e3 fun v3 H3 Z3 f3 F3 r3 => ⟨k, r3.1, ?_⟩
    have F := (F1.trans F2).trans F3
    cases k with
    | true =>
      rw [if_pos rfl] at e5 ⊢
      obtain ⟨t, e6, e7⟩ := Option.bind_eq_some_iff.mp e5
      refine tA_of (S.fsh F) e6 fun v4 H4 Z4 F4 b4 => ?_
      refine good_of F4.ok.zh (ds := [b, t]) ⟨v2, [v4], rfl, (b2.fsh F3).fsh F4, v4, [], rfl, b4, rfl⟩ e7 fun v5 H5 Z5 f5 F5 r5 => ?_
      exact q _ _ _ ((F.trans F4).trans F5).drop ⟨_, r5⟩
    | false =>
      rw [if_neg Bool.false_ne_true] at e5 ⊢
      cases e5
      exact q _ _ _ F.drop ⟨[], rfl, rfl⟩
  exact ⟨PE.imp (pe_chain (op_good_cmp B.un c) (op_good_cmp B.un d) hu.1 hv.1 hw.1 m2) i, fun _ => PT.imp (pt_chain (op_good_cmp B.un c) (op_good_cmp B.un d) hu.1 hv.1 hw.1 m2) fun σ H Q q => i σ H _ q, fun op vs pos e => nomatch e⟩
theorem BorL.rel {K : PySem.W.Frag} {Z : Addr → Prop} {H : Hp} : ∀ {ds : List D} {vs : List V}, BorL K Z H ds vs → D.plainL ds = true → ∃ f, RelL K Z H ds vs f
  | [], vs, h, _ => ⟨[], h, rfl⟩
  | d :: ds, vs, h, p => by
    obtain ⟨v, r, rfl, ⟨f, h1⟩, h2⟩ := h
    simp only [D.plainL, Bool.and_eq_true] at p
    obtain ⟨f2, h3⟩ := BorL.rel h2 p.2
    exact ⟨f ++ f2, v, r, f, f2, rfl, rfl, h1, h3⟩
theorem tup_ok {as : MAs} {es : List Expr} {k : Nat} {pos : Pos} (h : Ats X C Γ as es) (hn : es.all nstar = true) : Atm X Γ (evA C (.tup as)) (.Tuple es k pos) := by
  refine Atm.of (pv_plain (pe_tup (pa_of h.pes hn)) fun _ => rfl) (fun _ _ _ e => nomatch e) fun σ H Q ⟨Z, g, ρ, d, S, e, q⟩ => ?_
  simp only [evA] at e
  obtain ⟨ds, e1, e⟩ := Option.bind_eq_some_iff.mp e
  obtain ⟨⟨pl, hl⟩, rfl⟩ := ite_some e
  refine seq_ok S e1 fun vs H1 Z1 F b => ⟨by rw [← b.len, ← line_eq]; exact hl, fun p hp => ?_⟩
  obtain ⟨f, r⟩ := BorL.rel b pl
  obtain ⟨F2, R⟩ := new_tup F.ok.zh hp r pl
  exact q _ _ _ (F.trans F2) ⟨_, R⟩
theorem tor_ok (B : Base X C G) {a : MA} {e x : Expr} {k : Nat} {p2 p3 : Pos} (he : argsOf X.env.scope .tuple e = some [.BoolOp .Or [x, .Tuple [] k p2] p3]) (h : Atm X Γ (evA C a) x) : Atm X Γ (evA C (.tor a)) e := by
  have T : Atm X Γ (evA C (.tup .nil)) (.Tuple [] k p2) := tup_ok .nil rfl
  have m1 : Mono (tOrT X.K (tA X.K Γ (evA C a)) (tA X.K Γ (evA C (.tup .nil)))) := fun σ H Q Q' hm q => mono_tA _ _ _ _ (fun v H1 ⟨c, h1, h2⟩ => ⟨c, h1, by
    cases c
    · exact mono_tA _ _ _ _ hm h2
    · exact hm _ _ h2⟩) q
  have P := pv_prim B he (PEs.cons (pe_orT h.1 (pe_one T.1)) m1 PEs.nil)
  refine Atm.of P (fun op vs pos e' => by subst e'; simp [argsOf] at he) fun σ H Q ⟨Z, g, ρ, d, S, e, q⟩ => ?_
  simp only [evA] at e
  obtain ⟨x, e1, e2⟩ := Option.bind_eq_some_iff.mp e
  refine tA_of S e1 fun v H1 Z1 F bv => ?_
  have emp : d = .tup [] → tA X.K Γ (evA C (.tup .nil)) σ H1 (fun w H2 => Good X.K .tuple [w] H2 Q) := fun ed => by
    subst ed
    refine tA_of (d := .tup []) (S.fsh F) (by simp [evA, evAs, D.plainL]) fun w H2 Z2 F2 b2 => ?_
    exact good_of (ds := [.tup []]) F2.ok.zh ⟨w, [], rfl, b2, rfl⟩ (show evPrim .tuple [.tup []] = some (.tup []) from rfl) fun v H3 Z3 f F3 r => q _ _ _ ((F.trans F2).trans F3).drop ⟨f, r⟩
  have big : evPrim .tuple [x] = some d → Good X.K .tuple [v] H1 Q := fun ed => good_of (ds := [x]) F.ok.zh ⟨v, [], rfl, bv, rfl⟩ ed fun v H3 Z3 f F3 r => q _ _ _ (F.trans F3).drop ⟨f, r⟩
  cases x with
  | non =>
    simp only [torD, Option.some.injEq] at e2
    rw [bv.non]
    exact ⟨false, rfl, by rw [if_neg Bool.false_ne_true]; exact emp e2.symm⟩
  | lst o xs =>
    simp only [torD] at e2
    obtain ⟨pl, rfl⟩ := ite_some e2
    obtain ⟨p, vs, f, rfl, sq, rl, _⟩ := Bor.lst bv
    have hl := rl.len
    refine ⟨!vs.isEmpty, .inl ⟨vs, sq, rfl⟩, ?_⟩
    cases vs with
    | nil =>
      have : xs = [] := by cases xs with | nil => rfl | cons a b => simp at hl
      subst this
      rw [if_neg (by simp)]
      exact emp rfl
    | cons y ys =>
      rw [if_pos (by simp)]
      exact big (by simp [evPrim, evTuple, pl])
  | dct o ks xs =>
    cases ks with
    | cons a b => simp [torD] at e2
    | nil =>
      cases xs with
      | cons a b => simp [torD] at e2
      | nil =>
        simp only [torD, Option.ite_none_left_eq_some, Option.some.injEq] at e2
        obtain ⟨ho, ed⟩ := e2
        obtain ⟨p, kvs, rfl, hH, hk⟩ : ∃ p kvs, v = V.ref p ∧ H1 p = some (.dK kvs) ∧ kvs = [] := by
          obtain ⟨f, b⟩ := bv
          cases o with
          | own =>
            obtain ⟨p, kvs, f', e1, e2, e3, _, e4⟩ := b
            exact ⟨p, kvs, e1, e2, List.map_eq_nil_iff.mp e4.1⟩
          | shr =>
            obtain ⟨p, kvs, e1, e2, _, e3, e4, _⟩ := b
            exact ⟨p, kvs, e1, e2, List.map_eq_nil_iff.mp e4.1⟩
          | ext => exact absurd rfl ho
        subst hk
        refine ⟨false, .inr (.inr ⟨[], hH, rfl⟩), ?_⟩
        rw [if_neg Bool.false_ne_true]
        exact emp ed.symm
  | _ => simp [torD] at e2
theorem lst_ok {as : MAs} {es : List Expr} {pos : Pos} (h : Ats X C Γ as es) (hn : es.all nstar = true) : Atm X Γ (evA C (.lst as)) (.List es pos) := by
  refine Atm.of (pv_plain (pe_lst (pa_of h.pes hn)) fun _ => rfl) (fun _ _ _ e => nomatch e) fun σ H Q ⟨Z, g, ρ, d, S, e, q⟩ => ?_
  simp only [evA] at e
  obtain ⟨ds, e1, e⟩ := Option.bind_eq_some_iff.mp e
  obtain ⟨⟨pl, hl⟩, rfl⟩ := ite_some e
  refine seq_ok S e1 fun vs H1 Z1 F b => ⟨by rw [← b.len, ← line_eq]; exact hl, fun p hp => ?_⟩
  obtain ⟨f, r⟩ := BorL.rel b pl
  obtain ⟨F2, R⟩ := new_lst F.ok.zh hp r pl
  exact q _ _ _ (F.trans F2).drop ⟨_, R⟩
theorem gbl_ok (B : Base X C G) {j : Nat} {x : Str} {pos : Pos} (h1 : G[j]? = some x) (h2 : glB X.env.scope x = true) (h3 : nameB x = true) : Atm X Γ (evA C (.gbl j)) (.Name x pos) := by
  obtain ⟨d, v, u, e1, e2, r, hr, _⟩ := B.gbl j x h1
  unfold nameB at h3
  simp only [Bool.and_eq_true, Bool.not_eq_true'] at h3
  refine Atm.of (pv_plain (pe_glob (v := v) (gl_of h2) e2 r h3.1) fun _ => rfl) (fun _ _ _ e => nomatch e) fun σ H Q ⟨Z, g, ρ, d', S, e, q⟩ => ?_
  simp only [evA] at e
  rw [e1] at e; cases e
  exact q _ _ _ S.refl ⟨[], hr Z H⟩
theorem al_ok {i n : Nat} {x : Str} {pos : Pos} (h : alB X.N Γ i n x = true) (hv : visB X.env.scope x = true) (hn : nameB x = true) : Atm X Γ (evA C (.ali i n)) (.Name x pos) := by
  unfold alB at h
  obtain ⟨⟨j, i', k⟩, hm, h⟩ := List.any_eq_true.mp h
  simp only [Bool.and_eq_true, decide_eq_true_eq, beq_iff_eq] at h
  obtain ⟨⟨hN, rfl⟩, hk⟩ := h
  refine Atm.of (pv_plain (visName hN hv hn) fun _ => rfl) (fun _ _ _ e => nomatch e) fun σ H Q ⟨Z, g, ρ, dd, S, e, q⟩ => ?_
  obtain ⟨a, v, s1, s2, it⟩ := S.al j i' k hm
  refine ⟨v, s2, q _ _ _ S.refl ?_⟩
  simp only [evA] at e
  split at e
  · rename_i o xs e1
    split at e
    · cases e
    · rename_i ho
      obtain ⟨v', f', t1, t2, t3⟩ := S.env.get e1
      rw [s1] at t1; cases t1
      obtain ⟨b, vs, f, eb, sq, r, hl⟩ := Bor.lst ⟨f', t2⟩
      cases eb
      have hl := hl ho
      cases k with
      | s l => cases hk
      | i m =>
        simp only [akB, beq_iff_eq] at hk
        subst hk
        obtain ⟨ws, hw, hv'⟩ := it
        rw [hw] at hl; cases hl
        obtain ⟨v2, f2, g1, g2, _⟩ := r.get e
        rw [hv'] at g1; cases g1
        exact ⟨f2, g2⟩
  · cases e
theorem alk_okA {i : Nat} {l : List Nat} {x : Str} {pos : Pos} (h : alkB X.N Γ i l x = true) (hv : visB X.env.scope x = true) (hn : nameB x = true) : Atm X Γ (evA C (.alk i l)) (.Name x pos) := by
  unfold alkB at h
  obtain ⟨⟨j, i', k⟩, hm, h⟩ := List.any_eq_true.mp h
  simp only [Bool.and_eq_true, decide_eq_true_eq, beq_iff_eq] at h
  obtain ⟨⟨hN, rfl⟩, hk⟩ := h
  refine Atm.of (pv_plain (visName hN hv hn) fun _ => rfl) (fun _ _ _ e => nomatch e) fun σ H Q ⟨Z, g, ρ, dd, S, e, q⟩ => ?_
  obtain ⟨a, v, s1, s2, it⟩ := S.al j i' k hm
  refine ⟨v, s2, q _ _ _ S.refl ?_⟩
  simp only [evA] at e
  split at e
  · rename_i o ks xs e1
    split at e
    · cases e
    · rename_i ho
      obtain ⟨n, e2, e3⟩ := Option.bind_eq_some_iff.mp e
      obtain ⟨v', f', t1, t2, t3⟩ := S.env.get e1
      rw [s1] at t1; cases t1
      obtain ⟨kvs, f0, hH, hky, r⟩ : ∃ kvs f0, H a = some (.dK kvs) ∧ kyOk ks (kvs.map (·.1)) ∧ RelL X.K Z H xs (kvs.map (·.2)) f0 := by
        cases o with
        | own => obtain ⟨b, kvs, f0, eb, h1, h2, _, h3⟩ := t2; cases eb; exact ⟨kvs, f0, h1, h2, h3⟩
        | shr => obtain ⟨b, kvs, eb, h1, _, h2, h3, _⟩ := t2; cases eb; exact ⟨kvs, [], h1, h2, h3⟩
        | ext => exact absurd rfl ho
      cases k with
      | i m => cases hk
      | s y =>
        have hk := of_decide_eq_true hk
        subst hk
        obtain ⟨kvs', hw, hv'⟩ := it
        rw [hH] at hw; cases hw
        obtain ⟨w, q1, q2⟩ := kAt_val hky e2
        rw [show kxK (.s l) = .inr (toS l) from rfl, hv'] at q2
        cases q2
        obtain ⟨v2, f2, g1, g2, _⟩ := r.get e3
        rw [q1] at g1; cases g1
        exact ⟨f2, g2⟩
  · cases e
mutual
theorem atom_ok (B : Base X C G) : ∀ (a : MA) (e : Expr), okA X.env.scope X.N G Γ a e = true → Atm X Γ (evA C a) e
  | .var i, e, h => by
    simp only [okA] at h
    split at h <;> try (cases h; done)
    simp only [Bool.and_eq_true, decide_eq_true_eq] at h
    refine Atm.of (pv_plain (visName h.1.1 h.1.2 h.2) fun _ => rfl) (fun _ _ _ e => nomatch e) fun σ H Q ⟨Z, g, ρ, d, S, e, q⟩ => ?_
    simp only [evA] at e
    obtain ⟨v, f, e1, e2, _⟩ := S.env.get e
    exact ⟨v, e1, q _ _ _ S.refl ⟨f, e2⟩⟩
  | .cst d, e, h => by
    simp only [okA] at h
    split at h <;> try (cases h; done)
    exact const_ok h
  | .gbl j, e, h => by
    simp only [okA] at h
    split at h <;> try (cases h; done)
    simp only [Bool.and_eq_true, decide_eq_true_eq] at h
    exact gbl_ok B h.1.1 h.1.2 h.2
  | .idx a b, e, h => by
    simp only [okA] at h
    split at h <;> try (cases h; done)
    · simp only [Bool.and_eq_true] at h
      obtain ⟨⟨h1, h2⟩, h3⟩ := h
      have A := atom_ok B a _ h2
      have A2 := atom_ok B b _ h3
      refine Atm.of (pv_plain (pe_ix (ix_good B.un) A.1 A2.1 (plainIx_of h1)) fun _ => rfl) (fun _ _ _ e => nomatch e) fun σ H Q ⟨Z, g, ρ, d, S, e, q⟩ => ?_
      simp only [evA] at e
      obtain ⟨u, e1, e⟩ := Option.bind_eq_some_iff.mp e
      obtain ⟨k, e2, e3⟩ := Option.bind_eq_some_iff.mp e
      exact tA_of S e1 fun v H1 Z1 F1 b1 => tA_of (S.fsh F1) e2 fun w H2 Z2 F2 b2 => ⟨Z2, u, k, d, b1.fsh F2, b2, e3, fun v' bv => q _ _ _ (F1.trans F2) bv⟩
  | .ali i n, e, h => by
    simp only [okA] at h
    split at h <;> try (cases h; done)
    simp only [Bool.and_eq_true] at h
    exact al_ok h.1.1 h.1.2 h.2
  | .alk i l, e, h => by
    simp only [okA] at h
    split at h <;> try (cases h; done)
    simp only [Bool.and_eq_true] at h
    exact alk_okA h.1.1 h.1.2 h.2
  | .prim p as, e, h => by
    simp only [okA] at h
    split at h <;> try (cases h; done)
    rename_i es he
    have A := atoms_ok B as es h
    have P := pv_prim B he A.pes
    refine Atm.of P (fun op vs pos e' => by subst e'; simp [argsOf] at he) fun σ H Q ⟨Z, g, ρ, d, S, e, q⟩ => ?_
    simp only [evA] at e
    obtain ⟨ds, e1, e2⟩ := Option.bind_eq_some_iff.mp e
    exact seq_ok S e1 fun vs H1 Z1 F b => good_of F.ok.zh b e2 fun v H2 Z2 f F2 r => q _ _ _ (F.trans F2).drop ⟨f, r⟩
  | .and a b, e, h => by
    simp only [okA] at h
    split at h <;> try (cases h; done)
    simp only [Bool.and_eq_true] at h
    obtain ⟨⟨h1, h2⟩, h3⟩ := h
    have A := atom_ok B a _ h2
    split at h3
    · rename_i x y r pos hr
      simp only [Bool.and_eq_true] at h3
      have hr' : r = [] := List.isEmpty_iff.mp hr
      subst hr'
      have A2 := last_ok (op := .And) (pos := pos) (atom_ok B b _ h3.2) h3.1
      exact and_ok A h1 A2.1 A2.2
    · have A2 := atom_ok B b _ h3
      exact and_ok A h1 A2.1 (A2.2.2 _ _ _ rfl)
  | .or a b, e, h => by
    simp only [okA] at h
    split at h <;> try (cases h; done)
    simp only [Bool.and_eq_true] at h
    obtain ⟨⟨h1, h2⟩, h3⟩ := h
    have A := atom_ok B a _ h2
    split at h3
    · rename_i x y r pos hr
      simp only [Bool.and_eq_true] at h3
      have hr' : r = [] := List.isEmpty_iff.mp hr
      subst hr'
      have A2 := last_ok (op := .Or) (pos := pos) (atom_ok B b _ h3.2) h3.1
      exact or_ok A h1 A2.1 A2.2
    · have A2 := atom_ok B b _ h3
      exact or_ok A h1 A2.1 (A2.2.2 _ _ _ rfl)
  | .not a, e, h => by
    simp only [okA] at h
    split at h <;> try (cases h; done)
    simp only [Bool.and_eq_true] at h
    exact not_ok (atom_ok B a _ h.2) h.1
  | .ite c a b, e, h => by
    simp only [okA] at h
    split at h <;> try (cases h; done)
    simp only [Bool.and_eq_true] at h
    obtain ⟨⟨⟨h1, h2⟩, h3⟩, h4⟩ := h
    exact ite_ok (atom_ok B c _ h2) h1 (atom_ok B a _ h3) (atom_ok B b _ h4)
  | .chain c d u v w, e, h => by
    simp only [okA] at h
    split at h <;> try (cases h; done)
    simp only [Bool.and_eq_true, beq_iff_eq, Bool.not_eq_true'] at h
    obtain ⟨⟨⟨⟨⟨⟨h1, h2⟩, h3⟩, h4⟩, h5⟩, h6⟩, h7⟩ := h
    subst h1 h2
    exact chain_ok B (atom_ok B u _ h5) (atom_ok B v _ h6) (atom_ok B w _ h7) h4
  | .tor a, e, h => by
    simp only [okA] at h
    split at h <;> try (cases h; done)
    rename_i he
    exact tor_ok B he (atom_ok B a _ h)
  | .tup as, e, h => by
    simp only [okA] at h
    split at h <;> try (cases h; done)
    simp only [Bool.and_eq_true] at h
    exact tup_ok (atoms_ok B as _ h.2) h.1
  | .lst as, e, h => by
    simp only [okA] at h
    split at h <;> try (cases h; done)
    simp only [Bool.and_eq_true] at h
    exact lst_ok (atoms_ok B as _ h.2) h.1
theorem atoms_ok (B : Base X C G) : ∀ (as : MAs) (es : List Expr), okAs X.env.scope X.N G Γ as es = true → Ats X C Γ as es
  | .nil, es, h => by
    simp only [okAs, List.isEmpty_iff] at h
    subst h; exact .nil
  | .cons a r, es, h => by
    simp only [okAs] at h
    split at h
    · simp only [Bool.and_eq_true] at h
      exact .cons (atom_ok B a _ h.1) (atoms_ok B r _ h.2)
    · cases h
end
end
end GN
end

section
set_option linter.all false
set_option maxRecDepth 100000
set_option maxHeartbeats 4000000
namespace GN
open PySem PySem.Spec PyProof.Rows L2
section
variable {X : Cx} {C : Cfg} {G : List Str} {Γ : Al}
theorem po_ok (B : Base X C G) {p : Prim} {as : MOs} {e : Expr} {es : List Expr} (ha : argsOf X.env.scope p e = some es) (h : OsE X C Γ as es) : Exp X Γ (ev C (.po p as)) e := by
  refine Exp.of (pv_prim B ha h.pes) (fun op vs pos e' => by subst e'; simp [argsOf] at ha) fun σ H Q ⟨Z, g, ρ, d, ρ', S, e, q⟩ => ?_
  simp only [ev] at e
  obtain ⟨⟨ds, ρ1⟩, e1, e2⟩ := Option.bind_eq_some_iff.mp e
  obtain ⟨d', e3, e4⟩ := Option.bind_eq_some_iff.mp e2
  cases e4
  refine os_ok h S e1 fun vs H1 Z1 f g1 s1 o1 r1 S1 => good_of o1.zh (r1.bor S1.sta.env) e3 fun v H2 Z2 f2 F R => ?_
  obtain ⟨s2, o2⟩ := F.sp0 S1.sta.ok
  exact q v H2 Z2 f2 g1 ((Stp.drop s1).trans s2) o2 R (S1.fsh F)
def nopl : MOs → Bool
  | .nil => true
  | .ow _ r => nopl r
  | .fl _ r => nopl r
  | .ml _ r => nopl r
  | .pl _ _ => false
theorem OsR.rel {K : PySem.W.Frag} {Z : Addr → Prop} {H : Hp} {ρ : Env} {σ : L2.St} : ∀ {as : MOs} {ds : List D} {vs : List V} {f : List Addr}, nopl as = true → OsR K Z H ρ σ as ds vs f → RelL K Z H ds vs f
  | .nil, _, _, _, _, h => by obtain ⟨rfl, rfl, rfl⟩ := h; exact ⟨rfl, rfl⟩
  | .ow _ r, ds, vs, f, n, h => by
    obtain ⟨d, ds', v, vs', f1, f2, rfl, rfl, rfl, r1, r2⟩ := h
    exact ⟨v, vs', f1, f2, rfl, rfl, r1, OsR.rel (as := r) n r2⟩
  | .fl _ r, ds, vs, f, n, h => by
    obtain ⟨d, ds', v, vs', f1, f2, rfl, rfl, rfl, r1, r2⟩ := h
    exact ⟨v, vs', f1, f2, rfl, rfl, r1, OsR.rel (as := r) n r2⟩
  | .ml _ r, ds, vs, f, n, h => by
    obtain ⟨d, ds', v, vs', f1, f2, rfl, rfl, rfl, r1, r2⟩ := h
    exact ⟨v, vs', f1, f2, rfl, rfl, r1, OsR.rel (as := r) n r2⟩
  | .pl _ _, _, _, _, n, _ => nomatch n
theorem mtup_ok {as : MOs} {es : List Expr} {k : Nat} {pos : Pos} (h : OsE X C Γ as es) (hp : nopl as = true) (hn : es.all nstar = true) : Exp X Γ (ev C (.tup as)) (.Tuple es k pos) := by
  refine Exp.of (pv_plain (pe_tup (pa_of h.pes hn)) fun _ => rfl) (fun _ _ _ e => nomatch e) fun σ H Q ⟨Z, g, ρ, d, ρ', S, e, q⟩ => ?_
  simp only [ev] at e
  obtain ⟨⟨ds, ρ1⟩, e1, e2⟩ := Option.bind_eq_some_iff.mp e
  obtain ⟨hl, e3⟩ := ite_some e2
  cases e3
  refine os_ok h S e1 fun vs H1 Z1 f g1 s1 o1 r1 S1 => ?_
  have r := r1.rel hp
  refine ⟨by rw [r.len, ← line_eq]; exact hl, fun p hn => ?_⟩
  have F : Fsh Z1 H1 Z1 (upd H1 p (.tup vs)) [] := Fsh.one o1.zh hn (.inl rfl)
  obtain ⟨s2, o2⟩ := F.sp0 o1
  exact q _ _ _ f g1 (s1.trans s2) o2 ⟨p, vs, rfl, SqT.of upd_same, RelL.agr _ vs f r (F.agr fun b m => isM_ne (o1.mu b (by simp [m])))⟩ (S1.fsh F)
theorem mlst_ok {as : MOs} {es : List Expr} {pos : Pos} (h : OsE X C Γ as es) (hp : nopl as = true) (hn : es.all nstar = true) : Exp X Γ (ev C (.lst as)) (.List es pos) := by
  refine Exp.of (pv_plain (pe_lst (pa_of h.pes hn)) fun _ => rfl) (fun _ _ _ e => nomatch e) fun σ H Q ⟨Z, g, ρ, d, ρ', S, e, q⟩ => ?_
  simp only [ev] at e
  obtain ⟨⟨ds, ρ1⟩, e1, e2⟩ := Option.bind_eq_some_iff.mp e
  obtain ⟨hl, e3⟩ := ite_some e2
  cases e3
  refine os_ok h S e1 fun vs H1 Z1 f g1 s1 o1 r1 S1 => ?_
  have r := r1.rel hp
  refine ⟨by rw [r.len, ← line_eq]; exact hl, fun p hn => ?_⟩
  have F : Fsh Z1 H1 Z1 (upd H1 p (.lst vs)) [p] := Fsh.one o1.zh hn (.inr ⟨rfl, trivial⟩)
  obtain ⟨s2, o2⟩ := F.sp0 o1
  exact q _ _ _ (p :: f) g1 (s1.trans s2) o2 ⟨p, vs, f, rfl, upd_same, rfl, RelL.agr _ vs f r (F.agr fun b m => isM_ne (o1.mu b (by simp [m])))⟩ (S1.fsh F)
theorem mand_ok {a b : ME} {x y : Expr} {r : List Expr} {pos : Pos} (h1 : Exp X Γ (ev C a) x) (n1 : notIf x = true)
    (h2 : PE X (.BoolOp .And (y :: r) pos) (tM X.K Γ (ev C b))) (h3 : PW X (.BoolOp .And (y :: r) pos) (tTest (tM X.K Γ (ev C b)))) : Exp X Γ (ev C (.and a b)) (.BoolOp .And (x :: y :: r) pos) := by
  have i1 : ∀ σ H Q, tM X.K Γ (ev C (.and a b)) σ H Q → tAndV (tM X.K Γ (ev C a)) (tM X.K Γ (ev C b)) σ H Q := fun σ H Q ⟨Z, g, ρ, d, ρ', S, e, q⟩ => by
    simp only [ev] at e
    obtain ⟨⟨u, ρ1⟩, e1, e⟩ := Option.bind_eq_some_iff.mp e
    obtain ⟨c, e2, e3⟩ := Option.bind_eq_some_iff.mp e
    have := asB_of e2
    simp only at this e3
    subst this
    refine tM_of S e1 fun v H1 Z1 f g1 s1 o1 r1 S1 => ⟨c, r1.1, ?_⟩
    cases c with
    | true =>
      rw [if_pos rfl] at e3 ⊢
      exact tM_of S1 e3 fun w H2 Z2 f2 g2 s2 o2 r2 S2 => q w H2 Z2 f2 g2 ((Stp.drop s1).trans s2) o2 r2 S2
    | false =>
      rw [if_neg Bool.false_ne_true] at e3 ⊢
      cases e3
      exact q _ _ _ [] g1 (Stp.drop s1) o1.right ⟨rfl, rfl⟩ S1
  have i2 : ∀ σ H Q, tTest (tM X.K Γ (ev C (.and a b))) σ H Q → tAnd (tTest (tM X.K Γ (ev C a))) (tTest (tM X.K Γ (ev C b))) σ H Q := fun σ H Q ⟨Z, g, ρ, d, ρ', S, e, q⟩ => by
    simp only [ev] at e
    obtain ⟨⟨u, ρ1⟩, e1, e⟩ := Option.bind_eq_some_iff.mp e
    obtain ⟨c, e2, e3⟩ := Option.bind_eq_some_iff.mp e
    have := asB_of e2
    simp only at this e3
    subst this
    refine tM_of S e1 fun v H1 Z1 f g1 s1 o1 r1 S1 => ⟨c, r1.1, ?_⟩
    cases c with
    | true =>
      rw [if_pos rfl] at e3 ⊢
      exact tM_of S1 e3 fun w H2 Z2 f2 g2 s2 o2 r2 S2 => q w H2 Z2 f2 g2 ((Stp.drop s1).trans s2) o2 r2 S2
    | false =>
      rw [if_neg Bool.false_ne_true] at e3 ⊢
      cases e3
      obtain ⟨k, hk, q⟩ := q _ _ _ [] g1 (Stp.drop s1) o1.right ⟨rfl, rfl⟩ S1
      cases hk
      exact q
  have w : PW X (.BoolOp .And (x :: y :: r) pos) (tTest (tM X.K Γ (ev C (.and a b)))) := ⟨fun wh p s σ H Q I q => (pw_and (h1.2.1 n1) h3).run wh p s σ H Q I (i2 σ H Q q)⟩
  exact ⟨PE.imp (pe_and h1.1 h2) i1, fun _ => w.pt, fun op vs pos' e => by cases e; exact w⟩
theorem mor_ok {a b : ME} {x y : Expr} {r : List Expr} {pos : Pos} (h1 : Exp X Γ (ev C a) x) (n1 : notIf x = true)
    (h2 : PE X (.BoolOp .Or (y :: r) pos) (tM X.K Γ (ev C b))) (h3 : PW X (.BoolOp .Or (y :: r) pos) (tTest (tM X.K Γ (ev C b)))) : Exp X Γ (ev C (.or a b)) (.BoolOp .Or (x :: y :: r) pos) := by
  have i1 : ∀ σ H Q, tM X.K Γ (ev C (.or a b)) σ H Q → tOrV (tM X.K Γ (ev C a)) (tM X.K Γ (ev C b)) σ H Q := fun σ H Q ⟨Z, g, ρ, d, ρ', S, e, q⟩ => by
    simp only [ev] at e
    obtain ⟨⟨u, ρ1⟩, e1, e⟩ := Option.bind_eq_some_iff.mp e
    obtain ⟨c, e2, e3⟩ := Option.bind_eq_some_iff.mp e
    have := asB_of e2
    simp only at this e3
    subst this
    refine tM_of S e1 fun v H1 Z1 f g1 s1 o1 r1 S1 => ⟨c, r1.1, ?_⟩
    cases c with
    | false =>
      rw [if_neg Bool.false_ne_true] at e3 ⊢
      exact tM_of S1 e3 fun w H2 Z2 f2 g2 s2 o2 r2 S2 => q w H2 Z2 f2 g2 ((Stp.drop s1).trans s2) o2 r2 S2
    | true =>
      rw [if_pos rfl] at e3 ⊢
      cases e3
      exact q _ _ _ [] g1 (Stp.drop s1) o1.right ⟨rfl, rfl⟩ S1
  have i2 : ∀ σ H Q, tTest (tM X.K Γ (ev C (.or a b))) σ H Q → tOr (tTest (tM X.K Γ (ev C a))) (tTest (tM X.K Γ (ev C b))) σ H Q := fun σ H Q ⟨Z, g, ρ, d, ρ', S, e, q⟩ => by
    simp only [ev] at e
    obtain ⟨⟨u, ρ1⟩, e1, e⟩ := Option.bind_eq_some_iff.mp e
    obtain ⟨c, e2, e3⟩ := Option.bind_eq_some_iff.mp e
    have := asB_of e2
    simp only at this e3
    subst this
    refine tM_of S e1 fun v H1 Z1 f g1 s1 o1 r1 S1 => ⟨c, r1.1, ?_⟩
    cases c with
    | false =>
      rw [if_neg Bool.false_ne_true] at e3 ⊢
      exact tM_of S1 e3 fun w H2 Z2 f2 g2 s2 o2 r2 S2 => q w H2 Z2 f2 g2 ((Stp.drop s1).trans s2) o2 r2 S2
    | true =>
      rw [if_pos rfl] at e3 ⊢
      cases e3
      obtain ⟨k, hk, q⟩ := q _ _ _ [] g1 (Stp.drop s1) o1.right ⟨rfl, rfl⟩ S1
      cases hk
      exact q
  have w : PW X (.BoolOp .Or (x :: y :: r) pos) (tTest (tM X.K Γ (ev C (.or a b)))) := ⟨fun wh p s σ H Q I q => (pw_or (h1.2.1 n1) h3).run wh p s σ H Q I (i2 σ H Q q)⟩
  exact ⟨PE.imp (pe_or h1.1 h2) i1, fun _ => w.pt, fun op vs pos' e => by cases e; exact w⟩
theorem mlast_ok {F : Env → Option (D × Env)} {op : BoolOp} {y : Expr} {pos : Pos} (h : Exp X Γ F y) (n : notIf y = true) : PE X (.BoolOp op [y] pos) (tM X.K Γ F) ∧ PW X (.BoolOp op [y] pos) (tTest (tM X.K Γ F)) := by
  refine ⟨pe_one h.1, ?_⟩
  cases op
  · exact pw_and1 (h.2.1 n)
  · exact pw_or1 (h.2.1 n)
theorem mnot_ok {a : ME} {x : Expr} {pos : Pos} (h : Exp X Γ (ev C a) x) (n : notIf x = true) : Exp X Γ (ev C (.not a)) (.UnaryOp .Not x pos) := by
  have i1 : ∀ σ H Q, tM X.K Γ (ev C (.not a)) σ H Q → tNotV (tM X.K Γ (ev C a)) σ H Q := fun σ H Q ⟨Z, g, ρ, d, ρ', S, e, q⟩ => by
    simp only [ev] at e
    obtain ⟨⟨u, ρ1⟩, e1, e⟩ := Option.bind_eq_some_iff.mp e
    obtain ⟨c, e2, e3⟩ := Option.bind_eq_some_iff.mp e
    have := asB_of e2
    simp only at this e3
    subst this
    cases e3
    exact tM_of S e1 fun v H1 Z1 f g1 s1 o1 r1 S1 => ⟨c, r1.1, q _ _ _ [] g1 (Stp.drop s1) o1.right ⟨rfl, rfl⟩ S1⟩
  have i2 : ∀ σ H Q, tTest (tM X.K Γ (ev C (.not a))) σ H Q → tNot (tTest (tM X.K Γ (ev C a))) σ H Q := fun σ H Q ⟨Z, g, ρ, d, ρ', S, e, q⟩ => by
    simp only [ev] at e
    obtain ⟨⟨u, ρ1⟩, e1, e⟩ := Option.bind_eq_some_iff.mp e
    obtain ⟨c, e2, e3⟩ := Option.bind_eq_some_iff.mp e
    have := asB_of e2
    simp only at this e3
    subst this
    cases e3
    refine tM_of S e1 fun v H1 Z1 f g1 s1 o1 r1 S1 => ⟨c, r1.1, ?_⟩
    obtain ⟨k, hk, q⟩ := q _ _ _ [] g1 (Stp.drop s1) o1.right ⟨rfl, rfl⟩ S1
    cases hk
    exact q
  exact ⟨PE.imp (pe_not h.1) i1, fun _ => PT.imp (pt_not (h.2.1 n)) i2, fun op vs pos e => nomatch e⟩
theorem mite_ok {c a b : ME} {z x y : Expr} {pos : Pos} (hc : Exp X Γ (ev C c) z) (n : notIf z = true) (ha : Exp X Γ (ev C a) x) (hb : Exp X Γ (ev C b) y) : Exp X Γ (ev C (.ite c a b)) (.IfExp z x y pos) := by
  refine ⟨PE.imp (pe_ifExp (hc.2.1 n) ha.1 hb.1) fun σ H Q ⟨Z, g, ρ, d, ρ', S, e, q⟩ => ?_, (fun h => nomatch h), fun op vs pos e => nomatch e⟩
  simp only [ev] at e
  obtain ⟨⟨u, ρ1⟩, e1, e⟩ := Option.bind_eq_some_iff.mp e
  obtain ⟨k, e2, e3⟩ := Option.bind_eq_some_iff.mp e
  have := asB_of e2
  simp only at this e3
  subst this
  refine tM_of S e1 fun v H1 Z1 f g1 s1 o1 r1 S1 => ⟨k, r1.1, ?_⟩
  cases k with
  | true =>
    rw [if_pos rfl] at e3 ⊢
    exact tM_of S1 e3 fun w H2 Z2 f2 g2 s2 o2 r2 S2 => q w H2 Z2 f2 g2 ((Stp.drop s1).trans s2) o2 r2 S2
  | false =>
    rw [if_neg Bool.false_ne_true] at e3 ⊢
    exact tM_of S1 e3 fun w H2 Z2 f2 g2 s2 o2 r2 S2 => q w H2 Z2 f2 g2 ((Stp.drop s1).trans s2) o2 r2 S2
end
end GN
end

section
set_option linter.all false
set_option maxRecDepth 100000
set_option maxHeartbeats 4000000
namespace GN
open PySem PySem.Spec PyProof.Rows L2
section
variable {K : PySem.W.Frag} {Z Z1 : Addr → Prop} {H H1 : Hp}
/-- the lent values leave their names -/
theorem lend_out : ∀ {as : MOs} {ρ : Env} {σ : L2.St} {ds : List D} {vs : List V} {f g : List Addr}, (lates as).Nodup → OsR K Z H ρ σ as ds vs f → EnvRel K Z H ρ σ g →
    ∃ gc gr, RelL K Z H ds vs gc ∧ EnvRel K Z H (emptyL as ρ) σ gr ∧ (f ++ g).Perm (gc ++ gr)
  | .nil, ρ, σ, ds, vs, f, g, _, h, E => by
    obtain ⟨rfl, rfl, rfl⟩ := h
    exact ⟨[], g, ⟨rfl, rfl⟩, E, List.Perm.refl _⟩
  | .ow _ r, ρ, σ, ds, vs, f, g, n, h, E => by
    obtain ⟨d, ds', v, vs', f1, f2, rfl, rfl, rfl, r1, r2⟩ := h
    obtain ⟨gc, gr, q1, q2, q3⟩ := lend_out (as := r) n r2 E
    exact ⟨f1 ++ gc, gr, ⟨v, vs', f1, gc, rfl, rfl, r1, q1⟩, q2, by rw [List.append_assoc, List.append_assoc]; exact q3.append_left f1⟩
  | .fl _ r, ρ, σ, ds, vs, f, g, n, h, E => by
    obtain ⟨d, ds', v, vs', f1, f2, rfl, rfl, rfl, r1, r2⟩ := h
    obtain ⟨gc, gr, q1, q2, q3⟩ := lend_out (as := r) (List.nodup_cons.mp n).2 r2 E
    exact ⟨f1 ++ gc, gr, ⟨v, vs', f1, gc, rfl, rfl, r1, q1⟩, q2, by rw [List.append_assoc, List.append_assoc]; exact q3.append_left f1⟩
  | .ml _ r, ρ, σ, ds, vs, f, g, n, h, E => by
    obtain ⟨d, ds', v, vs', f1, f2, rfl, rfl, rfl, r1, r2⟩ := h
    obtain ⟨gc, gr, q1, q2, q3⟩ := lend_out (as := r) (List.nodup_cons.mp n).2 r2 E
    exact ⟨f1 ++ gc, gr, ⟨v, vs', f1, gc, rfl, rfl, r1, q1⟩, q2, by rw [List.append_assoc, List.append_assoc]; exact q3.append_left f1⟩
  | .pl i r, ρ, σ, ds, vs, f, g, n, h, E => by
    obtain ⟨d, ds', v, vs', rfl, rfl, r1, r2, r3⟩ := h
    have n' := List.nodup_cons.mp n
    obtain ⟨v', f', g', e1, e2, e3, p⟩ := E.take r1
    rw [r2] at e1; cases e1
    have ag : Agr Z H f Z H := ⟨fun _ z => z, fun _ _ _ => rfl, fun _ _ _ => rfl, fun _ _ => rfl⟩
    have r4 := r3.agr (ρ1 := put ρ i none) ag fun j m => get_put_ne fun e => n'.1 (e ▸ m)
    obtain ⟨gc, gr, q1, q2, q3⟩ := lend_out (as := r) n'.2 r4 e3
    refine ⟨f' ++ gc, gr, ⟨v, vs', f', gc, rfl, rfl, e2, q1⟩, q2, ?_⟩
    have p1 : (f ++ g).Perm (f ++ (f' ++ g')) := p.append_left f
    have p2 : (f ++ (f' ++ g')).Perm (f' ++ (f ++ g')) := by
      rw [← List.append_assoc, ← List.append_assoc]
      exact (List.perm_append_comm).append_right g'
    rw [List.append_assoc]
    exact (p1.trans p2).trans (q3.append_left f')
theorem get_emptyL : ∀ {as : MOs} {ρ : Env} {i : Nat}, i ∉ lates as → get (emptyL as ρ) i = get ρ i
  | .nil, _, _, _ => rfl
  | .ow _ r, ρ, i, h => get_emptyL (as := r) h
  | .fl j r, ρ, i, h => get_emptyL (as := r) fun m => h (by simp [lates, m])
  | .ml j r, ρ, i, h => get_emptyL (as := r) fun m => h (by simp [lates, m])
  | .pl j r, ρ, i, h => by
    show get (emptyL r (put ρ j none)) i = _
    rw [get_emptyL (as := r) fun m => h (by simp [lates, m]), get_put_ne fun e => h (by simp [lates, e])]
theorem get_emptyL_pl : ∀ {as : MOs} {ρ : Env} {i : Nat}, get ρ i = none → get (emptyL as ρ) i = none
  | .nil, _, _, h => h
  | .ow _ r, ρ, i, h => get_emptyL_pl (as := r) h
  | .fl j r, ρ, i, h => get_emptyL_pl (as := r) h
  | .ml j r, ρ, i, h => get_emptyL_pl (as := r) h
  | .pl j r, ρ, i, h => by
    show get (emptyL r (put ρ j none)) i = none
    refine get_emptyL_pl (as := r) ?_
    by_cases e : j = i
    · subst e; exact get_put_none
    · rw [get_put_ne e]; exact h
theorem get_lendBack : ∀ {as : MOs} {os : List (Option D)} {ρ : Env} {i : Nat}, i ∉ lates as → get (lendBack as os ρ) i = get ρ i
  | .nil, _, _, _, _ => by unfold lendBack; rfl
  | .ow _ r, [], ρ, i, h => by unfold lendBack; rfl
  | .ow _ r, _ :: os, ρ, i, h => by simp only [lendBack]; exact get_lendBack (as := r) h
  | .fl j r, [], ρ, i, h => by unfold lendBack; rfl
  | .fl j r, _ :: os, ρ, i, h => by simp only [lendBack]; exact get_lendBack (as := r) fun m => h (by simp [lates, m])
  | .ml j r, [], ρ, i, h => by unfold lendBack; rfl
  | .ml j r, _ :: os, ρ, i, h => by simp only [lendBack]; exact get_lendBack (as := r) fun m => h (by simp [lates, m])
  | .pl j r, [], ρ, i, h => by unfold lendBack; rfl
  | .pl j r, d :: os, ρ, i, h => by
    simp only [lendBack]
    rw [get_put_ne fun e => h (by simp [lates, e]), get_lendBack (as := r) fun m => h (by simp [lates, m])]
def plis : MOs → List Nat
  | .nil => []
  | .ow _ r => plis r
  | .fl _ r => plis r
  | .ml _ r => plis r
  | .pl i r => i :: plis r
theorem plis_sub : ∀ {as : MOs} {i : Nat}, i ∈ plis as → i ∈ lates as
  | .nil, _, h => h
  | .ow _ r, _, h => plis_sub (as := r) h
  | .fl _ r, _, h => List.mem_cons.mpr (.inr (plis_sub (as := r) h))
  | .ml _ r, _, h => List.mem_cons.mpr (.inr (plis_sub (as := r) h))
  | .pl _ r, _, h => by
    rcases List.mem_cons.mp h with rfl | h
    · exact List.mem_cons_self
    · exact List.mem_cons.mpr (.inr (plis_sub (as := r) h))
theorem get_plis : ∀ {as : MOs} {ρ : Env} {i : Nat}, i ∈ plis as → get (emptyL as ρ) i = none
  | .nil, _, _, h => nomatch h
  | .ow _ r, _, _, h => get_plis (as := r) h
  | .fl _ r, _, _, h => get_plis (as := r) h
  | .ml _ r, _, _, h => get_plis (as := r) h
  | .pl j r, ρ, i, h => by
    show get (emptyL r (put ρ j none)) i = none
    rcases List.mem_cons.mp h with rfl | h
    · exact get_emptyL_pl get_put_none
    · exact get_plis (as := r) h
/-- the lent names get back what the callee leaves -/
theorem lend_in : ∀ {as : MOs} {ρ0 ρ : Env} {σ : L2.St} {ds : List D} {vs : List V} {f : List Addr} {os : List (Option D)} {go gr : List Addr}, (lates as).Nodup → OsR K Z H ρ0 σ as ds vs f → EnvRel K Z1 H1 os (vs.map some) go →
    EnvRel K Z1 H1 ρ σ gr → (∀ i, i ∈ plis as → get ρ i = none) → ∃ gf rest, EnvRel K Z1 H1 (lendBack as os ρ) σ gf ∧ (go ++ gr).Perm (rest ++ gf)
  | .nil, ρ0, ρ, σ, ds, vs, f, os, go, gr, _, h, E, R, _ => by
    obtain ⟨rfl, rfl, rfl⟩ := h
    refine ⟨gr, go, ?_, List.Perm.refl _⟩
    unfold lendBack; exact R
  | .ow _ r, ρ0, ρ, σ, ds, vs, f, os, go, gr, n, h, E, R, z => by
    obtain ⟨d, ds', v, vs', f1, f2, rfl, rfl, rfl, r1, r2⟩ := h
    cases os with
    | nil => obtain ⟨e, _⟩ := E; simp at e
    | cons o os =>
      have ⟨g1, g2, hp, E2⟩ : ∃ g1 g2, go.Perm (g1 ++ g2) ∧ EnvRel K Z1 H1 os (vs'.map some) g2 := by
        cases o with
        | none => obtain ⟨s, r', e, E⟩ := E; simp at e; obtain ⟨_, rfl⟩ := e; exact ⟨[], go, List.Perm.refl _, E⟩
        | some d2 => obtain ⟨v2, r', f2, g', e, rfl, _, E⟩ := E; simp at e; obtain ⟨_, rfl⟩ := e; exact ⟨f2, g', List.Perm.refl _, E⟩
      obtain ⟨gf, rest, q1, q2⟩ := lend_in (as := r) n r2 E2 R z
      refine ⟨gf, g1 ++ rest, by simp only [lendBack]; exact q1, ?_⟩
      have p1 : (go ++ gr).Perm ((g1 ++ g2) ++ gr) := hp.append_right gr
      rw [List.append_assoc] at p1
      rw [List.append_assoc]
      exact p1.trans (q2.append_left g1)
  | .fl j r, ρ0, ρ, σ, ds, vs, f, os, go, gr, n, h, E, R, z => by
    obtain ⟨d, ds', v, vs', f1, f2, rfl, rfl, rfl, r1, r2⟩ := h
    cases os with
    | nil => obtain ⟨e, _⟩ := E; simp at e
    | cons o os =>
      have ⟨g1, g2, hp, E2⟩ : ∃ g1 g2, go.Perm (g1 ++ g2) ∧ EnvRel K Z1 H1 os (vs'.map some) g2 := by
        cases o with
        | none => obtain ⟨s, r', e, E⟩ := E; simp at e; obtain ⟨_, rfl⟩ := e; exact ⟨[], go, List.Perm.refl _, E⟩
        | some d2 => obtain ⟨v2, r', f2, g', e, rfl, _, E⟩ := E; simp at e; obtain ⟨_, rfl⟩ := e; exact ⟨f2, g', List.Perm.refl _, E⟩
      obtain ⟨gf, rest, q1, q2⟩ := lend_in (as := r) (List.nodup_cons.mp n).2 r2 E2 R z
      refine ⟨gf, g1 ++ rest, by simp only [lendBack]; exact q1, ?_⟩
      have p1 : (go ++ gr).Perm ((g1 ++ g2) ++ gr) := hp.append_right gr
      rw [List.append_assoc] at p1
      rw [List.append_assoc]
      exact p1.trans (q2.append_left g1)
  | .ml j r, ρ0, ρ, σ, ds, vs, f, os, go, gr, n, h, E, R, z => by
    obtain ⟨d, ds', v, vs', f1, f2, rfl, rfl, rfl, r1, r2⟩ := h
    cases os with
    | nil => obtain ⟨e, _⟩ := E; simp at e
    | cons o os =>
      have ⟨g1, g2, hp, E2⟩ : ∃ g1 g2, go.Perm (g1 ++ g2) ∧ EnvRel K Z1 H1 os (vs'.map some) g2 := by
        cases o with
        | none => obtain ⟨s, r', e, E⟩ := E; simp at e; obtain ⟨_, rfl⟩ := e; exact ⟨[], go, List.Perm.refl _, E⟩
        | some d2 => obtain ⟨v2, r', f2, g', e, rfl, _, E⟩ := E; simp at e; obtain ⟨_, rfl⟩ := e; exact ⟨f2, g', List.Perm.refl _, E⟩
      obtain ⟨gf, rest, q1, q2⟩ := lend_in (as := r) (List.nodup_cons.mp n).2 r2 E2 R z
      refine ⟨gf, g1 ++ rest, by simp only [lendBack]; exact q1, ?_⟩
      have p1 : (go ++ gr).Perm ((g1 ++ g2) ++ gr) := hp.append_right gr
      rw [List.append_assoc] at p1
      rw [List.append_assoc]
      exact p1.trans (q2.append_left g1)
  | .pl j r, ρ0, ρ, σ, ds, vs, f, os, go, gr, n, h, E, R, z => by
    obtain ⟨d, ds', v, vs', rfl, rfl, r1, r2, r3⟩ := h
    have n' := List.nodup_cons.mp n
    cases os with
    | nil => obtain ⟨e, _⟩ := E; simp at e
    | cons o os =>
      cases o with
      | none =>
        obtain ⟨s, r', e, E⟩ := E; simp at e; obtain ⟨_, rfl⟩ := e
        obtain ⟨gf, rest, q1, q2⟩ := lend_in (as := r) n'.2 r3 E R fun i m => z i (by simp [plis, m])
        refine ⟨gf, rest, ?_, q2⟩
        simp only [lendBack]
        have hg : get (lendBack r os ρ) j = none := by rw [get_lendBack n'.1]; exact z j (by simp [plis])
        have : put (lendBack r os ρ) j none = lendBack r os ρ := by
          unfold put get at *
          by_cases hl : j < (lendBack r os ρ).length
          · rw [List.getElem?_eq_getElem hl] at hg
            simp at hg
            rw [← hg]; exact List.set_getElem_self hl
          · exact List.set_eq_of_length_le (by omega)
        rw [this]; exact q1
      | some d2 =>
        obtain ⟨v2, r', f2, g', e, rfl, rd, E⟩ := E; simp at e; obtain ⟨rfl, rfl⟩ := e
        obtain ⟨gf, rest, q1, q2⟩ := lend_in (as := r) n'.2 r3 E R fun i m => z i (by simp [plis, m])
        have hg : get (lendBack r os ρ) j = none := by rw [get_lendBack n'.1]; exact z j (by simp [plis])
        obtain ⟨gf', q3, q4⟩ := q1.fill hg r2 rd
        refine ⟨gf', rest, by simp only [lendBack]; exact q3, ?_⟩
        rw [List.append_assoc]
        have p1 : (f2 ++ (g' ++ gr)).Perm (f2 ++ (rest ++ gf)) := q2.append_left f2
        have p2 : (f2 ++ (rest ++ gf)).Perm (rest ++ (f2 ++ gf)) := by
          rw [← List.append_assoc, ← List.append_assoc]
          exact (List.perm_append_comm).append_right gf
        exact (p1.trans p2).trans ((q4.symm).append_left rest)
end
end GN
end

section
set_option linter.all false
set_option maxRecDepth 100000
set_option maxHeartbeats 4000000
namespace GN
open PySem PySem.Spec PyProof.Rows L2
/-! promises of defs that are called where no repr is under way (guards = some []) -/
section
variable {P : Program} {w : World} {K : PySem.W.Frag} {mg : Str → Option Value} {base : Heap}
structure FnG (P : Program) (w : World) (K : PySem.W.Frag) (mg : Str → Option Value) (base : Heap) (n : Nat) (fa : Addr) (fd : FuncData) (qs : List Str) (sp : Sp) : Prop where
  few : ∀ {xs H R T}, sp xs H R T → xs.length = qs.length
  go : ∀ {B : Around} {ou : List PySem.Env} {t : Shared} {H : Hp} {ar : Args} {ys : List Value} {xs : List V} {R : VK} {T : XK}, B.guards = some [] → Room n B → Env0 P w K mg base B ou t H → BindsTo t fd ar (qs.zip ys) → Vals xs ys → sp xs H R T →
    codeAny (model P w) B (.call (.ref fa) ar) (CR C8.CX0 ou P w H t R T) t
structure CalG (P : Program) (w : World) (K : PySem.W.Frag) (mg : Str → Option Value) (base : Heap) (n : Nat) (z : Str) (sp : Sp) : Prop where
  is : ∃ (fa : Addr) (fd : FuncData) (qs : List Str), FnG P w K mg base n fa fd qs sp ∧ mg z = some (.ref fa) ∧ PySem.W.keepIn K (.ref fa) = true ∧ Binds K fd qs []
theorem deeper_guards (B : Around) (e : PySem.Env) : (B.deeper e).guards = B.guards := rfl
theorem fnG_of {z nm : Str} {sd : Stmt} {fa : Addr} {fd : FuncData} {N qs : List Str} {n : Nat} {sp : Sp} (U : C8.Fun K z nm sd fa fd) (sc : FnScope N qs (C8.fnScope sd)) (few : ∀ {xs H R T}, sp xs H R T → xs.length = qs.length)
    (body : ∀ (cdv : Value) (B : Around) (ou : List PySem.Env) (t : Shared) (H : Hp) (xs : List V) (R : VK) (T : XK), B.guards = some [] → Room n (B.deeper (envOfC nm (C8.fnScope sd) t.heap.objs.size fa cdv)) → sp xs H R T →
      ∃ rd, PSs (cxOf C8.CX0 P w K mg base N nm (C8.fnScope sd) fa cdv B ou t H T).nox (C8.fnBody sd) rd ∧ rd { nx := fun _ H2 => R .non H2, rt := R } (L2.start N xs) H) : FnG P w K mg base (n + 1) fa fd qs sp := by
  obtain ⟨oc, od, dV, kV, dc, pm, an, cdv, ct, sl, rfl, at_, code⟩ := U.ex
  refine ⟨few, fun {B ou t H ar ys xs R T} gd room env bd vals want => ?_⟩
  obtain ⟨rd, hrd, hbody⟩ := body cdv B ou t H xs R T gd (room.deeper _) want
  have keepK : K.In t.heap := env.mod.kin.keeps fun b o e => (env.bs b o e).1
  refine codeAny_call_function room.depth (keepK _ _ at_) rfl sc.co sc.gen rfl (PySem.W.codeRec_of keepK code) (bd _ _ _ _ ?_)
  have names : ∀ q ∈ qs.zip ys, (C8.fnScope sd).names.lookup q.1 = some .local ∨ ((C8.fnScope sd).names.lookup q.1 = some .cell ∧ ((cellsFrom (t.heap.objs.size + 1) (C8.fnScope sd).names []).lookup q.1).isSome = true) := by
    rintro ⟨a, b⟩ hab
    exact (sc.par a (List.of_mem_zip hab).1).imp id fun h => ⟨h, PySem.W.cellsFrom_some _ _ _ (.inl h)⟩
  refine wpAny_newFunctionEnv_cells sc.kind names fun env2 e2 t2 inc => ?_
  subst e2
  refine ⟨(env.mod.nolimit.keeps fun b o e => (env.bs b o e).1).keeps inc.toInCall.keep, codeAny_func ?_⟩
  have start := inv_start (CX := C8.CX0) (E := T) sc room.hd env (few want) vals inc
  refine wpAny_mono (hrd.nox.run [] t2 (L2.start N xs) H _ start hbody) (fun ended t3 left => ?_) fun _ _ left => left
  cases ended with
  | brk => obtain ⟨_, _, _, no⟩ := left; exact no.elim
  | cont => obtain ⟨_, _, _, no⟩ := left; exact no.elim
  | next =>
    obtain ⟨σ2, H2, J, got⟩ := left
    exact ⟨V.non, H2, J.os, J.bare, J.base, J.hok, rfl, got⟩
  | ret u =>
    obtain ⟨v, σ2, H2, J, is, got⟩ := left
    exact ⟨v, H2, J.os, J.bare, J.base, J.hok, is, got⟩
end
section
variable {X : Cx}
theorem pe_cG {n m : Nat} {z : Str} {sp : Sp} {e : Expr} {es : List Expr} {rd : TA} {p pos : Pos} (c : CalG X.prog X.w X.K X.mg X.base n z sp) (gd : X.A.guards = some []) (room : Room m X.A) (le : n ≤ m) (gl : Gl X z) (args : PA X (e :: es) rd)
    (nd : (z == ("__debug__" : Str)) = false) (st : starEach (e :: es) X.env = (false, eval e X.env) :: starEach es X.env) (pl : (backTo pos (starEach es X.env)).any (·.1) = false) :
    PE X (.Call (.Name z p) (e :: es) [] pos) (fun σ H R => rd σ H fun xs H1 => sp xs H1 R C8.E0) := by
  obtain ⟨fa, fd, qs, F, at_, keep, bd⟩ := c.is
  refine ⟨fun pins s σ H R I want => wpAny_Call_Name_kw (ld_glob I gl at_ (PySem.W.callWith_K (h₀ := X.base) I.ok.mod.kin keep (thn (args.run pos pins s σ H _ I want) fun ys s1 ⟨xs, H1, I1, vals, got⟩ => ⟨I1.kIn, ?_⟩) st pl) nd)⟩
  have hl : ys.length = qs.length := by rw [← vals.length]; exact F.few got
  have bd1 := bd s1 ys I1.kIn (by rw [List.append_nil]; exact hl)
  rw [List.append_nil] at bd1
  refine wpAny_call (codeAny_mono (F.go gd (room.mono le) I1.env0 bd1 vals got) fun res s2 left => ?_)
  match res, left with
  | .ok (.ret _), left => exact I1.after left
  | .ok .next, left => exact left.elim
  | .ok .brk, left => exact left.elim
  | .ok .cont, left => exact left.elim
  | .error _, left => exact left.elim
end
/-! the law itself -/
section
variable {P : Program} {w : World} {K : PySem.W.Frag} {mg : Str → Option Value}
/-- where nothing but the script may be tracked -/
theorem top_go {mb : Str → Option Value} {n : Nat} {fa a : Addr} {fd : FuncData} {x : Str} {sp : Sp} {t : Shared} {us : List Value} {H : Hp} (KX : K.In t.heap) (glob : t.heap.Ns mainGlobals mg) (blt : t.heap.Ns builtinsNs mb) (bb : ∀ x : Str, x ≠ "__name__" → mb x = bootBuiltins x)
    (nl : t.heap.NoLimit) (ng : t.gens = #[]) (ha : t.heap.get? a = some { cls := .type "list", data := .seq us.toArray }) (room : Room n callerA) (F : ∀ base : Heap, K.In base → base.Ns mainGlobals mg → FnG P w K mg base n fa fd [x] sp)
    (bd : ∀ (s : Shared) (u : Value), BindsTo s fd ⟨[u], []⟩ [(x, u)]) (only : Only H) (hok : HOk P w H t.heap) (isa : ∀ b, H b ≠ none → b = a ∧ K.lookup a = none) (want : sp [.ref a] H (fun v _ => v = .bl true) fun _ _ _ => False) :
    codeAny (model P w) callerA (.call (.ref fa) ⟨[.ref a], []⟩) (fun r s' => r = .ok (.ret (.bool true)) ∧ OldK t.heap s'.heap ∧ s'.os = t.os ∧ AllBare s'.gens) t := by
  have hid : ∀ {b : Addr} {o : Obj}, t.heap.get? b = some o → b ≠ a → (hidT t.heap H).get? b = some o := fun e ne => hidT_get e (Decidable.byContradiction fun q => ne (isa _ q).1)
  have ns : ∀ {b : Addr} {m : Str → Option Value}, t.heap.Ns b m → (hidT t.heap H).Ns b m := fun {b m} ⟨o, es, ep, e, d, r⟩ => ⟨o, es, ep, hid e (fun q => by
    subst q; rw [ha] at e; cases e; exact absurd d (by simp)), d, r⟩
  have kin : K.In (hidT t.heap H) := fun b o e => hidT_get (KX b o e) (Decidable.byContradiction fun q => by
    obtain ⟨rfl, no⟩ := isa b q
    rw [no] at e; cases e)
  obtain ⟨mc, nl1, nl2⟩ := nl
  have env : Env0 P w K mg (hidT t.heap H) callerA [] t H :=
    { frames := rfl, mod := ⟨kin, ns glob, ⟨mb, ns blt, bb⟩, mc, ns nl1, nl2⟩, bs := fun b o e => of_hidT e, bsz := Nat.le_of_eq (hidT_size _ _), funs := trivial, frf := fun b hb => (nomatch (show b ∈ ([] : List Addr) from hb)), hok := hok, bare := .of_eq ng }
  refine codeAny_mono ((F _ kin (ns glob)).go (ys := [.ref a]) (xs := [.ref a]) rfl room env (bd t (.ref a)) (.cons rfl .nil) want) fun res t2 left => ?_
  match res, left with
  | .ok (.ret u), left =>
    obtain ⟨v, H2, os, bare, un, hok2, rv, e⟩ := left
    have e' : v = .bl true := e
    subst e'
    obtain rfl : u = Value.bool true := rv
    refine ⟨rfl, OldK.of_keep fun b o e => ?_, os, bare⟩
    rcases only b with z | ⟨ob, xs, z⟩
    · exact un.keep b o e z (fun m => nomatch (show b ∈ ([] : List Addr) from m)) (by simp)
    · obtain ⟨e1, _⟩ := hok b _ z
      obtain ⟨e2, _⟩ := hok2 b _ (un.frzs b ob _ z)
      rw [e] at e1; cases e1
      exact e2
  | .ok .next, left => exact left.elim
  | .ok .brk, left => exact left.elim
  | .ok .cont, left => exact left.elim
  | .error _, left => exact left.elim
/-- the script: one of the module's own, or tracked as what is handed in -/
theorem top_both {mb : Str → Option Value} {n : Nat} {fa a : Addr} {fd : FuncData} {x : Str} {sp : Sp} {t : Shared} {us : List Value} {ns : List Int} (KX : K.In t.heap) (glob : t.heap.Ns mainGlobals mg) (blt : t.heap.Ns builtinsNs mb) (bb : ∀ x : Str, x ≠ "__name__" → mb x = bootBuiltins x)
    (nl : t.heap.NoLimit) (ng : t.gens = #[]) (ha : t.heap.get? a = some { cls := .type "list", data := .seq us.toArray }) (are : IntsAre us ns) (few : ns.length ≤ sizeLine) (room : Room n callerA)
    (F : ∀ base : Heap, K.In base → base.Ns mainGlobals mg → FnG P w K mg base n fa fd [x] sp)
    (bd : ∀ (s : Shared) (u : Value), BindsTo s fd ⟨[u], []⟩ [(x, u)]) (want : ∀ H : Hp, Shr K H a (ns.map V.int) → sp [.ref a] H (fun v _ => v = .bl true) fun _ _ _ => False) :
    codeAny (model P w) callerA (.call (.ref fa) ⟨[.ref a], []⟩) (fun r s' => r = .ok (.ret (.bool true)) ∧ OldK t.heap s'.heap ∧ s'.os = t.os ∧ AllBare s'.gens) t := by
  have vals := vals_ints are
  rcases hk : K.lookup a with _ | o
  · let o : Obj := { cls := .type "list", data := .seq us.toArray }
    let H : Hp := fun b => if b = a then some (.frz o (.lst (ns.map V.int))) else none
    have h1 : H a = some (.frz o (.lst (ns.map V.int))) := if_pos rfl
    have h2 : ∀ {b}, b ≠ a → H b = none := fun q => if_neg q
    refine top_go (H := H) KX glob blt bb nl ng ha room F bd (fun b => ?_) (fun b u e => ?_) (fun b q => ?_) (want H (.inl ⟨o, h1⟩))
    · by_cases q : b = a
      · subst q; exact .inr ⟨_, _, h1⟩
      · exact .inl (h2 q)
    · by_cases q : b = a
      · subst q
        rw [h1] at e; cases e
        exact ⟨ha, by rw [List.length_map]; exact few, us, _, vals, ha⟩
      · rw [h2 q] at e; cases e
    · have q' : b = a := Decidable.byContradiction fun z => q (h2 z)
      exact ⟨q', hk⟩
  · have e := KX a o hk
    rw [ha] at e; cases e
    have sz : us.toArray.size ≤ sizeLine := by rw [List.size_toArray, are.length]; exact few
    refine top_go (H := fun _ => none) KX glob blt bb nl ng ha room F bd (fun _ => .inl rfl) (fun b u e => nomatch e) (fun b q => absurd rfl q) (want _ (.inr ⟨_, us.toArray, _, hk, rfl, rfl, rfl, sz, by simpa using vals⟩))
end
end GN
end

section
set_option linter.all false
set_option maxRecDepth 100000
set_option maxHeartbeats 4000000
namespace GN
open PySem PySem.Spec PyProof.Rows L2
/-- what a def promises -/
abbrev spF (K : PySem.W.Frag) (F : List D → Option (D × List (Option D))) (np : Nat) : Sp := fun vs H Q _ => ∃ (Z : Addr → Prop) (g : List Addr) (ds : List D) (r : D) (outs : List (Option D)), RelL K Z H ds vs g ∧ Ok Z H g ∧ ds.length = np ∧ F ds = some (r, outs) ∧
  ∀ v H1 Z1 f g1, Sp0 Z H g Z1 H1 (f ++ g1) → Ok Z1 H1 (f ++ g1) → Rel K Z1 H1 r v f → EnvRel K Z1 H1 outs (vs.map some) g1 → Q v H1
theorem spF_len {K : PySem.W.Frag} {F : List D → Option (D × List (Option D))} {np : Nat} {vs : List V} {H : Hp} {Q : VK} {E : XK} (h : spF K F np vs H Q E) : vs.length = np := by
  obtain ⟨Z, g, ds, r, outs, rl, _, e, _⟩ := h
  rw [← e]; exact rl.len
section
variable {X : Cx} {C : Cfg} {Γ : Al}
theorem OsE.len : ∀ {as : MOs} {es : List Expr} {ρ ρ' : Env} {ds : List D}, OsE X C Γ as es → evOs C as ρ = some (ds, ρ') → ds.length = es.length
  | _, _, ρ, ρ', ds, .nil, e => by simp [evOs] at e; obtain ⟨rfl, rfl⟩ := e; rfl
  | _, _, ρ, ρ', ds, .ow h hs, e => by
    simp only [evOs] at e
    obtain ⟨⟨d, ρ1⟩, e1, e2⟩ := Option.bind_eq_some_iff.mp e
    obtain ⟨⟨ds', ρ2⟩, e3, e4⟩ := Option.bind_eq_some_iff.mp e2
    cases e4
    simp [OsE.len hs e3]
  | _, _, ρ, ρ', ds, .pl h _ _ hs, e => by
    simp only [evOs] at e
    obtain ⟨d0, e0, e⟩ := Option.bind_eq_some_iff.mp e
    obtain ⟨⟨ds', ρ2⟩, e3, e4⟩ := Option.bind_eq_some_iff.mp e
    obtain ⟨d, e5, e6⟩ := Option.bind_eq_some_iff.mp e4
    cases e6
    simp [OsE.len hs e3]
  | _, _, ρ, ρ', ds, .fl h _ _ hs, e => by
    simp only [evOs] at e
    obtain ⟨d0, e0, e⟩ := Option.bind_eq_some_iff.mp e
    obtain ⟨⟨ds', ρ2⟩, e3, e4⟩ := Option.bind_eq_some_iff.mp e
    obtain ⟨d, e5, e6⟩ := Option.bind_eq_some_iff.mp e4
    cases e6
    simp [OsE.len hs e3]
  | _, _, ρ, ρ', ds, .ml h _ _ hs, e => by
    simp only [evOs] at e
    obtain ⟨d0, e0, e⟩ := Option.bind_eq_some_iff.mp e
    obtain ⟨⟨ds', ρ2⟩, e3, e4⟩ := Option.bind_eq_some_iff.mp e
    obtain ⟨d, e5, e6⟩ := Option.bind_eq_some_iff.mp e4
    cases e6
    simp [OsE.len hs e3]
theorem OsE.lates_free : ∀ {as : MOs} {es : List Expr}, OsE X C Γ as es → ∀ i ∈ lates as, freeB Γ i = true
  | _, _, .nil, i, m => nomatch m
  | _, _, .ow h hs, i, m => OsE.lates_free hs i (by simpa [lates] using m)
  | _, _, .pl h f _ hs, i, m => by
    rcases (by simpa [lates] using m) with rfl | m
    · exact f
    · exact OsE.lates_free hs i m
  | _, _, .fl h f _ hs, i, m => by
    rcases (by simpa [lates] using m) with rfl | m
    · exact f
    · exact OsE.lates_free hs i m
  | _, _, .ml h f _ hs, i, m => by
    rcases (by simpa [lates] using m) with rfl | m
    · exact f
    · exact OsE.lates_free hs i m
theorem OsE.nodup : ∀ {as : MOs} {es : List Expr}, OsE X C Γ as es → (lates as).Nodup
  | _, _, .nil => List.nodup_nil
  | _, _, .ow h hs => by have := OsE.nodup hs; simpa [lates] using this
  | _, _, .pl h f n hs => List.nodup_cons.mpr ⟨n, OsE.nodup hs⟩
  | _, _, .fl h f n hs => List.nodup_cons.mpr ⟨n, OsE.nodup hs⟩
  | _, _, .ml h f n hs => List.nodup_cons.mpr ⟨n, OsE.nodup hs⟩
theorem call_ok {f : Nat} {x : Str} {np k j : Nat} {as : MOs} {e : Expr} {es : List Expr} {p pos : Pos} (c : CalG X.prog X.w X.K X.mg X.base k x (spF X.K (C.call f) np)) (hgd : X.A.guards = some []) (hr : Room j X.A) (hk : k ≤ j) (hg : Gl X x)
    (h : OsE X C Γ as (e :: es)) (hn : (e :: es).all nstar = true) (hnp : (e :: es).length = np) (hdb : (x == ("__debug__" : Str)) = false) : Exp X Γ (ev C (.call f as)) (.Call (.Name x p) (e :: es) [] pos) := by
  have hn' := hn
  simp only [List.all_cons, Bool.and_eq_true] at hn'
  refine Exp.of (pv_plain (pe_cG c hgd hr hk hg (pa_of h.pes hn) hdb (star_of hn'.1 _ _) (star_any _ _ _ hn'.2)) fun _ => rfl) (fun _ _ _ e => nomatch e) fun σ H Q ⟨Z, g, ρ, d, ρ', S, e, q⟩ => ?_
  simp only [ev] at e
  obtain ⟨⟨ds, ρ1⟩, e1, e2⟩ := Option.bind_eq_some_iff.mp e
  obtain ⟨⟨r, outs⟩, e3, e4⟩ := Option.bind_eq_some_iff.mp e2
  cases e4
  refine os_ok h S e1 fun vs H1 Z1 f1 g1 s1 o1 r1 S1 => ?_
  obtain ⟨gc, gr, rl, E1, p1⟩ := lend_out h.nodup r1 S1.sta.env
  have o2 := o1.perm p1
  have o2' : Ok Z1 H1 (gr ++ gc) := o2.perm List.perm_append_comm
  show spF X.K (C.call f) np vs H1 Q C8.E0
  refine ⟨Z1, gc, ds, r, outs, rl, o2.left, (h.len e1).trans hnp, e3, fun v H2 Z2 f2 g2 s2 o3 rv Eo => ?_⟩
  obtain ⟨s3, o4⟩ := s2.part o2' o3
  have a3 : Agr Z1 H1 gr Z2 H2 := s2.agr o2'
  have E2 := EnvRel.agr _ _ _ E1 a3
  obtain ⟨gf, rest, E3, p3⟩ := lend_in h.nodup r1 Eo E2 fun i m => get_plis m
  have keep : ∀ i, freeB Γ i = false → get (lendBack as outs (emptyL as ρ1)) i = get ρ1 i := fun i hi => by
    have m : i ∉ lates as := fun m => by rw [h.lates_free i m] at hi; cases hi
    rw [get_lendBack m, get_emptyL m]
  have fr0 : ∀ {j' i : Nat} {k' : AK}, (j', i, k') ∈ Γ → freeB Γ i = false := fun {j' i k'} m => by
    cases q : freeB Γ i with
    | false => rfl
    | true => exact absurd rfl (freeB_ne q m)
  -- the state while the callee runs
  have S2 : Stb X.K Γ Z1 H1 (emptyL as ρ1) σ gr := ⟨⟨E1, o2.right, S1.sta.al⟩, fun j' i k' m => by
    obtain ⟨dc, t1, t2⟩ := S1.alv j' i k' m
    exact ⟨dc, by rw [get_emptyL fun m' => by have := h.lates_free i m'; rw [fr0 m] at this; cases this]; exact t1, t2⟩⟩
  have al : AlOk Γ σ H2 := S2.al_keep fun a hn hz _ _ => by
    refine s2.fr a hn fun m => ?_
    rcases hz with hz | hz
    · exact o2.nz a (by simp [m]) hz
    · exact (List.nodup_append.mp o2.nd).2.2 a m a hz rfl
  have P : (gr ++ (f2 ++ g2)).Perm (rest ++ (f2 ++ gf)) := by
    have q1 : (gr ++ (f2 ++ g2)).Perm ((f2 ++ g2) ++ gr) := List.perm_append_comm
    have q2 : (f2 ++ (g2 ++ gr)).Perm (f2 ++ (rest ++ gf)) := p3.append_left f2
    have q3 : (f2 ++ (rest ++ gf)).Perm (rest ++ (f2 ++ gf)) := by
      rw [← List.append_assoc, ← List.append_assoc]
      exact (List.perm_append_comm).append_right gf
    rw [List.append_assoc] at q1
    exact (q1.trans q2).trans q3
  have o5 := (o4.perm P)
  have s4 : Sp0 Z1 H1 (f1 ++ g1) Z2 H2 (f2 ++ gf) := Stp.drop ((s3.from_ ((List.perm_append_comm).trans p1.symm)).perm P)
  exact q v H2 Z2 f2 gf (s1.trans s4) o5.right rv ⟨⟨E3, o5.right.right, al⟩, fun j' i k' m => by
    obtain ⟨dc, t1, t2⟩ := S1.alv j' i k' m
    exact ⟨dc, by rw [keep i (fr0 m)]; exact t1, t2⟩⟩
end
end GN
end

section
set_option linter.all false
namespace GN
mutual
inductive MS where
  | asg (t : MT) (e : ME) | setI (p : MP) (k : ME) (e : ME)
  | app (p : MP) (e : ME) | ext (p : MP) (e : ME) | ins (p : MP) (k : ME) (e : ME)
  | expr (e : ME) | ife (c : ME) (a b : MSs) | for_ (t : MT) (it : MI) (b : MSs) | while_ (c : ME) (b : MSs)
  | ret (e : ME) | retN | brk | cont | pass | never
  | setD (i : Nat) (k : MA) (e : ME)   -- an item of a dict
  | setE (i : Nat) (k : ME) (e : ME)   -- .. at a key that is reckoned
  | ali (j i n : Nat)   -- name j stands for item n of the list at name i from here on
  | alk (j i : Nat) (s : List Nat)   -- .. for the item at key s of the dict at name i
  | sda (i : Nat) (k : MA) (j : Nat)   -- name i.setdefault(k, []).append(name j)
inductive MSs where | nil | cons (s : MS) (r : MSs)
end

inductive Fl where | nx (ρ : Env) | rt (d : D) (ρ : Env) | bk (ρ : Env) | ct (ρ : Env)
section
variable (C : Cfg)
def forLoop (t : MT) (b : Env → Option Fl) : List D → Env → Option Fl
  | [], ρ => some (.nx ρ)
  | x :: r, ρ => (bindT t x ρ).bind fun ρ1 => (b ρ1).bind fun f => match f with
    | .nx ρ2 => forLoop t b r ρ2
    | .ct ρ2 => forLoop t b r ρ2
    | .bk ρ2 => some (.nx ρ2)
    | .rt d ρ2 => some (.rt d ρ2)
def whileLoop (c : Env → Option (D × Env)) (b : Env → Option Fl) : Nat → Env → Option Fl
  | 0, _ => none
  | n + 1, ρ => (c ρ).bind fun q => (asB q.1).bind fun k => if k = true then (b q.2).bind fun f => match f with
      | .nx ρ2 => whileLoop c b n ρ2
      | .ct ρ2 => whileLoop c b n ρ2
      | .bk ρ2 => some (.nx ρ2)
      | .rt d ρ2 => some (.rt d ρ2)
    else some (.nx q.2)
def Fl.refill (l : List (Nat × D)) : Fl → Fl
  | .nx ρ => .nx (GN.refill ρ l)
  | f => f
mutual
def ex : MS → Env → Option Fl
  | .asg t e, ρ => (ev C e ρ).bind fun q => (bindT t q.1 q.2).bind fun ρ1 => some (.nx ρ1)
  | .setI p k e, ρ => (ev C e ρ).bind fun q => (getP C p q.2).bind fun _ => (ev C k q.2).bind fun s => (getP C p s.2).bind fun xs => match s.1 with
    | .int i => (ixAt xs.length i).bind fun j => (putP C p (xs.set j q.1) s.2).bind fun ρ1 => some (.nx ρ1)
    | _ => none
  | .setD i k e, ρ => (ev C e ρ).bind fun q => (evA C k q.2).bind fun kd => (kxOf kd).bind fun kx => match get q.2 i with
    | some (.dct .own ks xs) => if ks.Nodup ∧ xs.length < line then match kAt ks kx with
      | some n => some (.nx (put q.2 i (some (.dct .own ks (xs.set n q.1)))))
      | none => some (.nx (put q.2 i (some (.dct .own (ks ++ [.x kx]) (xs ++ [q.1])))))
      else none
    | _ => none
  | .setE i k e, ρ => (ev C e ρ).bind fun q => (get q.2 i).bind fun _ => (ev C k q.2).bind fun s => (kxOf s.1).bind fun kx => match get s.2 i with
    | some (.dct .own ks xs) => if ks.Nodup ∧ xs.length < line then match kAt ks kx with
      | some n => some (.nx (put s.2 i (some (.dct .own ks (xs.set n q.1)))))
      | none => some (.nx (put s.2 i (some (.dct .own (ks ++ [.x kx]) (xs ++ [q.1])))))
      else none
    | _ => none
  | .app p e, ρ => (getP C p ρ).bind fun _ => (ev C e ρ).bind fun q => (getP C p q.2).bind fun xs => if xs.length < line then (putP C p (xs ++ [q.1]) q.2).bind fun ρ1 => some (.nx ρ1) else none
  | .ext p e, ρ => (getP C p ρ).bind fun _ => (ev C e ρ).bind fun q => (getP C p q.2).bind fun xs => match q.1 with
    | .lst .own ys => if xs.length + ys.length ≤ line then (putP C p (xs ++ ys) q.2).bind fun ρ1 => some (.nx ρ1) else none
    | _ => none
  | .ins p k e, ρ => (getP C p ρ).bind fun _ => (ev C k ρ).bind fun s => (ev C e s.2).bind fun q => (getP C p q.2).bind fun xs => match s.1 with
    | .int i => if 0 ≤ i ∧ i < 9223372036854775808 ∧ xs.length < line then (putP C p (xs.take i.toNat ++ [q.1] ++ xs.drop i.toNat) q.2).bind fun ρ1 => some (.nx ρ1) else none
    | _ => none
  | .expr e, ρ => (ev C e ρ).bind fun q => some (.nx q.2)
  | .ife c a b, ρ => (ev C c ρ).bind fun q => (asB q.1).bind fun k => if k = true then exs a q.2 else exs b q.2
  | .for_ t it b, ρ => (evI C it ρ).bind fun s => (forLoop t (exs b) s.1 s.2.1).bind fun f => some (f.refill s.2.2)
  | .while_ c b, ρ => whileLoop (ev C c) (exs b) C.fuel ρ
  | .ret e, ρ => (ev C e ρ).bind fun q => some (.rt q.1 q.2)
  | .retN, ρ => some (.rt .non ρ)
  | .brk, ρ => some (.bk ρ)
  | .cont, ρ => some (.ct ρ)
  | .pass, ρ => some (.nx ρ)
  | .never, _ => none
  | .ali j i n, ρ => match get ρ i with
    | some (.lst o xs) => if o = .ext ∨ ¬ j < ρ.length then none else (xs[n]?).bind fun _ => some (.nx (put ρ j none))
    | _ => none
  | .alk j i s, ρ => match get ρ i with
    | some (.dct o ks xs) => if o = .ext ∨ ¬ j < ρ.length then none else ((kAt ks (.s s)).bind fun n => xs[n]?).bind fun _ => some (.nx (put ρ j none))
    | _ => none
  | .sda i k j, ρ => match get ρ i, evA C k ρ with
    | some (.dct .own ks xs), some kd => (kxOf kd).bind fun kx => (get ρ j).bind fun d => if d.plain = true ∧ ks.Nodup ∧ xs.length < line then match kAt ks kx with
      | some _ => (getP C (.s i k) ρ).bind fun ys => if ys.length < line then (putP C (.s i k) (ys ++ [d]) ρ).bind fun ρ1 => some (.nx ρ1) else none
      | none => some (.nx (put ρ i (some (.dct .own (ks ++ [.x kx]) (xs ++ [.lst .own [d]])))))
      else none
    | _, _ => none
def exs : MSs → Env → Option Fl
  | .nil, ρ => some (.nx ρ)
  | .cons s r, ρ => (ex s ρ).bind fun f => match f with
    | .nx ρ1 => exs r ρ1
    | f => some f
end
end
/-- a def: how many parameters, how many names, the parameters that are set anew, the body -/
structure Dm where
  np : Nat
  nn : Nat
  asg : List Nat
  body : MSs
def runD (C : Cfg) : Option Dm → List D → Option (D × List (Option D))
  | none, _ => none
  | some d, vs => if vs.length = d.np then (exs C d.body (vs.map some ++ List.replicate (d.nn - d.np) none)).bind fun f => match f with
      | .rt v ρ => if ρ.length = d.nn then some (v, (wipe ρ d.asg).take d.np) else none
      | .nx ρ => if ρ.length = d.nn then some (.non, (wipe ρ d.asg).take d.np) else none
      | _ => none
    else none
def cfg (ds : List Dm) (consts : List D) (fuel : Nat) : Nat → Cfg
  | 0 => ⟨fun _ _ => none, fun j => consts[j]?, fuel⟩
  | n + 1 => ⟨fun j vs => runD (cfg ds consts fuel n) ds[j]? vs, fun j => consts[j]?, fuel⟩
end GN
end

section
set_option linter.all false
set_option maxRecDepth 100000
set_option maxHeartbeats 4000000
namespace GN
open PySem PySem.Spec PyProof.Rows L2
/-- the names at Kp keep their values -/
def Kep (Kp : List Nat) (σ σ' : L2.St) : Prop := ∀ i ∈ Kp, σ'[i]? = σ[i]?
theorem Kep.refl {Kp : List Nat} {σ : L2.St} : Kep Kp σ σ := fun _ _ => rfl
theorem Kep.trans {Kp : List Nat} {σ σ1 σ2 : L2.St} (a : Kep Kp σ σ1) (b : Kep Kp σ1 σ2) : Kep Kp σ σ2 := fun i h => (b i h).trans (a i h)
/-- what is wanted of a statement that ends so -/
def Wish (K : PySem.W.Frag) (Γ : Al) (Kp : List Nat) (Z : Addr → Prop) (H : Hp) (g : List Addr) (σ : L2.St) (D : Ends) : Fl → Prop
  | .nx ρ' => ∀ σ' H1 Z1 g1, Sp0 Z H g Z1 H1 g1 → Stb K Γ Z1 H1 ρ' σ' g1 → Kep Kp σ σ' → D.nx σ' H1
  | .bk ρ' => ∀ σ' H1 Z1 g1, Sp0 Z H g Z1 H1 g1 → Stb K Γ Z1 H1 ρ' σ' g1 → Kep Kp σ σ' → D.bk σ' H1
  | .ct ρ' => ∀ σ' H1 Z1 g1, Sp0 Z H g Z1 H1 g1 → Stb K Γ Z1 H1 ρ' σ' g1 → Kep Kp σ σ' → D.ct σ' H1
  | .rt d ρ' => ∀ v σ' H1 Z1 f g1, Sp0 Z H g Z1 H1 (f ++ g1) → Ok Z1 H1 (f ++ g1) → Rel K Z1 H1 d v f → Stb K Γ Z1 H1 ρ' σ' g1 → Kep Kp σ σ' → D.rt v H1
theorem Wish.step {K : PySem.W.Frag} {Γ : Al} {Kp : List Nat} {Z Z1 : Addr → Prop} {H H1 : Hp} {g g1 : List Addr} {σ σ1 : L2.St} {D : Ends} {fl : Fl} (w : Wish K Γ Kp Z H g σ D fl) (s : Sp0 Z H g Z1 H1 g1) (k : Kep Kp σ σ1) : Wish K Γ Kp Z1 H1 g1 σ1 D fl := by
  cases fl with
  | nx ρ' => exact fun σ' H2 Z2 g2 s2 S k2 => w σ' H2 Z2 g2 (s.trans s2) S (k.trans k2)
  | bk ρ' => exact fun σ' H2 Z2 g2 s2 S k2 => w σ' H2 Z2 g2 (s.trans s2) S (k.trans k2)
  | ct ρ' => exact fun σ' H2 Z2 g2 s2 S k2 => w σ' H2 Z2 g2 (s.trans s2) S (k.trans k2)
  | rt d ρ' => exact fun v σ' H2 Z2 f g2 s2 o r S k2 => w v σ' H2 Z2 f g2 (s.trans s2) o r S (k.trans k2)
/-- the reading of a statement -/
def tS (K : PySem.W.Frag) (Γ : Al) (Kp : List Nat) (F : Env → Option Fl) : TS := fun D σ H => ∃ Z g ρ fl, Stb K Γ Z H ρ σ g ∧ F ρ = some fl ∧ Wish K Γ Kp Z H g σ D fl
section
variable {X : Cx} {C : Cfg} {Γ : Al} {Kp : List Nat}
theorem exs_nil : PSs X [] (tS X.K Γ Kp (exs C .nil)) := PSs.imp pss_nil fun D σ H ⟨Z, g, ρ, fl, S, e, w⟩ => by
  simp only [exs] at e
  cases e
  exact w σ H Z g Sp0.refl S Kep.refl
theorem exs_cons {s : MS} {r : MSs} {st : Stmt} {rest : List Stmt} (h : PS X st (tS X.K Γ Kp (ex C s))) (hr : PSs X rest (tS X.K Γ Kp (exs C r))) : PSs X (st :: rest) (tS X.K Γ Kp (exs C (.cons s r))) := PSs.imp (pss_cons h hr) fun D σ H ⟨Z, g, ρ, fl, S, e, w⟩ => by
  simp only [exs] at e
  obtain ⟨f1, e1, e2⟩ := Option.bind_eq_some_iff.mp e
  refine ⟨Z, g, ρ, f1, S, e1, ?_⟩
  cases f1 with
  | nx ρ1 => exact fun σ' H1 Z1 g1 s1 S1 k => ⟨Z1, g1, ρ1, fl, S1, e2, w.step s1 k⟩
  | bk ρ1 => cases e2; exact w
  | ct ρ1 => cases e2; exact w
  | rt d ρ1 => cases e2; exact w
theorem exs_doc {x : Str} {j pos pos'} {r : MSs} {rest : List Stmt} (hr : PSs X rest (tS X.K Γ Kp (exs C r))) : PSs X (.Expr (.Constant (.str x) j pos) pos' :: rest) (tS X.K Γ Kp (exs C r)) := PSs.imp (pss_cons ps_doc hr) fun D σ H h => h
theorem ife_ok {c : ME} {a b : MSs} {e : Expr} {p q : List Stmt} {pos : Pos} (hc : Exp X Γ (ev C c) e) (hn : notIf e = true) (ha : PSs X p (tS X.K Γ Kp (exs C a))) (hb : PSs X q (tS X.K Γ Kp (exs C b))) : PS X (.If e p q pos) (tS X.K Γ Kp (ex C (.ife c a b))) :=
  PS.imp (ps_if (hc.2.1 hn) ha hb) fun D σ H ⟨Z, g, ρ, fl, S, e, w⟩ => by
    simp only [ex] at e
    obtain ⟨⟨u, ρ1⟩, e1, e⟩ := Option.bind_eq_some_iff.mp e
    obtain ⟨k, e2, e3⟩ := Option.bind_eq_some_iff.mp e
    have := asB_of e2
    simp only at this e3
    subst this
    refine tM_of S e1 fun v H1 Z1 f g1 s1 o1 r1 S1 => ⟨k, r1.1, ?_⟩
    cases k with
    | true =>
      rw [if_pos rfl] at e3 ⊢
      exact ⟨Z1, g1, ρ1, fl, S1, e3, w.step (Stp.drop s1) Kep.refl⟩
    | false =>
      rw [if_neg Bool.false_ne_true] at e3 ⊢
      exact ⟨Z1, g1, ρ1, fl, S1, e3, w.step (Stp.drop s1) Kep.refl⟩
theorem ret_ok {a : ME} {e : Expr} {pos : Pos} (h : Exp X Γ (ev C a) e) : PS X (.Return (some e) pos) (tS X.K Γ Kp (ex C (.ret a))) := PS.imp (ps_ret h.1) fun D σ H ⟨Z, g, ρ, fl, S, e, w⟩ => by
  simp only [ex] at e
  obtain ⟨⟨u, ρ1⟩, e1, e2⟩ := Option.bind_eq_some_iff.mp e
  cases e2
  exact tM_of S e1 fun v H1 Z1 f g1 s1 o1 r1 S1 => w v σ H1 Z1 f g1 s1 o1 r1 S1 Kep.refl
theorem retN_ok {pos : Pos} : PS X (.Return none pos) (tS X.K Γ Kp (ex C .retN)) := PS.imp ps_retN fun D σ H ⟨Z, g, ρ, fl, S, e, w⟩ => by
  simp only [ex] at e
  cases e
  exact w .non σ H Z [] g Sp0.refl S.sta.ok ⟨rfl, rfl⟩ S Kep.refl
theorem brk_ok {pos : Pos} : PS X (.Break pos) (tS X.K Γ Kp (ex C .brk)) := PS.imp ps_break fun D σ H ⟨Z, g, ρ, fl, S, e, w⟩ => by
  simp only [ex] at e
  cases e
  exact w σ H Z g Sp0.refl S Kep.refl
theorem cont_ok {pos : Pos} : PS X (.Continue pos) (tS X.K Γ Kp (ex C .cont)) := PS.imp ps_continue fun D σ H ⟨Z, g, ρ, fl, S, e, w⟩ => by
  simp only [ex] at e
  cases e
  exact w σ H Z g Sp0.refl S Kep.refl
theorem pass_ok {pos : Pos} : PS X (.Pass pos) (tS X.K Γ Kp (ex C .pass)) := PS.imp ps_pass fun D σ H ⟨Z, g, ρ, fl, S, e, w⟩ => by
  simp only [ex] at e
  cases e
  exact w σ H Z g Sp0.refl S Kep.refl
theorem never_ok {st : Stmt} : PS X st (tS X.K Γ Kp (ex C .never)) := PS.imp ps_never fun D σ H ⟨Z, g, ρ, fl, S, e, w⟩ => by
  simp [ex] at e
def noLc : Expr → Bool
  | .ListComp .. => false
  | .SetComp .. => false
  | .DictComp .. => false
  | _ => true
theorem swaps_none {e : Expr} (h : noLc e = true) (t : Option Expr) (n : Nat) (env : PySem.Env) : swapsWith e t n env = pure false := by
  cases e <;> first | rfl | cases h
theorem expr_ok {a : ME} {e : Expr} {pos : Pos} (h : Exp X Γ (ev C a) e) (hl : noLc e = true) : PS X (.Expr e pos) (tS X.K Γ Kp (ex C (.expr a))) := PS.imp (ps_expr h.1 (swaps_none hl _ _ _)) fun D σ H ⟨Z, g, ρ, fl, S, e, w⟩ => by
  simp only [ex] at e
  obtain ⟨⟨u, ρ1⟩, e1, e2⟩ := Option.bind_eq_some_iff.mp e
  cases e2
  exact tM_of S e1 fun v H1 Z1 f g1 s1 o1 r1 S1 => w σ H1 Z1 g1 (Stp.drop s1) S1 Kep.refl
end
/-! ### names are set -/
theorem EnvRel.setv {K : PySem.W.Frag} {Z : Addr → Prop} {H : Hp} : ∀ {ρ : Env} {σ : L2.St} {g : List Addr} {i : Nat} {d : D} {v : V} {f : List Addr}, EnvRel K Z H ρ σ g → i < ρ.length → Rel K Z H d v f →
    ∃ g' rest, EnvRel K Z H (put ρ i (some d)) (σ.set i (some v)) g' ∧ (f ++ g).Perm (rest ++ g')
  | [], σ, g, i, d, v, f, _, h, _ => absurd h (Nat.not_lt_zero i)
  | none :: ρ, σ, g, 0, d, v, f, h, _, r => by
    obtain ⟨s', r', rfl, h⟩ := h
    exact ⟨f ++ g, [], ⟨v, r', f, g, rfl, rfl, r, h⟩, List.Perm.refl _⟩
  | none :: ρ, σ, g, i + 1, d, v, f, h, hi, r => by
    obtain ⟨s', r', rfl, h⟩ := h
    obtain ⟨g', rest, e1, e2⟩ := EnvRel.setv (i := i) h (by simpa using hi) r
    exact ⟨g', rest, ⟨s', r'.set i (some v), rfl, e1⟩, e2⟩
  | some e :: ρ, σ, g, 0, d, v, f, h, _, r => by
    obtain ⟨v0, r0, f0, g0, rfl, rfl, h1, h2⟩ := h
    refine ⟨f ++ g0, f0, ⟨v, r0, f, g0, rfl, rfl, r, h2⟩, ?_⟩
    rw [← List.append_assoc, ← List.append_assoc]
    exact (List.perm_append_comm).append_right g0
  | some e :: ρ, σ, g, i + 1, d, v, f, h, hi, r => by
    obtain ⟨v0, r0, f0, g0, rfl, rfl, h1, h2⟩ := h
    obtain ⟨g', rest, e1, e2⟩ := EnvRel.setv (i := i) h2 (by simpa using hi) r
    refine ⟨f0 ++ g', rest, ⟨v0, r0.set i (some v), f0, g', rfl, rfl, h1, e1⟩, ?_⟩
    have p1 : (f ++ (f0 ++ g0)).Perm (f0 ++ (f ++ g0)) := by
      rw [← List.append_assoc, ← List.append_assoc]
      exact (List.perm_append_comm).append_right g0
    have p2 : (f0 ++ (f ++ g0)).Perm (f0 ++ (rest ++ g')) := e2.append_left f0
    have p3 : (f0 ++ (rest ++ g')).Perm (rest ++ (f0 ++ g')) := by
      rw [← List.append_assoc, ← List.append_assoc]
      exact (List.perm_append_comm).append_right g'
    exact (p1.trans p2).trans p3
/-- a name that may be set: no name stands for it, and it stands for nothing -/
def setB (Γ : Al) (Kp : List Nat) (i : Nat) : Bool := (Γ.all fun q => q.1 != i && q.2.1 != i) && !Kp.contains i
section
variable {X : Cx} {C : Cfg} {Γ : Al} {Kp : List Nat}
theorem set_step {K : PySem.W.Frag} {Z : Addr → Prop} {H : Hp} {ρ : Env} {σ : L2.St} {f g : List Addr} {i : Nat} {d : D} {v : V} (hb : setB Γ Kp i = true) (S : Stb K Γ Z H ρ σ g) (ok : Ok Z H (f ++ g)) (r : Rel K Z H d v f) (hi : i < ρ.length) :
    ∃ g', Sp0 Z H (f ++ g) Z H g' ∧ Stb K Γ Z H (put ρ i (some d)) (σ.set i (some v)) g' ∧ Kep Kp σ (σ.set i (some v)) := by
  unfold setB at hb
  simp only [Bool.and_eq_true, List.all_eq_true, bne_iff_ne, Bool.not_eq_true', List.contains_eq_mem, decide_eq_false_iff_not] at hb
  obtain ⟨hΓ, hk⟩ := hb
  obtain ⟨g', rest, E, p⟩ := S.sta.env.setv hi r
  refine ⟨g', Stp.drop (Sp0.refl.perm p), ⟨⟨E, (ok.perm p).right, fun j i' k m => ?_⟩, fun j i' k m => ?_⟩, fun i' m => ?_⟩
  · obtain ⟨a, w, t1, t2, t3⟩ := S.sta.al j i' k m
    have q := hΓ _ m
    exact ⟨a, w, by rw [List.getElem?_set_ne (fun e => q.2 e.symm)]; exact t1, by rw [List.getElem?_set_ne (fun e => q.1 e.symm)]; exact t2, t3⟩
  · obtain ⟨dc, t1, t2⟩ := S.alv j i' k m
    have q := hΓ _ m
    exact ⟨dc, by rw [get_put_ne (fun e => q.2 e.symm)]; exact t1, t2⟩
  · rw [List.getElem?_set_ne]
    intro e; subst e; exact hk m
/-- the reading of a target -/
def gM (K : PySem.W.Frag) (Γ : Al) (Kp : List Nat) (B : D → Env → Option Env) : TG := fun v σ H Q => ∃ Z f g ρ d ρ', Stb K Γ Z H ρ σ g ∧ Ok Z H (f ++ g) ∧ Rel K Z H d v f ∧ B d ρ = some ρ' ∧
  ∀ σ' g1, Sp0 Z H (f ++ g) Z H g1 → Stb K Γ Z H ρ' σ' g1 → Kep Kp σ σ' → Q σ' H
def gMs (K : PySem.W.Frag) (Γ : Al) (Kp : List Nat) (B : List D → Env → Option Env) : TGs := fun vs σ H Q => ∃ Z f g ρ ds ρ', Stb K Γ Z H ρ σ g ∧ Ok Z H (f ++ g) ∧ RelL K Z H ds vs f ∧ B ds ρ = some ρ' ∧
  ∀ σ' g1, Sp0 Z H (f ++ g) Z H g1 → Stb K Γ Z H ρ' σ' g1 → Kep Kp σ σ' → Q σ' H
theorem PG.imp {e : Expr} {t t' : TG} (h : PG X e t) (i : ∀ v σ H Q, t' v σ H Q → t v σ H Q) : PG X e t' := ⟨fun p s σ H v u Q I r q => h.run p s σ H v u Q I r (i v σ H Q q)⟩
theorem PGs.imp {e : List Expr} {t t' : TGs} (h : PGs X e t) (i : ∀ v σ H Q, t' v σ H Q → t v σ H Q) : PGs X e t' := ⟨fun p s σ H v u Q I r q => h.run p s σ H v u Q I r (i v σ H Q q)⟩
theorem tv_ok {i : Nat} {x : Str} {pos : Pos} (hN : X.N.Nodup) (hi : X.N[i]? = some x) (hx : X.env.scope.names.lookup x = some .local) (hb : setB Γ Kp i = true) : PG X (.Name x pos) (gM X.K Γ Kp (bindT (.v i))) :=
  PG.imp (pg_name hN hi (.inl hx) (.inr hx)) fun v σ H Q ⟨Z, f, g, ρ, d, ρ', S, ok, r, e, q⟩ => by
    simp only [bindT] at e
    obtain ⟨hl, e⟩ := ite_some e
    cases e
    obtain ⟨g', s, S1, k⟩ := set_step hb S ok r hl
    exact q _ g' s S1 k
theorem tnil_ok : PGs X [] (gMs X.K Γ Kp (bindTs [])) := PGs.imp pgs_nil fun vs σ H Q ⟨Z, f, g, ρ, ds, ρ', S, ok, r, e, q⟩ => by
  cases ds with
  | nil =>
    simp only [bindTs] at e
    cases e
    obtain ⟨rfl, rfl⟩ := r
    exact ⟨rfl, q σ g Sp0.refl S Kep.refl⟩
  | cons d ds => simp [bindTs] at e
theorem tcons_ok {t : MT} {ts : List MT} {e : Expr} {es : List Expr} (h : PG X e (gM X.K Γ Kp (bindT t))) (hs : PGs X es (gMs X.K Γ Kp (bindTs ts))) (hst : (assignEach (e :: es) X.env).map (·.2) = assign e X.env :: (assignEach es X.env).map (·.2)) :
    PGs X (e :: es) (gMs X.K Γ Kp (bindTs (t :: ts))) := PGs.imp (pgs_cons h hs hst) fun vs σ H Q ⟨Z, f, g, ρ, ds, ρ', S, ok, r, e, q⟩ => by
  cases ds with
  | nil => simp [bindTs] at e
  | cons d ds =>
    simp only [bindTs] at e
    obtain ⟨ρ1, e1, e2⟩ := Option.bind_eq_some_iff.mp e
    obtain ⟨v, r', f1, f2, rfl, rfl, r1, r2⟩ := r
    have P : ((f1 ++ f2) ++ g).Perm (f2 ++ (f1 ++ g)) := by
      rw [← List.append_assoc]; exact (List.perm_append_comm).append_right g
    have ok1 : Ok Z H (f2 ++ (f1 ++ g)) := ok.perm P
    refine ⟨v, r', rfl, Z, f1, g, ρ, d, ρ1, S, ok1.right, r1, e1, fun σ1 g1 s1 S1 k1 => ?_⟩
    obtain ⟨s2, ok2⟩ := s1.part ok1 S1.sta.ok
    refine ⟨Z, f2, g1, ρ1, ds, ρ', S1, ok2, r2, e2, fun σ2 g2 s3 S2 k2 => ?_⟩
    exact q σ2 g2 ((s2.from_ P.symm).trans s3) S2 (k1.trans k2)
theorem ttup_ok {ts : List MT} {es : List Expr} {k n : Nat} {pos : Pos} (hc : X.calm = true) (hs : PGs X es (gMs X.K Γ Kp (bindTs ts))) (hn : (assignEach es X.env).length = n) (hl : ts.length = n) (hst : (assignEach es X.env).findIdx? (·.1) = none) :
    PG X (.Tuple es k pos) (gM X.K Γ Kp (bindT (.t ts))) := PG.imp (pg_tup hc hs hn hst) fun v σ H Q ⟨Z, f, g, ρ, d, ρ', S, ok, r, e, q⟩ => by
  have len : ∀ (ts : List MT) (ds : List D) (ρ ρ' : Env), bindTs ts ds ρ = some ρ' → ds.length = ts.length := fun ts => by
    induction ts with
    | nil => intro ds ρ ρ' e; cases ds with
      | nil => rfl
      | cons d ds => simp [bindTs] at e
    | cons t ts ih => intro ds ρ ρ' e; cases ds with
      | nil => simp [bindTs] at e
      | cons d ds =>
        simp only [bindTs] at e
        obtain ⟨ρ1, e1, e2⟩ := Option.bind_eq_some_iff.mp e
        simp [ih ds _ _ e2]
  cases d with
  | tup xs =>
    simp only [bindT] at e
    obtain ⟨a, vs, rfl, s, rl⟩ := r
    exact ⟨a, vs, rfl, s, by rw [rl.len, len _ _ _ _ e, hl], Z, f, g, ρ, xs, ρ', S, ok, rl, e, q⟩
  | _ => simp [bindT] at e
theorem asg_ok {t : MT} {a : ME} {tg e : Expr} {pos : Pos} (h : Exp X Γ (ev C a) e) (ht : PG X tg (gM X.K Γ Kp (bindT t))) (hs : swapsWithSole [tg] e pos.line X.env = pure false) (hw : swappedStores [tg] e X.env = pure none)
    (h1 : (assignEach [tg] X.env).map (·.2) = [assign tg X.env]) : PS X (.Assign [tg] e pos) (tS X.K Γ Kp (ex C (.asg t a))) := PS.imp (ps_asg h.1 ht hs hw h1) fun D σ H ⟨Z, g, ρ, fl, S, e, w⟩ => by
  simp only [ex] at e
  obtain ⟨⟨u, ρ1⟩, e1, e2⟩ := Option.bind_eq_some_iff.mp e
  obtain ⟨ρ2, e3, e4⟩ := Option.bind_eq_some_iff.mp e2
  cases e4
  refine tM_of S e1 fun v H1 Z1 f g1 s1 o1 r1 S1 => ⟨Z1, f, g1, ρ1, u, ρ2, S1, o1, r1, e3, fun σ' g2 s2 S2 k => ?_⟩
  exact w σ' H1 Z1 g2 (s1.trans s2) S2 k
end
end GN
end

section
set_option linter.all false
set_option maxRecDepth 100000
set_option maxHeartbeats 4000000
namespace GN
open PySem PySem.Spec PyProof.Rows L2
/-- what a walk gives: the items, while what it walks on stands -/
def SrcW (K : PySem.W.Frag) (Z1 : Addr → Prop) (H1 : Hp) (gs : List Addr) (xs : List D) (J : It) : Prop := ∃ G Y, Walk J xs.length G Y ∧ ∀ (Z : Addr → Prop) (H : Hp), Agr Z1 H1 gs Z H → (∀ b, Z b → H b ≠ none) →
  G H ∧ ∀ (i : Nat) (x : V) (H' : Hp) (d : D), xs[i]? = some d → Y i H x H' → ∃ Z', Fsh Z H Z' H' [] ∧ Rel K Z' H' d x []
/-- the slots to fill again; what is left over is let go -/
def RfR (K : PySem.W.Frag) (Z : Addr → Prop) (H : Hp) (σ : L2.St) : List (Nat × D) → List Addr → Prop
  | [], _ => True
  | (i, d) :: r, g => ∃ v f g', g.Perm (f ++ g') ∧ σ[i]? = some (some v) ∧ Rel K Z H d v f ∧ RfR K Z H σ r g'
section
variable {K : PySem.W.Frag} {Z Z1 : Addr → Prop} {H H1 : Hp}
theorem RfR.agr {σ σ' : L2.St} : ∀ {rf : List (Nat × D)} {gs : List Addr}, RfR K Z H σ rf gs → Agr Z H gs Z1 H1 → (∀ q ∈ rf, σ'[q.1]? = σ[q.1]?) → RfR K Z1 H1 σ' rf gs
  | [], _, _, _, _ => trivial
  | (i, d) :: r, gs, h, a, k => by
    obtain ⟨v, f, g', hp, h1, h2, h3⟩ := h
    exact ⟨v, f, g', hp, by rw [k (i, d) (by simp)]; exact h1, Rel.agr d v f h2 (a.sub fun b m => hp.mem_iff.mpr (by simp [m])), RfR.agr h3 (a.sub fun b m => hp.mem_iff.mpr (by simp [m])) fun q m => k q (by simp [m])⟩
theorem RfR.perm {σ : L2.St} : ∀ {rf : List (Nat × D)} {gs gs' : List Addr}, RfR K Z H σ rf gs → gs.Perm gs' → RfR K Z H σ rf gs'
  | [], _, _, _, _ => trivial
  | (i, d) :: r, gs, gs', h, p => by
    obtain ⟨v, f, g', hp, h⟩ := h
    exact ⟨v, f, g', p.symm.trans hp, h⟩
theorem RfR.app {σ : L2.St} : ∀ {r1 r2 : List (Nat × D)} {g1 g2 : List Addr}, RfR K Z H σ r1 g1 → RfR K Z H σ r2 g2 → RfR K Z H σ (r1 ++ r2) (g1 ++ g2)
  | [], [], _, _, _, _ => trivial
  | [], (i, d) :: r, g1, g2, _, h => by
    obtain ⟨v, f, g', hp, h1, h2, h3⟩ := h
    refine ⟨v, f, g1 ++ g', ?_, h1, h2, RfR.app (r1 := []) trivial h3⟩
    refine (hp.append_left g1).trans ?_
    rw [← List.append_assoc, ← List.append_assoc]
    exact (List.perm_append_comm).append_right g'
  | (i, d) :: r, r2, g1, g2, h, h' => by
    obtain ⟨v, f, g', hp, h1, h2, h3⟩ := h
    exact ⟨v, f, g' ++ g2, by rw [← List.append_assoc]; exact hp.append_right g2, h1, h2, RfR.app h3 h'⟩
theorem refill_ok {σ : L2.St} : ∀ {rf : List (Nat × D)} {gs g : List Addr} {ρ : Env}, RfR K Z H σ rf gs → EnvRel K Z H ρ σ g → ∃ g' rest, EnvRel K Z H (refill ρ rf) σ g' ∧ (gs ++ g).Perm (rest ++ g')
  | [], gs, g, ρ, _, E => ⟨g, gs, E, List.Perm.refl _⟩
  | (i, d) :: r, gs, g, ρ, h, E => by
    obtain ⟨v, f, g1, hp, h1, h2, h3⟩ := h
    have hi : i < ρ.length := by
      rw [← E.len]
      exact (List.getElem?_eq_some_iff.mp h1).1
    obtain ⟨g2, rest, E2, P⟩ := E.setv hi h2
    have hs : σ.set i (some v) = σ := by
      obtain ⟨hl, he⟩ := List.getElem?_eq_some_iff.mp h1
      rw [← he]; exact List.set_getElem_self hl
    rw [hs] at E2
    obtain ⟨g3, rest3, E3, P3⟩ := refill_ok (rf := r) h3 E2
    refine ⟨g3, rest ++ rest3, E3, ?_⟩
    have p1 : (gs ++ g).Perm (g1 ++ (f ++ g)) := by
      refine (hp.append_right g).trans ?_
      rw [← List.append_assoc]; exact (List.perm_append_comm).append_right g
    have p2 : (g1 ++ (f ++ g)).Perm (g1 ++ (rest ++ g2)) := P.append_left g1
    have p3 : (g1 ++ (rest ++ g2)).Perm (rest ++ (g1 ++ g2)) := by
      rw [← List.append_assoc, ← List.append_assoc]
      exact (List.perm_append_comm).append_right g2
    rw [List.append_assoc rest rest3 g3]
    exact ((p1.trans p2).trans p3).trans (P3.append_left rest)
theorem get_refill : ∀ {rf : List (Nat × D)} {ρ : Env} {i : Nat}, (∀ q ∈ rf, q.1 ≠ i) → GN.get (refill ρ rf) i = GN.get ρ i
  | [], _, _, _ => rfl
  | (j, d) :: r, ρ, i, h => by
    show GN.get (refill (put ρ j (some d)) r) i = _
    rw [get_refill (rf := r) fun q m => h q (by simp [m]), get_put_ne (h (j, d) (by simp))]
end
section
variable {X : Cx} {C : Cfg} {Γ : Al} {Kp : List Nat}
/-- a source of items -/
structure Src (X : Cx) (Γ : Al) (Tk : List Nat) (F : Env → Option Its) (tg e : Expr) : Prop where
  ex : ∃ wi, PI X tg e wi ∧ ∀ (σ : L2.St) (H : Hp) (R : It → Hp → Prop) (Z : Addr → Prop) (g : List Addr) (ρ : Env) (xs : List D) (ρ1 : Env) (rf : List (Nat × D)), Stb X.K Γ Z H ρ σ g → F ρ = some (xs, ρ1, rf) →
    ((∀ q ∈ rf, q.1 ∈ Tk) → ∀ J H1 Z1 gs g1, Sp0 Z H g Z1 H1 (gs ++ g1) → Ok Z1 H1 (gs ++ g1) → SrcW X.K Z1 H1 gs xs J → RfR X.K Z1 H1 σ rf gs → Stb X.K Γ Z1 H1 ρ1 σ g1 → R J H1) → wi σ H R
theorem for_ok {Tk : List Nat} {t : MT} {it : MI} {b : MSs} {tg e : Expr} {body : List Stmt} {pos : Pos} (hp : PassesOwn (model X.prog X.w) X.A X.env X.xe) (hc : X.calm = true) (hs : Src X Γ Tk (evI C it) tg e) (hT : ∀ i ∈ Tk, freeB Γ i = true)
    (ht : PG X tg (gM X.K Γ (Tk ++ Kp) (bindT t))) (hb : PSs X body (tS X.K Γ (Tk ++ Kp) (exs C b))) (hfs : ∀ x, foldedSetIterable e X.env x = pure x) : PS X (.For tg e body [] pos) (tS X.K Γ Kp (ex C (.for_ t it b))) := by
  obtain ⟨wi, hi, hw⟩ := hs.ex
  refine PS.imp (ps_for hp hc hi ht hb hfs) fun D σ H ⟨Z, g, ρ, fl, S, e, w⟩ => ?_
  simp only [ex] at e
  obtain ⟨⟨xs, ρ1, rf⟩, e1, e2⟩ := Option.bind_eq_some_iff.mp e
  obtain ⟨f0, e3, e4⟩ := Option.bind_eq_some_iff.mp e2
  cases e4
  refine hw σ H _ Z g ρ xs ρ1 rf S e1 fun hrf J H1 Z1 gs g1 s1 o1 sw rr S1 => ?_
  obtain ⟨G, Y, W, hY⟩ := sw
  have done : ∀ ρ4, f0 = .nx ρ4 → ∀ σ4 H4 Z4 g4, Sp0 Z1 H1 g1 Z4 H4 g4 → Stb X.K Γ Z4 H4 ρ4 σ4 g4 → Kep (Tk ++ Kp) σ σ4 → D.nx σ4 H4 := by
    intro ρ4 hf σ4 H4 Z4 g4 s4 S4 k4
    subst hf
    obtain ⟨s5, o5⟩ := s4.part o1 S4.sta.ok
    have rr' := rr.agr (σ' := σ4) (s4.agr o1) fun q m => k4 q.1 (List.mem_append.mpr (.inl (hrf q m)))
    obtain ⟨g', rest, E', P⟩ := refill_ok rr' S4.sta.env
    refine w σ4 H4 Z4 g' (Stp.drop (Sp0.perm (s1.trans s5) P)) ⟨⟨E', (o5.perm P).right, S4.sta.al⟩, fun j i' k m => ?_⟩ fun i m => k4 i (List.mem_append.mpr (.inr m))
    obtain ⟨dc, t1, t2⟩ := S4.alv j i' k m
    exact ⟨dc, by rw [get_refill fun q mq => freeB_ne (hT q.1 (hrf q mq)) m]; exact t1, t2⟩
  refine for_it W (fun k σ' H' => ∃ Z' g' ρ', Sp0 Z1 H1 g1 Z' H' g' ∧ Stb X.K Γ Z' H' ρ' σ' g' ∧ Kep (Tk ++ Kp) σ σ' ∧ forLoop t (exs C b) (xs.drop k) ρ' = some f0) ⟨Z1, g1, ρ1, Sp0.refl, S1, Kep.refl, by simpa using e3⟩
    (fun k σ' H' _ ⟨Z', g', ρ', s', S', _, _⟩ => (hY Z' H' (s'.agr o1) S'.sta.ok.zh).1) ?_ ?_
  · rintro k x σ' H' H'' hk ⟨Z', g', ρ', s', S', kp, ef⟩ y
    obtain ⟨Z2, F, R⟩ := (hY Z' H' (s'.agr o1) S'.sta.ok.zh).2 k x H'' xs[k] (by simp [hk]) y
    have S2 := S'.fsh F
    obtain ⟨s2, o2⟩ := F.sp0 S'.sta.ok
    rw [List.drop_eq_getElem_cons hk] at ef
    simp only [forLoop] at ef
    obtain ⟨ρ2, b1, b2⟩ := Option.bind_eq_some_iff.mp ef
    obtain ⟨f1, b3, b4⟩ := Option.bind_eq_some_iff.mp b2
    refine ⟨Z2, [], g', ρ', xs[k], ρ2, S2, o2, R, b1, fun σ3 g3 s3 S3 k3 => ⟨Z2, g3, ρ2, f1, S3, b3, ?_⟩⟩
    have sA : Sp0 Z1 H1 g1 Z2 H'' g3 := (s'.trans s2).trans s3
    have kA := kp.trans k3
    cases f1 with
    | nx ρ4 => exact fun σ4 H4 Z4 g4 s4 S4 k4 => ⟨Z4, g4, ρ4, sA.trans s4, S4, kA.trans k4, b4⟩
    | ct ρ4 => exact fun σ4 H4 Z4 g4 s4 S4 k4 => ⟨Z4, g4, ρ4, sA.trans s4, S4, kA.trans k4, b4⟩
    | bk ρ4 =>
      simp only [Option.some.injEq] at b4
      exact fun σ4 H4 Z4 g4 s4 S4 k4 => done ρ4 b4.symm σ4 H4 Z4 g4 (sA.trans s4) S4 (kA.trans k4)
    | rt d ρ4 =>
      simp only [Option.some.injEq] at b4
      subst b4
      refine fun v σ4 H4 Z4 f g4 s4 o4 r4 S4 k4 => w v σ4 H4 Z4 f g4 ?_ o4 r4 S4 fun i m => (kA.trans k4) i (List.mem_append.mpr (.inr m))
      obtain ⟨s5, o5⟩ := Sp0.part (sA.trans s4) o1 o4
      exact Stp.drop (s1.trans s5)
  · rintro σ' H' ⟨Z', g', ρ', s', S', kp, ef⟩
    rw [List.drop_length] at ef
    simp only [forLoop, Option.some.injEq] at ef
    exact done ρ' ef.symm σ' H' Z' g' s' S' kp
theorem while_ok {c : ME} {b : MSs} {e : Expr} {body : List Stmt} {pos : Pos} (hp : PassesOwn (model X.prog X.w) X.A X.env X.xe) (hc : Exp X Γ (ev C c) e) (hn : notIf e = true) (hb : PSs X body (tS X.K Γ Kp (exs C b))) :
    PS X (.While e body [] pos) (tS X.K Γ Kp (ex C (.while_ c b))) := PS.imp (ps_while hp (hc.2.1 hn) hb) fun D σ H ⟨Z, g, ρ, fl, S, e, w⟩ => by
  simp only [ex] at e
  refine ⟨fun m σ' H' => ∃ Z' g' ρ', Sp0 Z H g Z' H' g' ∧ Stb X.K Γ Z' H' ρ' σ' g' ∧ Kep Kp σ σ' ∧ whileLoop (ev C c) (exs C b) m ρ' = some fl, ⟨C.fuel, Z, g, ρ, Sp0.refl, S, Kep.refl, e⟩, ?_⟩
  rintro m σ' H' ⟨Z', g', ρ', s', S', kp, ef⟩
  cases m with
  | zero => simp [whileLoop] at ef
  | succ m =>
    simp only [whileLoop] at ef
    obtain ⟨⟨u, ρ1⟩, e1, ef⟩ := Option.bind_eq_some_iff.mp ef
    obtain ⟨k, e2, e3⟩ := Option.bind_eq_some_iff.mp ef
    have := asB_of e2
    simp only at this e3
    subst this
    refine tM_of S' e1 fun v H1 Z1 f g1 s1 o1 r1 S1 => ⟨k, r1.1, ?_⟩
    have sA : Sp0 Z H g Z1 H1 g1 := s'.trans (Stp.drop s1)
    cases k with
    | true =>
      rw [if_pos rfl] at e3
      dsimp only
      rw [if_pos rfl]
      obtain ⟨f1, b3, b4⟩ := Option.bind_eq_some_iff.mp e3
      refine ⟨_, fun σ2 H2 q => ⟨m, Nat.lt_succ_self m, q⟩, Z1, g1, ρ1, f1, S1, b3, ?_⟩
      cases f1 with
      | nx ρ4 => exact fun σ4 H4 Z4 g4 s4 S4 k4 => ⟨Z4, g4, ρ4, sA.trans s4, S4, kp.trans k4, b4⟩
      | ct ρ4 => exact fun σ4 H4 Z4 g4 s4 S4 k4 => ⟨Z4, g4, ρ4, sA.trans s4, S4, kp.trans k4, b4⟩
      | bk ρ4 =>
        simp only [Option.some.injEq] at b4
        subst b4
        exact fun σ4 H4 Z4 g4 s4 S4 k4 => w σ4 H4 Z4 g4 (sA.trans s4) S4 (kp.trans k4)
      | rt d ρ4 =>
        simp only [Option.some.injEq] at b4
        subst b4
        exact fun v σ4 H4 Z4 f g4 s4 o4 r4 S4 k4 => w v σ4 H4 Z4 f g4 (sA.trans s4) o4 r4 S4 (kp.trans k4)
    | false =>
      rw [if_neg Bool.false_ne_true] at e3
      dsimp only
      rw [if_neg Bool.false_ne_true]
      simp only [Option.some.injEq] at e3
      subst e3
      exact w σ' H1 Z1 g1 sA S1 kp
end
end GN
end

section
set_option linter.all false
set_option maxRecDepth 100000
set_option maxHeartbeats 4000000
namespace GN
open PySem PySem.Spec PyProof.Rows L2
def one (a c : Addr) : Nat := [a].count c
theorem cnt_cons {a c : Addr} {l : List Addr} : (a :: l).count c = one a c + l.count c := by
  unfold one
  rw [← List.count_append]; rfl
theorem perm_of {f g : List Addr} (h : ∀ c, f.count c = g.count c) : f.Perm g := List.perm_iff_count.mpr h
section
variable {K : PySem.W.Frag} {Γ : Al} {σ : L2.St} {Z : Addr → Prop} {H : Hp} {g : List Addr} {ρ : Env}
/-- an item of a list: taken out, another put in -/
theorem RelL.pick : ∀ {xs : List D} {vs : List V} {f : List Addr} {n : Nat} {d : D}, RelL K Z H xs vs f → xs[n]? = some d →
    ∃ w f1 f2, vs[n]? = some w ∧ Rel K Z H d w f1 ∧ f.Perm (f1 ++ f2) ∧
      ∀ f1', ∃ f', (f1' ++ f2).Perm f' ∧ ∀ Z1 H1 d' w', Agr Z H f2 Z1 H1 → Rel K Z1 H1 d' w' f1' → RelL K Z1 H1 (xs.set n d') (vs.set n w') f'
  | [], vs, f, n, d, r, e => by simp at e
  | x :: xs, vs, f, 0, d, r, e => by
    obtain ⟨v, r', g1, g2, rfl, rfl, h1, h2⟩ := r
    simp at e; subst e
    exact ⟨v, g1, g2, rfl, h1, List.Perm.refl _, fun f1' => ⟨f1' ++ g2, List.Perm.refl _, fun Z1 H1 d' w' ag rd => ⟨w', r', f1', g2, rfl, rfl, rd, RelL.agr _ _ _ h2 ag⟩⟩⟩
  | x :: xs, vs, f, n + 1, d, r, e => by
    obtain ⟨v, r', g1, g2, rfl, rfl, h1, h2⟩ := r
    obtain ⟨w, f1, f2, q1, q2, q3, q4⟩ := RelL.pick (n := n) h2 (by simpa using e)
    refine ⟨w, f1, g1 ++ f2, by simpa using q1, q2, perm_of fun c => ?_, fun f1' => ?_⟩
    · have := (List.perm_iff_count.mp q3) c
      simp only [List.count_append] at this ⊢; omega
    · obtain ⟨f', p1, q5⟩ := q4 f1'
      refine ⟨g1 ++ f', perm_of fun c => ?_, fun Z1 H1 d' w' ag rd => ⟨v, r'.set n w', g1, f', rfl, rfl, Rel.agr _ _ _ h1 (ag.sub fun b m => by simp [m]), q5 Z1 H1 d' w' (ag.sub fun b m => by simp [m]) rd⟩⟩
      have := (List.perm_iff_count.mp p1) c
      simp only [List.count_append] at this ⊢; omega
/-- where a place's list lies -/
def AtP (C : Cfg) (σ : L2.St) (H : Hp) (ρ : Env) (b : Addr) : MP → Prop
  | .v i => σ[i]? = some (some (.ref b))
  | .s i k => (∃ a vs j n, σ[i]? = some (some (.ref a)) ∧ H a = some (.lst vs) ∧ evA C k ρ = some (.int j) ∧ ixAt vs.length j = some n ∧ vs[n]? = some (.ref b)) ∨
    ∃ a kvs kd s, σ[i]? = some (some (.ref a)) ∧ H a = some (.dK kvs) ∧ evA C k ρ = some kd ∧ kxOf kd = some s ∧ valV kvs (kxK s) = some (.ref b)
theorem place {C : Cfg} {p : MP} {xs : List D} (E : EnvRel K Z H ρ σ g) (e : getP C p ρ = some xs) :
    ∃ b vs f rest, H b = some (.lst vs) ∧ RelL K Z H xs vs f ∧ g.Perm (b :: (f ++ rest)) ∧ AtP C σ H ρ b p ∧
      ∀ Z1 H1 ys ws f1 ρ', Agr Z H rest Z1 H1 → H1 b = some (.lst ws) → RelL K Z1 H1 ys ws f1 → putP C p ys ρ = some ρ' → ∃ g', EnvRel K Z1 H1 ρ' σ g' ∧ (b :: (f1 ++ rest)).Perm g' := by
  cases p with
  | v i =>
    simp only [getP] at e
    split at e
    · rename_i xs' hg
      cases e
      obtain ⟨v, fv, g', t1, t2, t3, t4⟩ := E.take hg
      obtain ⟨b, vs, f, rfl, h1, rfl, r⟩ := t2
      refine ⟨b, vs, f, g', h1, r, t4, t1, fun Z1 H1 ys ws f1 ρ' ag h2 r2 e2 => ?_⟩
      simp only [putP] at e2
      cases e2
      have E1 := EnvRel.agr _ _ _ t3 ag
      have r3 : Rel K Z1 H1 (.lst .own ys) (.ref b) (b :: f1) := ⟨b, ws, f1, rfl, h2, rfl, r2⟩
      obtain ⟨g2, E2, p2⟩ := E1.fill get_put_none t1 r3
      rw [put_put] at E2
      exact ⟨g2, E2, p2.symm⟩
    · cases e
  | s i k =>
    simp only [getP] at e
    split at e
    · rename_i xs0 j hg hk
      split at e
      · rename_i ys0 hat
        cases e
        obtain ⟨v, fv, g', t1, t2, t3, t4⟩ := E.take hg
        obtain ⟨a, vs0, f0, rfl, h1, rfl, r⟩ := t2
        unfold at_ at hat
        obtain ⟨n, hn, hx⟩ := Option.bind_eq_some_iff.mp hat
        obtain ⟨w, fb, f2, q1, q2, q3, q4⟩ := RelL.pick r hx
        obtain ⟨b, vs, f, rfl, h2, rfl, rb⟩ := q2
        refine ⟨b, vs, f, a :: (f2 ++ g'), h2, rb, perm_of fun c => ?_, (.inl ⟨a, vs0, j, n, t1, h1, hk, by rw [r.len]; exact hn, q1⟩), fun Z1 H1 ys ws f1 ρ' ag h3 r3 e2 => ?_⟩
        · have c1 := (List.perm_iff_count.mp t4) c
          have c2 := (List.perm_iff_count.mp q3) c
          simp only [List.count_append, cnt_cons, List.cons_append] at c1 c2 ⊢; omega
        · simp only [putP, hg, hk, hn, Option.map_some] at e2
          cases e2
          have E1 := EnvRel.agr _ _ _ t3 (ag.sub fun b m => by simp [m])
          have r4 : Rel K Z1 H1 (.lst .own ys) (.ref b) (b :: f1) := ⟨b, ws, f1, rfl, h3, rfl, r3⟩
          obtain ⟨f', p5, q5⟩ := q4 (b :: f1)
          have r5 := q5 Z1 H1 (.lst .own ys) (.ref b) (ag.sub fun b m => by simp [m]) r4
          have hset : vs0.set n (.ref b) = vs0 := by
            obtain ⟨hl, he⟩ := List.getElem?_eq_some_iff.mp q1
            rw [← he]; exact List.set_getElem_self hl
          rw [hset] at r5
          have h4 : H1 a = some (.lst vs0) := by rw [ag.at_ a (by simp)]; exact h1
          have r6 : Rel K Z1 H1 (.lst .own (xs0.set n (.lst .own ys))) (.ref a) (a :: f') := ⟨a, vs0, f', rfl, h4, rfl, r5⟩
          obtain ⟨g2, E2, p2⟩ := E1.fill get_put_none t1 r6
          rw [put_put] at E2
          refine ⟨g2, E2, perm_of fun c => ?_⟩
          have c1 := (List.perm_iff_count.mp p2) c
          have c2 := (List.perm_iff_count.mp p5) c
          simp only [List.count_append, cnt_cons, List.cons_append] at c1 c2 ⊢; omega
      · cases e
    · rename_i ks0 xs0 s0 hg hk
      split at e
      · rename_i ys0 hat
        cases e
        obtain ⟨v, fv, g', t1, t2, t3, t4⟩ := E.take hg
        obtain ⟨a, kvs, f0, rfl, h1, hky, rfl, r⟩ := t2
        obtain ⟨n, hn0, hx⟩ := Option.bind_eq_some_iff.mp hat
        obtain ⟨kx, hkx, hn⟩ := Option.bind_eq_some_iff.mp hn0
        obtain ⟨w0, w1, w2⟩ := kAt_val hky hn
        obtain ⟨w, fb, f2, q1, q2, q3, q4⟩ := RelL.pick r hx
        rw [w1] at q1; cases q1
        obtain ⟨b, vs, f, rfl, h2, rfl, rb⟩ := q2
        refine ⟨b, vs, f, a :: (f2 ++ g'), h2, rb, perm_of fun c => ?_, (.inr ⟨a, kvs, s0, kx, t1, h1, hk, hkx, w2⟩), fun Z1 H1 ys ws f1 ρ' ag h3 r3 e2 => ?_⟩
        · have c1 := (List.perm_iff_count.mp t4) c
          have c2 := (List.perm_iff_count.mp q3) c
          simp only [List.count_append, cnt_cons, List.cons_append] at c1 c2 ⊢; omega
        · simp only [putP, hg, hk, hn0, Option.map_some] at e2
          cases e2
          have E1 := EnvRel.agr _ _ _ t3 (ag.sub fun b m => by simp [m])
          have r4 : Rel K Z1 H1 (.lst .own ys) (.ref b) (b :: f1) := ⟨b, ws, f1, rfl, h3, rfl, r3⟩
          obtain ⟨f', p5, q5⟩ := q4 (b :: f1)
          have r5 := q5 Z1 H1 (.lst .own ys) (.ref b) (ag.sub fun b m => by simp [m]) r4
          have hset : (kvs.map (·.2)).set n (.ref b) = kvs.map (·.2) := by
            obtain ⟨hl, he⟩ := List.getElem?_eq_some_iff.mp w1
            rw [← he]; exact List.set_getElem_self hl
          rw [hset] at r5
          have h4 : H1 a = some (.dK kvs) := by rw [ag.at_ a (by simp)]; exact h1
          have r6 : Rel K Z1 H1 (.dct .own ks0 (xs0.set n (.lst .own ys))) (.ref a) (a :: f') := ⟨a, kvs, f', rfl, h4, hky, rfl, r5⟩
          obtain ⟨g2, E2, p2⟩ := E1.fill get_put_none t1 r6
          rw [put_put] at E2
          refine ⟨g2, E2, perm_of fun c => ?_⟩
          have c1 := (List.perm_iff_count.mp p2) c
          have c2 := (List.perm_iff_count.mp p5) c
          simp only [List.count_append, cnt_cons, List.cons_append] at c1 c2 ⊢; omega
      · cases e
    · cases e
end
end GN
end

section
set_option linter.all false
set_option maxRecDepth 100000
set_option maxHeartbeats 4000000
namespace GN
open PySem PySem.Spec PyProof.Rows L2
section
variable {K : PySem.W.Frag} {Γ : Al} {σ : L2.St} {Z Z1 : Addr → Prop} {H H1 : Hp} {g f : List Addr} {ρ ρ' : Env} {C : Cfg} {p : MP}
theorem AtP.uniq {b c : Addr} (h : AtP C σ H ρ b p) (q : AtP C σ H ρ c p) : b = c := by
  cases p with
  | v i =>
    have e := h.symm.trans q
    simpa using e
  | s i k =>
    rcases h with ⟨a, vs, j, n, h1, h2, h3, h4, h5⟩ | ⟨a, kvs, kd, s, h1, h2, h3, h5, h4⟩ <;> rcases q with ⟨a', vs', j', n', q1, q2, q3, q4, q5⟩ | ⟨a', kvs', kd', s', q1, q2, q3, q5, q4⟩
    · rw [h1] at q1; cases q1
      rw [h2] at q2; cases q2
      rw [h3] at q3; cases q3
      rw [h4] at q4; cases q4
      rw [h5] at q5; cases q5
      rfl
    · rw [h1] at q1; cases q1
      rw [h2] at q2; cases q2
    · rw [h1] at q1; cases q1
      rw [h2] at q2; cases q2
    · rw [h1] at q1; cases q1
      rw [h2] at q2; cases q2
      rw [h3] at q3; cases q3
      rw [h5] at q5; cases q5
      rw [h4] at q4; cases q4
      rfl
theorem AtP.fsh {b : Addr} (h : AtP C σ H ρ b p) (F : Fsh Z H Z1 H1 f) : AtP C σ H1 ρ b p := by
  cases p with
  | v i => exact h
  | s i k =>
    rcases h with ⟨a, vs, j, n, h1, h2, h3, h4, h5⟩ | ⟨a, kvs, kd, s, h1, h2, h3, h5, h4⟩
    · exact .inl ⟨a, vs, j, n, h1, by rw [F.fr a (by rw [h2]; simp)]; exact h2, h3, h4, h5⟩
    · exact .inr ⟨a, kvs, kd, s, h1, by rw [F.fr a (by rw [h2]; simp)]; exact h2, h3, h5, h4⟩
/-- other names' containers are not among what a name owns -/
theorem con_off {i i' : Nat} {dc : D} {fv g' : List Addr} {a' : Addr} (ok : Ok Z H g) (hg : GN.get ρ i' = some dc) (ho : Con dc) (hs : σ[i']? = some (some (.ref a'))) (hne : i' ≠ i) (t3 : EnvRel K Z H (put ρ i none) σ g') (t4 : g.Perm (fv ++ g')) : a' ∉ fv := fun m => by
  have nd := List.nodup_append.mp (ok.perm t4).nd
  have hg' : GN.get (put ρ i none) i' = some dc := by rw [get_put_ne (fun e => hne e.symm)]; exact hg
  obtain ⟨v', f', q1, q2, q3⟩ := t3.get hg'
  rw [hs] at q1; cases q1
  obtain ⟨a, ea, _, hz⟩ := ho.rel q2
  cases ea
  rcases hz with z | z
  · exact (ok.perm t4).nz a' (by simp [m]) z
  · exact nd.2.2 a' m a' (q3 a' z) rfl
/-- other names' lists are not at the place -/
theorem place_off {xs : List D} {b : Addr} {i' : Nat} {dc : D} {a' : Addr} (E : EnvRel K Z H ρ σ g) (ok : Ok Z H g) (e : getP C p ρ = some xs) (hb : AtP C σ H ρ b p) (hg : GN.get ρ i' = some dc) (ho : Con dc) (hs : σ[i']? = some (some (.ref a'))) (hi : ∀ i, p = .v i → i' ≠ i) : a' ≠ b := by
  have key : ∀ (i : Nat) (d : D) (v : V) (fv g' : List Addr), i' ≠ i → Rel K Z H d v fv → EnvRel K Z H (put ρ i none) σ g' → g.Perm (fv ++ g') → a' ∉ fv := fun i d v fv g' hne t2 t3 t4 => con_off ok hg ho hs hne t3 t4
  cases p with
  | v i =>
    simp only [getP] at e
    split at e
    · rename_i xs' hgi
      obtain ⟨v, fv, g', t1, t2, t3, t4⟩ := E.take hgi
      have hm : b ∈ fv := by
        obtain ⟨a, vs, f2, ea, _, rfl, _⟩ := t2
        subst ea
        have := hb.symm.trans t1
        simp at this; subst this; simp
      intro e'; subst e'
      exact key i _ v fv g' (hi i rfl) t2 t3 t4 hm
    · cases e
  | s i k =>
    simp only [getP] at e
    split at e
    · rename_i xs0 j hgi hk
      split at e
      · rename_i ys0 hat
        obtain ⟨v, fv, g', t1, t2, t3, t4⟩ := E.take hgi
        have nd := List.nodup_append.mp (ok.perm t4).nd
        have t2' := t2
        obtain ⟨a, vs0, f0, rfl, h1, rfl, r⟩ := t2
        unfold at_ at hat
        obtain ⟨n, hn, hx⟩ := Option.bind_eq_some_iff.mp hat
        obtain ⟨w, fb, f2, q1, q2, q3, q4⟩ := RelL.pick r hx
        obtain ⟨b', vs, f, rfl, h2, rfl, rb⟩ := q2
        have eb : b = b' := by
          rcases hb with ⟨a2, vs2, j2, n2, u1, u2, u3, u4, u5⟩ | ⟨a2, kvs2, kd2, s2, u1, u2, u3, u5, u4⟩
          · rw [t1] at u1; cases u1
            rw [h1] at u2; cases u2
            rw [hk] at u3; cases u3
            rw [r.len, hn] at u4; cases u4
            rw [q1] at u5; cases u5
            rfl
          · rw [t1] at u1; cases u1
            rw [h1] at u2; cases u2
        subst eb
        have hm : b ∈ f0 := q3.mem_iff.mpr (by simp)
        intro e'; subst e'
        by_cases hne : i' = i
        · subst hne
          rw [t1] at hs; cases hs
          exact (List.nodup_cons.mp nd.1).1 hm
        · exact key i _ _ _ g' hne t2' t3 t4 (by simp [hm])
      · cases e
    · rename_i ks0 xs0 s0 hgi hk
      split at e
      · rename_i ys0 hat
        obtain ⟨v, fv, g', t1, t2, t3, t4⟩ := E.take hgi
        have nd := List.nodup_append.mp (ok.perm t4).nd
        have t2' := t2
        obtain ⟨a, kvs, f0, rfl, h1, hky, rfl, r⟩ := t2
        obtain ⟨n, hn0, hx⟩ := Option.bind_eq_some_iff.mp hat
        obtain ⟨kx, hkx, hn⟩ := Option.bind_eq_some_iff.mp hn0
        obtain ⟨w0, w1, w2⟩ := kAt_val hky hn
        obtain ⟨w, fb, f2, q1, q2, q3, q4⟩ := RelL.pick r hx
        rw [w1] at q1; cases q1
        obtain ⟨b', vs, f, rfl, h2, rfl, rb⟩ := q2
        have eb : b = b' := by
          rcases hb with ⟨a2, vs2, j2, n2, u1, u2, u3, u4, u5⟩ | ⟨a2, kvs2, kd2, s2, u1, u2, u3, u5, u4⟩
          · rw [t1] at u1; cases u1
            rw [h1] at u2; cases u2
          · rw [t1] at u1; cases u1
            rw [h1] at u2; cases u2
            rw [hk] at u3; cases u3
            rw [hkx] at u5; cases u5
            rw [w2] at u4; cases u4
            rfl
        subst eb
        have hm : b ∈ f0 := q3.mem_iff.mpr (by simp)
        intro e'; subst e'
        by_cases hne : i' = i
        · subst hne
          rw [t1] at hs; cases hs
          exact (List.nodup_cons.mp nd.1).1 hm
        · exact key i _ _ _ g' hne t2' t3 t4 (by simp [hm])
      · cases e
    · cases e
/-- the list at a place is written -/
theorem place_set2 {xs ys : List D} {b : Addr} {fe : List Addr} (S : Stb K Γ Z H ρ σ g) (ok : Ok Z H (fe ++ g)) (e : getP C p ρ = some xs) (hb : AtP C σ H ρ b p) (e2 : putP C p ys ρ = some ρ') :
    ∃ vs f, H b = some (.lst vs) ∧ RelL K Z H xs vs f ∧ (∀ c ∈ f, c ∈ g ∧ c ≠ b) ∧ b ∈ g ∧
      ∀ ws f1 fo, (∀ H1 : Hp, (∀ c, c ≠ b → H1 c = H c) → RelL K Z H1 ys ws f1) → (fe ++ f).Perm (f1 ++ fo) → (∀ i, p = .v i → ∀ j' k', (j', i, k') ∈ Γ → ∃ n : Nat, k' = .i n ∧ ws[n]? = vs[n]?) →
        ∃ g', Sp0 Z H (fe ++ g) Z (upd H b (.lst ws)) (fo ++ g') ∧ Ok Z (upd H b (.lst ws)) (fo ++ g') ∧ Stb K Γ Z (upd H b (.lst ws)) ρ' σ g' := by
  obtain ⟨b', vs, f, rest, h1, r, hp, hat, fin⟩ := place S.sta.env e
  have eb := hb.uniq hat
  subst eb
  have okg := S.sta.ok.perm hp
  have nd := List.nodup_cons.mp okg.nd
  refine ⟨vs, f, h1, r, fun c m => ⟨hp.mem_iff.mpr (by simp [m]), fun e => nd.1 (by rw [← e]; simp [m])⟩, hp.mem_iff.mpr (by simp), fun ws f1 fo hr hperm hal => ?_⟩
  have off : ∀ c, c ≠ b → upd H b (.lst ws) c = H c := fun c h => upd_ne h
  have ag : Agr Z H rest Z (upd H b (.lst ws)) := ⟨fun _ z => z, fun c z _ => off c fun e => okg.nz b (by simp) (e ▸ z), fun c _ m => off c fun e => m (by rw [e, h1]; trivial), fun c m => off c fun e => nd.1 (by rw [← e]; simp [m])⟩
  obtain ⟨g', E', p'⟩ := fin Z (upd H b (.lst ws)) ys ws f1 ρ' ag upd_same (hr _ off) e2
  have P : (fe ++ g).Perm (fo ++ g') := perm_of fun c => by
    have c1 := (List.perm_iff_count.mp hp) c
    have c2 := (List.perm_iff_count.mp p') c
    have c3 := (List.perm_iff_count.mp hperm) c
    simp only [List.count_append, cnt_cons] at c1 c2 c3 ⊢; omega
  have ok1 := ok.perm P
  have okN : Ok Z (upd H b (.lst ws)) (fo ++ g') := ⟨ok1.nd, ok1.nz, fun a m => by
    by_cases h : a = b
    · subst h; rw [upd_same]; trivial
    · rw [off a h]; exact ok1.mu a m, fun c z => by
    by_cases h : c = b
    · subst h; rw [upd_same]; simp
    · rw [off c h]; exact ok1.zh c z⟩
  have hbg : b ∈ g := hp.mem_iff.mpr (by simp)
  refine ⟨g', ⟨fun _ z => z, fun _ z => .inl z, fun c _ m => off c fun e => m (by rw [e]; simp [hbg]), fun c m => .inl (P.mem_iff.mpr m), fun _ => al0⟩, okN, ⟨E', okN.right, fun j i' k m => ?_⟩, fun j i' k m => ?_⟩
  · obtain ⟨a', v, t1, t2, t3⟩ := S.sta.al j i' k m
    obtain ⟨dc, t4, t5⟩ := S.alv j i' k m
    by_cases hp' : p = .v i'
    · subst hp'
      have hb' : σ[i']? = some (some (.ref b)) := hb
      rw [t1] at hb'; cases hb'
      obtain ⟨n, rfl, hw⟩ := hal i' rfl j k m
      obtain ⟨us, q1, q2⟩ := t3
      rw [h1] at q1; cases q1
      exact ⟨b, v, t1, t2, ws, upd_same, by rw [hw]; exact q2⟩
    have hne : a' ≠ b := place_off S.sta.env S.sta.ok e hb t4 t5 t1 fun i hi => fun e' => hp' (by rw [hi, e'])
    refine ⟨a', v, t1, t2, ?_⟩
    cases k with
    | i n => obtain ⟨us, q1, q2⟩ := t3; exact ⟨us, by rw [off a' hne]; exact q1, q2⟩
    | s l => obtain ⟨us, q1, q2⟩ := t3; exact ⟨us, by rw [off a' hne]; exact q1, q2⟩
  · obtain ⟨dc, t4, t5⟩ := S.alv j i' k m
    cases p with
    | v i =>
      simp only [putP] at e2
      cases e2
      by_cases h : i = i'
      · subst h
        exact ⟨_, get_put_same (get_lt t4), by simp [Con]⟩
      · exact ⟨dc, by rw [get_put_ne h]; exact t4, t5⟩
    | s i kk =>
      simp only [putP] at e2
      split at e2
      · rename_i xs0 j0 hg0 hk0
        obtain ⟨n, hn, e3⟩ := Option.map_eq_some_iff.mp e2
        subst e3
        by_cases h : i = i'
        · subst h
          exact ⟨_, get_put_same (get_lt hg0), by simp [Con]⟩
        · exact ⟨dc, by rw [get_put_ne h]; exact t4, t5⟩
      · rename_i ks0 xs0 s0 hg0 hk0
        obtain ⟨n, hn, e3⟩ := Option.map_eq_some_iff.mp e2
        subst e3
        by_cases h : i = i'
        · subst h
          exact ⟨_, get_put_same (get_lt hg0), by simp [Con]⟩
        · exact ⟨dc, by rw [get_put_ne h]; exact t4, t5⟩
      · cases e2
theorem place_set {xs ys : List D} {b : Addr} {fe : List Addr} (S : Stb K Γ Z H ρ σ g) (ok : Ok Z H (fe ++ g)) (e : getP C p ρ = some xs) (hb : AtP C σ H ρ b p) (hfree : ∀ i, p = .v i → freeB Γ i = true) (e2 : putP C p ys ρ = some ρ') :
    ∃ vs f, H b = some (.lst vs) ∧ RelL K Z H xs vs f ∧ (∀ c ∈ f, c ∈ g ∧ c ≠ b) ∧ b ∈ g ∧
      ∀ ws f1 fo, (∀ H1 : Hp, (∀ c, c ≠ b → H1 c = H c) → RelL K Z H1 ys ws f1) → (fe ++ f).Perm (f1 ++ fo) →
        ∃ g', Sp0 Z H (fe ++ g) Z (upd H b (.lst ws)) (fo ++ g') ∧ Ok Z (upd H b (.lst ws)) (fo ++ g') ∧ Stb K Γ Z (upd H b (.lst ws)) ρ' σ g' := by
  obtain ⟨vs, f, h1, h2, h3, h4, h5⟩ := place_set2 S ok e hb e2
  exact ⟨vs, f, h1, h2, h3, h4, fun ws f1 fo a b => h5 ws f1 fo a b fun i hi j k m => absurd rfl (freeB_ne (hfree i hi) m)⟩
end
end GN
end

section
set_option linter.all false
set_option maxRecDepth 100000
set_option maxHeartbeats 4000000
namespace GN
open PySem PySem.Spec PyProof.Rows L2
section
variable {K : PySem.W.Frag} {Γ : Al} {Z Z1 : Addr → Prop} {H H1 : Hp} {g f : List Addr} {ρ ρ' : Env} {σ σ' : L2.St}
theorem put_none_self {i : Nat} (h : GN.get ρ i = none) : put ρ i none = ρ := by
  unfold put
  apply List.ext_getElem?
  intro j
  by_cases e : i = j
  · subst e
    unfold GN.get at h
    cases q : ρ[i]? with
    | none => rw [List.getElem?_eq_none (by simpa using q)]
    | some o =>
      have hl := (List.getElem?_eq_some_iff.mp q).1
      rw [List.getElem?_set_self hl]
      rw [q] at h
      cases o with
      | none => rfl
      | some d => cases h
  · rw [List.getElem?_set_ne e]
theorem EnvRel.drop1 {i : Nat} (E : EnvRel K Z H ρ σ g) : ∃ g' rest, EnvRel K Z H (put ρ i none) σ g' ∧ g.Perm (rest ++ g') := by
  cases h : GN.get ρ i with
  | some d => obtain ⟨v, f, g', _, _, e, p⟩ := E.take h; exact ⟨g', f, e, p⟩
  | none => rw [put_none_self h]; exact ⟨g, [], E, List.Perm.refl _⟩
theorem EnvRel.dropAll : ∀ {own : List Nat} {ρ : Env} {g : List Addr}, EnvRel K Z H ρ σ g → ∃ g' rest, EnvRel K Z H (GN.wipe ρ own) σ g' ∧ g.Perm (rest ++ g')
  | [], ρ, g, E => ⟨g, [], E, List.Perm.refl _⟩
  | i :: own, ρ, g, E => by
    obtain ⟨g1, r1, E1, p1⟩ := E.drop1 (i := i)
    obtain ⟨g2, r2, E2, p2⟩ := EnvRel.dropAll (own := own) E1
    refine ⟨g2, r1 ++ r2, E2, p1.trans ?_⟩
    rw [List.append_assoc]
    exact p2.append_left r1
theorem EnvRel.other : ∀ {ρ : Env} {σ σ' : L2.St} {g : List Addr}, EnvRel K Z H ρ σ g → σ'.length = σ.length → (∀ i, GN.get ρ i ≠ none → σ'[i]? = σ[i]?) → EnvRel K Z H ρ σ' g
  | [], σ, σ', g, h, hl, _ => by
    obtain ⟨rfl, rfl⟩ := h
    exact ⟨List.length_eq_zero_iff.mp hl, rfl⟩
  | none :: ρ, σ, σ', g, h, hl, hs => by
    obtain ⟨s, r, rfl, h⟩ := h
    cases σ' with
    | nil => simp at hl
    | cons s' r' => exact ⟨s', r', rfl, EnvRel.other h (by simpa using hl) fun i hi => by simpa using hs (i + 1) (by simpa [GN.get] using hi)⟩
  | some d :: ρ, σ, σ', g, h, hl, hs => by
    obtain ⟨v, r, f, g', rfl, rfl, h1, h2⟩ := h
    cases σ' with
    | nil => simp at hl
    | cons s' r' =>
      have e := hs 0 (by simp [GN.get])
      simp at e
      exact ⟨v, r', f, g', by rw [e], rfl, h1, EnvRel.other h2 (by simpa using hl) fun i hi => by simpa using hs (i + 1) (by simpa [GN.get] using hi)⟩
theorem wipe_len : ∀ {own : List Nat} {ρ : Env}, (GN.wipe ρ own).length = ρ.length
  | [], _ => rfl
  | i :: own, ρ => by show (GN.wipe (put ρ i none) own).length = _; rw [wipe_len (own := own)]; simp [put]
theorem get_wipe_in : ∀ {own : List Nat} {ρ : Env} {i : Nat}, i ∈ own → GN.get (GN.wipe ρ own) i = none
  | [], _, _, h => nomatch h
  | j :: own, ρ, i, h => by
    show GN.get (GN.wipe (put ρ j none) own) i = none
    by_cases m : i ∈ own
    · exact get_wipe_in m
    · have e : i = j := (List.mem_cons.mp h).resolve_right m
      subst e
      have : ∀ (own : List Nat) (ρ : Env), GN.get ρ i = none → GN.get (GN.wipe ρ own) i = none := fun own => by
        induction own with
        | nil => exact fun ρ h => h
        | cons k own ih =>
          intro ρ h
          refine ih _ ?_
          by_cases q : k = i
          · subst q; exact get_put_none
          · rw [get_put_ne q]; exact h
      exact this own _ get_put_none
theorem get_wipe_out : ∀ {own : List Nat} {ρ : Env} {i : Nat}, i ∉ own → GN.get (GN.wipe ρ own) i = GN.get ρ i
  | [], _, _, _ => rfl
  | j :: own, ρ, i, h => by
    show GN.get (GN.wipe (put ρ j none) own) i = _
    rw [get_wipe_out (own := own) fun m => h (by simp [m]), get_put_ne fun e => h (by simp [e])]
/-- the own names are forgotten, and their slots may be otherwise -/
theorem Stb.wipe {own : List Nat} (S : Stb K Γ Z H ρ σ g) (hΓ : ∀ q ∈ Γ, q.1 ∉ own ∧ q.2.1 ∉ own) (hl : σ'.length = σ.length) (hs : ∀ i, i ∉ own → σ'[i]? = σ[i]?) :
    ∃ g' rest, Stb K Γ Z H (GN.wipe ρ own) σ' g' ∧ g.Perm (rest ++ g') := by
  obtain ⟨g', rest, E, p⟩ := S.sta.env.dropAll (own := own)
  refine ⟨g', rest, ⟨⟨E.other hl fun i hi => hs i fun m => hi (get_wipe_in m), (S.sta.ok.perm p).right, fun j i k m => ?_⟩, fun j i k m => ?_⟩, p⟩
  · obtain ⟨a, v, e1, e2, it⟩ := S.sta.al j i k m
    have q := hΓ _ m
    exact ⟨a, v, by rw [hs i q.2]; exact e1, by rw [hs j q.1]; exact e2, it⟩
  · obtain ⟨dc, e1, e2⟩ := S.alv j i k m
    exact ⟨dc, by rw [get_wipe_out (hΓ _ m).2]; exact e1, e2⟩
theorem wipe_same {own : List Nat} (hl : σ'.length = σ.length) (hs : ∀ i, i ∉ own → σ'[i]? = σ[i]?) : L2.wipe σ' own = L2.wipe σ own := by
  have key : ∀ (own : List Nat) (σ : L2.St) (i : Nat), i ∈ own → (L2.wipe σ own)[i]? = if i < σ.length then some none else none := by
    intro own
    induction own with
    | nil => intro σ i h; cases h
    | cons j own ih =>
      intro σ i h
      unfold L2.wipe
      by_cases e : j = i
      · subst e
        by_cases q : j < σ.length
        · rw [if_pos q, List.getElem?_set_self (by rw [L2.wipe_length]; exact q)]
        · rw [if_neg q, List.getElem?_eq_none (by simp [L2.wipe_length]; omega)]
      · rw [List.getElem?_set_ne e]
        exact ih σ i ((List.mem_cons.mp h).resolve_left fun q => e q.symm)
  apply List.ext_getElem?
  intro i
  by_cases m : i ∈ own
  · rw [key own _ i m, key own _ i m, hl]
  · rw [L2.wipe_out m, L2.wipe_out m, hs i m]
end
section
variable {X : Cx} {C : Cfg} {Γ : Al} {Kp Tk : List Nat}
def others (n : Nat) (own : List Nat) : List Nat := (List.range n).filter fun i => !own.contains i
theorem others_mem {n i : Nat} {own : List Nat} (h : i < n) (m : i ∉ own) : i ∈ others n own := by
  unfold others
  simp [h, m]
theorem refill_state {K : PySem.W.Frag} {Z : Addr → Prop} {H : Hp} {σ : L2.St} {rf : List (Nat × D)} {gs g : List Addr} {ρ : Env} (rr : RfR K Z H σ rf gs) (S : Stb K Γ Z H ρ σ g) (ok : Ok Z H (gs ++ g)) (hT : ∀ q ∈ rf, freeB Γ q.1 = true) :
    ∃ g' rest, Stb K Γ Z H (refill ρ rf) σ g' ∧ (gs ++ g).Perm (rest ++ g') := by
  obtain ⟨g', rest, E', P⟩ := refill_ok rr S.sta.env
  refine ⟨g', rest, ⟨⟨E', (ok.perm P).right, S.sta.al⟩, fun j i' k m => ?_⟩, P⟩
  obtain ⟨dc, t1, t2⟩ := S.alv j i' k m
  exact ⟨dc, by rw [get_refill fun q mq => freeB_ne (hT q mq) m]; exact t1, t2⟩
mutual
theorem bindT_len : ∀ {t : MT} {x : D} {ρ ρ' : Env}, bindT t x ρ = some ρ' → ρ'.length = ρ.length
  | .v i, x, ρ, ρ', h => by
    simp only [bindT] at h
    obtain ⟨_, rfl⟩ := ite_some h
    simp [put]
  | .t ts, x, ρ, ρ', h => by
    cases x <;> simp only [bindT] at h <;> try (cases h; done)
    exact bindTs_len h
theorem bindTs_len : ∀ {ts : List MT} {xs : List D} {ρ ρ' : Env}, bindTs ts xs ρ = some ρ' → ρ'.length = ρ.length
  | [], xs, ρ, ρ', h => by
    cases xs <;> simp only [bindTs] at h
    · cases h; rfl
    · cases h
  | t :: ts, xs, ρ, ρ', h => by
    cases xs <;> simp only [bindTs] at h
    · cases h
    · obtain ⟨ρ1, h1, h2⟩ := Option.bind_eq_some_iff.mp h
      rw [bindTs_len h2, bindT_len h1]
end
theorem ite_some' {α : Type} {c : Prop} [Decidable c] {a : Option α} {b : α} (h : (if c then a else none) = some b) : c ∧ a = some b := by
  split at h
  · exact ⟨by assumption, h⟩
  · cases h
/-- a comprehension: its reading -/
theorem comp_read {own : List Nat} {t : MT} {it : MI} {c el : ME} {wi : TI} (hΓ : ∀ q ∈ Γ, q.1 ∉ own ∧ q.2.1 ∉ own) (hT : ∀ i ∈ Tk, freeB Γ i = true) 
    (hw : ∀ (σ : L2.St) (H : Hp) (R : It → Hp → Prop) (Z : Addr → Prop) (g : List Addr) (ρ : Env) (xs : List D) (ρ1 : Env) (rf : List (Nat × D)), Stb X.K Γ Z H ρ σ g → evI C it ρ = some (xs, ρ1, rf) →
      ((∀ q ∈ rf, q.1 ∈ Tk) → ∀ J H1 Z1 gs g1, Sp0 Z H g Z1 H1 (gs ++ g1) → Ok Z1 H1 (gs ++ g1) → SrcW X.K Z1 H1 gs xs J → RfR X.K Z1 H1 σ rf gs → Stb X.K Γ Z1 H1 ρ1 σ g1 → R J H1) → wi σ H R)
    {σ : L2.St} {H : Hp} {Q : VK} (q : tM X.K Γ (ev C (.comp own t it c el)) σ H Q) :
    tLc wi (gM X.K Γ (others σ.length own) (bindT t)) (tTest (tM X.K Γ (ev C c))) (tM X.K Γ (ev C el)) own σ H Q := by
  obtain ⟨Z, g, ρ, d, ρ', S, e, q⟩ := q
  simp only [ev] at e
  obtain ⟨⟨xs, ρ1, rf⟩, e1, e2⟩ := Option.bind_eq_some_iff.mp e
  obtain ⟨⟨res, ρe⟩, e3, e4⟩ := Option.bind_eq_some_iff.mp e2
  cases e4
  refine hw σ H _ Z g ρ xs ρ1 rf S e1 fun hrf J H1 Z1 gs g1 s1 o1 sw rr S1 => ?_
  obtain ⟨G, Y, W, hY⟩ := sw
  intro D hD
  -- the state at the first turn
  obtain ⟨gw, rest0, Sw, pw⟩ := S1.wipe hΓ (σ' := L2.wipe σ own) (L2.wipe_length _ _) fun i m => L2.wipe_out m
  have F0 : Fsh Z1 H1 Z1 (upd H1 D (.lst [])) [D] := Fsh.one o1.zh hD (.inr ⟨rfl, trivial⟩)
  obtain ⟨sD, oD⟩ := F0.sp0 (S1.sta.ok.perm pw).right
  have sD' : Sp0 Z1 H1 g1 Z1 (upd H1 D (.lst [])) ([D] ++ gw) := by
    have := (F0.sp0 S1.sta.ok).1
    refine this.sub fun b m => ?_
    rcases List.mem_append.mp m with m | m
    · exact List.mem_append.mpr (.inl m)
    · exact List.mem_append.mpr (.inr (pw.mem_iff.mpr (List.mem_append.mpr (.inr m))))
  refine lc_it W (fun k H' => ∃ Z' fa gw' ρ' acc vs, Sp0 Z1 H1 g1 Z' H' ((D :: fa) ++ gw') ∧ Ok Z' H' ((D :: fa) ++ gw') ∧ H' D = some (.lst vs) ∧ RelL X.K Z' H' acc vs fa ∧ Stb X.K Γ Z' H' ρ' (L2.wipe σ own) gw' ∧
      compLoop own (fun x ρ1 => (bindT t x ρ1).bind fun ρ2 => (ev C c ρ2).bind fun q => (asB q.1).bind fun k => if k = true then (ev C el q.2).bind fun r => some (some r.1, r.2) else some (none, q.2)) (xs.drop k) ρ' acc = some (res, ρe))
    ⟨Z1, [], gw, GN.wipe ρ1 own, [], [], sD', oD, upd_same, ⟨rfl, rfl⟩, Sw.fsh F0, by simpa using e3⟩
    (fun k H' _ ⟨Z', fa, gw', ρ', acc, vs, s', o', hl, ra, S', ec⟩ => (hY Z' H' (s'.agr o1) S'.sta.ok.zh).1) ?_ ?_
  · rintro k x H' H'' hk ⟨Z', fa, gw', ρ', acc, vs, s', o', hl, ra, S', ec⟩ y
    obtain ⟨Z2, F, R⟩ := (hY Z' H' (s'.agr o1) S'.sta.ok.zh).2 k x H'' xs[k] (by simp [hk]) y
    have S2 := S'.fsh F
    obtain ⟨s2, o2⟩ := F.sp0 o'
    have a2 : Agr Z' H' (D :: fa) Z2 H'' := F.agr fun b m => isM_ne (o'.mu b (by simp at m ⊢; rcases m with m | m <;> simp [m]))
    rw [List.drop_eq_getElem_cons hk] at ec
    simp only [compLoop] at ec
    obtain ⟨⟨od, ρt⟩, b0, ec⟩ := Option.bind_eq_some_iff.mp ec
    obtain ⟨ρ2, b1, b0⟩ := Option.bind_eq_some_iff.mp b0
    obtain ⟨⟨u, ρ3⟩, b2, b0⟩ := Option.bind_eq_some_iff.mp b0
    obtain ⟨kb, b3, b4⟩ := Option.bind_eq_some_iff.mp b0
    have := asB_of b3
    simp only at this b4
    subst this
    obtain ⟨sB, oB⟩ := F.sp0 S'.sta.ok
    refine ⟨Z2, [], gw', ρ', xs[k], ρ2, S2, oB, R, b1, fun σ3 g3 s3 S3 k3 => ?_⟩
    have hlen : σ3.length = (L2.wipe σ own).length := by
      rw [S3.sta.env.len, S2.sta.env.len]
      exact bindT_len b1
    have hout : ∀ i, i ∉ own → σ3[i]? = (L2.wipe σ own)[i]? := fun i m => by
      by_cases h : i < σ.length
      · exact k3 i (others_mem h m)
      · rw [List.getElem?_eq_none (by rw [hlen, L2.wipe_length]; omega), List.getElem?_eq_none (by rw [L2.wipe_length]; omega)]
    have hww : L2.wipe σ3 own = L2.wipe (L2.wipe σ own) own := wipe_same hlen hout
    refine ⟨hww.trans (wipe_same (L2.wipe_length _ _) fun i m => L2.wipe_out m), tM_of S3 b2 fun v H3 Z3 f3 g4 s4 o4 r4 S4 => ⟨kb, r4.1, ?_⟩⟩
    -- the step so far, beside the list that is made
    obtain ⟨sP, oP⟩ := Sp0.part s3 o2 S3.sta.ok
    obtain ⟨sQ, oQ⟩ := Sp0.part s4 oP o4
    have aQ := s4.agr oP
    have sA : Sp0 Z1 H1 g1 Z3 H3 ((D :: fa) ++ (f3 ++ g4)) := ((s'.trans s2).trans sP).trans sQ
    have aP : Agr Z2 H'' (D :: fa) Z2 H'' := ⟨fun _ z => z, fun _ _ _ => rfl, fun _ _ _ => rfl, fun _ _ => rfl⟩
    have hl3 : H3 D = some (.lst vs) := by rw [aQ.at_ D (by simp), a2.at_ D (by simp)]; exact hl
    have ra3 : RelL X.K Z3 H3 acc vs fa := RelL.agr _ _ _ (RelL.agr _ _ _ ra (a2.sub fun b m => by simp [m])) (aQ.sub fun b m => by simp [m])
    have hwl : (L2.wipe σ own).length = σ3.length := hlen.symm
    have hwo : ∀ i, i ∉ own → (L2.wipe σ own)[i]? = σ3[i]? := fun i m => (hout i m).symm
    cases kb with
    | false =>
      rw [if_neg Bool.false_ne_true] at b4 ⊢
      cases b4
      simp only at ec
      obtain ⟨g5, r5, S5, p5⟩ := S4.wipe hΓ hwl hwo
      have P : ((D :: fa) ++ (f3 ++ g4)).Perm ((f3 ++ r5) ++ ((D :: fa) ++ g5)) := perm_of fun c => by
        have c1 := (List.perm_iff_count.mp p5) c
        simp only [List.count_append] at c1 ⊢; omega
      exact ⟨Z3, fa, g5, _, acc, vs, Stp.drop (Sp0.perm sA P), (oQ.perm P).right, hl3, ra3, S5, ec⟩
    | true =>
      rw [if_pos rfl] at b4 ⊢
      obtain ⟨⟨dr, ρ4⟩, b5, b6⟩ := Option.bind_eq_some_iff.mp b4
      cases b6
      simp only at ec
      obtain ⟨hline, ec⟩ := ite_some' ec
      have oQ' : Ok Z3 H3 ((D :: fa) ++ g4) := by
        have P : ((D :: fa) ++ (f3 ++ g4)).Perm (f3 ++ ((D :: fa) ++ g4)) := perm_of fun c => by simp only [List.count_append]; omega
        exact (oQ.perm P).right
      have sA' : Sp0 Z1 H1 g1 Z3 H3 ((D :: fa) ++ g4) := sA.sub fun b m => by
        rcases List.mem_append.mp m with m | m
        · exact List.mem_append.mpr (.inl m)
        · exact List.mem_append.mpr (.inr (List.mem_append.mpr (.inr m)))
      refine tM_of S4 b5 fun w H4 Z4 f5 g5 s5 o5 r5 S5 => ?_
      obtain ⟨sR, oR⟩ := Sp0.part s5 oQ' o5
      have aR := s5.agr oQ'
      have hl4 : H4 D = some (.lst vs) := by rw [aR.at_ D (by simp)]; exact hl3
      have ra4 : RelL X.K Z4 H4 acc vs fa := RelL.agr _ _ _ ra3 (aR.sub fun b m => by simp [m])
      refine ⟨vs, hl4, by rw [ra4.len, ← line_eq]; exact hline, ?_⟩
      obtain ⟨g6, r6, S6, p6⟩ := S5.wipe hΓ hwl hwo
      -- the list grows
      have hnd := (List.nodup_append.mp oR.nd)
      have nz : ¬ Z4 D := oR.nz D (by simp)
      have hDf : ∀ b ∈ f5 ++ g5, b ≠ D := fun b m e => hnd.2.2 D (by simp) b m e.symm
      have hDa : ∀ b ∈ fa, b ≠ D := fun b m e => (List.nodup_cons.mp hnd.1).1 (e ▸ m)
      have off : ∀ b, b ≠ D → upd H4 D (.lst (vs ++ [w])) b = H4 b := fun b h => upd_ne h
      have ag : ∀ (l : List Addr), (∀ b ∈ l, b ≠ D) → Agr Z4 H4 l Z4 (upd H4 D (.lst (vs ++ [w]))) := fun l h =>
        ⟨fun _ z => z, fun b z _ => off b fun e => nz (e ▸ z), fun b _ m => off b fun e => m (by rw [e, hl4]; trivial), fun b m => off b (h b m)⟩
      have P : ((D :: fa) ++ (f5 ++ g5)).Perm (r6 ++ ((D :: (fa ++ f5)) ++ g6)) := perm_of fun c => by
        have c1 := (List.perm_iff_count.mp p6) c
        simp only [List.count_append, cnt_cons, List.cons_append] at c1 ⊢; omega
      have oP2 := (oR.perm P).right
      have oN : Ok Z4 (upd H4 D (.lst (vs ++ [w]))) ((D :: (fa ++ f5)) ++ g6) := ⟨oP2.nd, oP2.nz, fun b m => by
        by_cases h : b = D
        · subst h; rw [upd_same]; trivial
        · rw [off b h]; exact oP2.mu b m, fun b z => by
        by_cases h : b = D
        · subst h; rw [upd_same]; simp
        · rw [off b h]; exact oP2.zh b z⟩
      have sN : Sp0 Z4 H4 ((D :: fa) ++ (f5 ++ g5)) Z4 (upd H4 D (.lst (vs ++ [w]))) ((D :: (fa ++ f5)) ++ g6) :=
        Sp0.mk (fun _ z => z) (fun _ z => .inl z) (fun b _ m => off b fun e => m (by rw [e]; simp)) (fun b m => .inl (P.mem_iff.mpr (List.mem_append.mpr (.inr m))))
      have hg6 : ∀ b ∈ g6, b ≠ D := fun b m => hDf b (List.mem_append.mpr (.inr (p6.mem_iff.mpr (List.mem_append.mpr (.inr m)))))
      refine ⟨Z4, fa ++ f5, g6, _, acc ++ [dr], vs ++ [w], (sA'.trans sR).trans sN, oN, upd_same, RelL.app (RelL.agr _ _ _ ra4 (ag fa hDa)) ⟨w, [], f5, [], rfl, by simp, Rel.agr _ _ _ r5 (ag f5 fun b m => hDf b (by simp [m])), rfl, rfl⟩, ?_, ec⟩
      refine ⟨⟨EnvRel.agr _ _ _ S6.sta.env (ag g6 hg6), oN.right, ?_⟩, S6.alv⟩
      refine S6.al_keep fun a hn hz hm _ => off a fun e => ?_
      subst e
      rcases hz with hz | hz
      · exact nz hz
      · exact hg6 _ hz rfl
  · rintro H' ⟨Z', fa, gw', ρ', acc, vs, s', o', hl, ra, S', ec⟩
    rw [List.drop_length] at ec
    simp only [compLoop, Option.some.injEq, Prod.mk.injEq] at ec
    obtain ⟨rfl, rfl⟩ := ec
    obtain ⟨s5, o5⟩ := Sp0.part s' o1 o'
    have rr' := rr.agr (σ' := σ) (s'.agr o1) fun _ _ => rfl
    -- the own names stay forgotten
    have S6 : Stb X.K Γ Z' H' ρ' σ gw' := by
      refine ⟨⟨S'.sta.env.other (L2.wipe_length _ _).symm fun i hi => ?_, S'.sta.ok, fun j i k m => ?_⟩, S'.alv⟩
      · cases hgi : GN.get ρ' i with
        | none => exact absurd hgi hi
        | some dd =>
          obtain ⟨vv, ff, u1, _, _⟩ := S'.sta.env.get hgi
          rw [u1, (L2.wipe_some u1).1]
      · obtain ⟨a, v, u1, u2, u3⟩ := S'.sta.al j i k m
        rw [L2.wipe_out (hΓ _ m).2] at u1
        rw [L2.wipe_out (hΓ _ m).1] at u2
        exact ⟨a, v, u1, u2, u3⟩
    have P : (gs ++ ((D :: fa) ++ gw')).Perm ((D :: fa) ++ (gs ++ gw')) := perm_of fun c => by simp only [List.count_append]; omega
    have o6 := o5.perm P
    obtain ⟨g7, r7, S7, p7⟩ := refill_state rr' S6 o6.right fun q m => hT q.1 (hrf q m)
    have P2 : (gs ++ ((D :: fa) ++ gw')).Perm (r7 ++ ((D :: fa) ++ g7)) := perm_of fun c => by
      have c1 := (List.perm_iff_count.mp p7) c
      simp only [List.count_append] at c1 ⊢; omega
    exact q (.ref D) H' Z' (D :: fa) g7 (Stp.drop (Sp0.perm (s1.trans s5) P2)) (o5.perm P2).right ⟨D, vs, fa, rfl, hl, rfl, ra⟩ S7
end
end GN
end

section
set_option linter.all false
set_option maxRecDepth 100000
set_option maxHeartbeats 4000000
namespace GN
open PySem PySem.Spec PyProof.Rows L2
section
variable {K : PySem.W.Frag} {Z Z1 : Addr → Prop} {H H1 : Hp}
theorem rangeD_len : ∀ {n : Nat} {lo : Int}, (rangeD lo n).length = n
  | 0, _ => rfl
  | n + 1, lo => by simp [rangeD, rangeD_len (n := n)]
theorem rangeD_get : ∀ {n : Nat} {lo : Int} {i : Nat} {d : D}, (rangeD lo n)[i]? = some d → d = .int (lo + i)
  | 0, _, _, _, h => by simp [rangeD] at h
  | n + 1, lo, 0, d, h => by simp [rangeD] at h; rw [← h]; simp
  | n + 1, lo, i + 1, d, h => by
    have := rangeD_get (n := n) (lo := lo + 1) (i := i) (by simpa [rangeD] using h)
    rw [this]
    congr 1
    omega
theorem srcw_range {gs : List Addr} {lo : Int} {n : Nat} : SrcW K Z1 H1 gs (rangeD lo n) (Itr lo n) := by
  refine ⟨fun _ => True, YFn fun i => .int (lo + i), by rw [rangeD_len]; exact walk_range, fun Z H ag zh => ⟨trivial, fun i x H' d e y => ?_⟩⟩
  obtain ⟨rfl, rfl⟩ := y
  rw [rangeD_get e]
  exact ⟨Z, Fsh.refl zh, rfl, rfl⟩
theorem lst_sql {o : Ow} {xs : List D} {v : V} {f : List Addr} (r : Rel K Z1 H1 (.lst o xs) v f) : ∃ a vs, v = .ref a ∧ vs.length = xs.length ∧ ∀ Z H, Agr Z1 H1 f Z H → SqL K H a vs ∧ ∃ f', RelL K Z H xs vs f' := by
  cases o with
  | own =>
    obtain ⟨a, vs, f', e, s, rfl, r⟩ := r
    exact ⟨a, vs, e, r.len, fun Z H ag => ⟨SqL.of (by rw [ag.at_ a (by simp)]; exact s), f', RelL.agr _ _ _ r (ag.sub fun b m => by simp [m])⟩⟩
  | shr =>
    obtain ⟨a, vs, e, s, z, r, rfl⟩ := r
    exact ⟨a, vs, e, r.len, fun Z H ag => ⟨SqL.of (by rw [ag.fz a z (by rw [s]; simp)]; exact s), [], RelL.agr _ _ _ r ag⟩⟩
  | ext =>
    obtain ⟨a, vs, e, s, r, rfl⟩ := r
    exact ⟨a, vs, e, r.len, fun Z H ag => ⟨(ag.shr s).sqL, [], RelL.agr _ _ _ r ag⟩⟩
theorem plainL_get : ∀ {xs : List D} {i : Nat} {d : D}, D.plainL xs = true → xs[i]? = some d → d.plain = true
  | [], _, _, _, h => by simp at h
  | x :: xs, 0, d, p, h => by simp [D.plainL] at p; simp at h; rw [← h]; exact p.1
  | x :: xs, i + 1, d, p, h => by simp [D.plainL] at p; exact plainL_get (xs := xs) p.2 (by simpa using h)
theorem item_ok {xs : List D} {vs : List V} {f' : List Addr} {i : Nat} {d : D} {x : V} (zh : ∀ b, Z b → H b ≠ none) (r : RelL K Z H xs vs f') (p : D.plainL xs = true) (e : xs[i]? = some d) (y : vs[i]? = some x) : ∃ Z', Fsh Z H Z' H [] ∧ Rel K Z' H d x [] := by
  obtain ⟨v, f2, e1, e2, _⟩ := r.get e
  rw [y] at e1; cases e1
  have := Rel.plain d x f2 e2 (plainL_get p e)
  subst this
  exact ⟨Z, Fsh.refl zh, e2⟩
theorem srcw_list {o : Ow} {xs : List D} {v : V} {f : List Addr} (r : Rel K Z1 H1 (.lst o xs) v f) (p : D.plainL xs = true) (zh : ∀ b, Z1 b → H1 b ≠ none) : ∃ a, v = .ref a ∧ (∃ us, SqL K H1 a us) ∧ SrcW K Z1 H1 f xs (Itl K a) := by
  obtain ⟨a, vs, e, hl, h⟩ := lst_sql r
  have ag0 : Agr Z1 H1 f Z1 H1 := ⟨fun _ z => z, fun _ _ _ => rfl, fun _ _ _ => rfl, fun _ _ => rfl⟩
  refine ⟨a, e, ⟨vs, (h Z1 H1 ag0).1⟩, fun H => SqL K H a vs, YAt vs, by rw [← hl]; exact walk_list, fun Z H ag zh => ⟨(h Z H ag).1, fun i x H' d e y => ?_⟩⟩
  obtain ⟨rfl, y⟩ := y
  obtain ⟨f', r'⟩ := (h Z H' ag).2
  exact item_ok zh r' p e y
theorem srcw_tup {xs : List D} {v : V} {f : List Addr} (r : Rel K Z1 H1 (.tup xs) v f) (p : D.plainL xs = true) (zh : ∀ b, Z1 b → H1 b ≠ none) : ∃ a, v = .ref a ∧ (∃ us, SqT K H1 a us) ∧ SrcW K Z1 H1 f xs (Itt K a) := by
  obtain ⟨a, vs, e, s, r⟩ := r
  refine ⟨a, e, ⟨vs, s⟩, fun H => SqT K H a vs, YAt vs, by rw [← r.len]; exact walk_tup, fun Z H ag zh => ⟨ag.sqT s, fun i x H' d e y => ?_⟩⟩
  obtain ⟨rfl, y⟩ := y
  exact item_ok zh (RelL.agr _ _ _ r ag) p e y
theorem srcw_str {s : List Nat} {f : List Addr} : SrcW K Z1 H1 f (s.map fun c => .str [c]) (L2.Its (toS s)) := by
  refine ⟨fun _ => True, fun i H v H' => H' = H ∧ ∃ c, (toS s).cps[i]? = some c ∧ v = .str ⟨#[c]⟩, ?_, fun Z H ag zh => ⟨trivial, fun i x H' d e y => ?_⟩⟩
  · have : (s.map fun c => D.str [c]).length = (toS s).cps.size := by simp [toS]
    rw [this]; exact walk_str
  · obtain ⟨rfl, c, hc, rfl⟩ := y
    have hc' : s[i]? = some c := by simpa [toS] using hc
    rw [List.getElem?_map, hc'] at e
    simp at e; subst e
    exact ⟨Z, Fsh.refl zh, rfl, rfl⟩
end
section
variable {X : Cx} {C : Cfg} {Γ : Al} {Tk : List Nat}
theorem PI.or {tg e : Expr} {w w' : TI} (h : PI X tg e w) (h' : PI X tg e w') : PI X tg e (fun σ H R => w σ H R ∨ w' σ H R) := ⟨fun p s σ H R I q => q.elim (h.run p s σ H R I) (h'.run p s σ H R I)⟩
theorem own_ok {a : ME} {tg e : Expr} (h : Exp X Γ (ev C a) e) : Src X Γ Tk (evI C (.own a)) tg e := by
  refine ⟨_, PI.or (PI.or (pi_list h.1) (pi_tup h.1)) (pi_str h.1), fun σ H R Z g ρ xs ρ1 rf S e q => ?_⟩
  simp only [evI] at e
  obtain ⟨⟨d, ρ2⟩, e1, e2⟩ := Option.bind_eq_some_iff.mp e
  obtain ⟨ys, e3, e4⟩ := Option.bind_eq_some_iff.mp e2
  cases e4
  have q := q (fun q m => nomatch m)
  cases d with
  | lst o zs =>
    simp only [itemsOf] at e3
    obtain ⟨pl, e3⟩ := ite_some e3
    cases e3
    refine .inl (.inl (tM_of S e1 fun v H1 Z1 f g1 s1 o1 r1 S1 => ?_))
    obtain ⟨a, ea, es, sw⟩ := srcw_list r1 pl o1.zh
    exact ⟨a, ea, es, q _ H1 Z1 f g1 s1 o1 sw trivial S1⟩
  | tup zs =>
    simp only [itemsOf] at e3
    obtain ⟨pl, e3⟩ := ite_some e3
    cases e3
    refine .inl (.inr (tM_of S e1 fun v H1 Z1 f g1 s1 o1 r1 S1 => ?_))
    obtain ⟨a, ea, es, sw⟩ := srcw_tup r1 pl o1.zh
    exact ⟨a, ea, es, q _ H1 Z1 f g1 s1 o1 sw trivial S1⟩
  | str s =>
    simp only [itemsOf] at e3
    cases e3
    refine .inr (tM_of S e1 fun v H1 Z1 f g1 s1 o1 r1 S1 => ?_)
    exact ⟨toS s, r1.1, q _ H1 Z1 f g1 s1 o1 srcw_str trivial S1⟩
  | _ => simp [itemsOf] at e3
theorem take_ok {i : Nat} {x : Str} {pos : Pos} {tg : Expr} (hN : X.N[i]? = some x) (hv : visB X.env.scope x = true) (hn : nameB x = true) (hf : freeB Γ i = true) (hi : i ∈ Tk) : Src X Γ Tk (evI C (.take i)) tg (.Name x pos) := by
  refine ⟨_, pi_list (visName hN hv hn), fun σ H R Z g ρ xs ρ1 rf S e q => ?_⟩
  simp only [evI] at e
  split at e
  · rename_i o zs hg
    obtain ⟨pl, e⟩ := ite_some e
    cases e
    obtain ⟨v, f, g', t1, t2, t3, t4⟩ := S.sta.env.take hg
    have ok1 := S.sta.ok.perm t4
    obtain ⟨a, ea, es, sw⟩ := srcw_list t2 pl ok1.zh
    refine ⟨v, t1, a, ea, es, q (fun q m => by simp at m; subst m; exact hi) _ H Z f g' (Sp0.refl.perm t4) ok1 sw ⟨v, f, [], by simp, t1, t2, trivial⟩ ⟨⟨t3, ok1.right, S.sta.al⟩, fun j i' k m => ?_⟩⟩
    obtain ⟨dc, q1, q2⟩ := S.alv j i' k m
    exact ⟨dc, by rw [get_put_ne (freeB_ne hf m)]; exact q1, q2⟩
  · cases e
theorem rng1_ok {as : MOs} {a tg : Expr} {p pos : Pos} (hg : Gl X "range") (hm : X.mg "range" = none) (h : OsE X C Γ as [a]) (hn : nstar a = true) : Src X Γ Tk (evI C (.rng as)) tg (.Call (.Name "range" p) [a] [] pos) := by
  refine ⟨_, pi_range1 hg hm (pa_of h.pes (by simp [hn])) (star_of hn [] _), fun σ H R Z g ρ xs ρ1 rf S e q => ?_⟩
  simp only [evI] at e
  obtain ⟨⟨ds, ρ2⟩, e1, e2⟩ := Option.bind_eq_some_iff.mp e
  obtain ⟨ys, e3, e4⟩ := Option.bind_eq_some_iff.mp e2
  cases e4
  have hl := h.len e1
  have q := q (fun q m => nomatch m)
  refine os_ok h S e1 fun vs H1 Z1 f g1 s1 o1 r1 S1 => ?_
  have bl := r1.bor S1.sta.env
  match ds, hl with
  | [d], _ =>
    obtain ⟨v, vs', rfl, b1, rfl⟩ := bl
    cases d with
    | int j =>
      simp only [rngOf] at e3
      obtain ⟨hb, e3⟩ := ite_some e3
      cases e3
      exact ⟨j, by rw [b1.int], by omega, by omega, q _ H1 Z1 [] g1 (Stp.drop s1) o1.right srcw_range trivial S1⟩
    | _ => simp [rngOf] at e3
theorem rng2_ok {as : MOs} {a b tg : Expr} {p pos : Pos} (hg : Gl X "range") (hm : X.mg "range" = none) (h : OsE X C Γ as [a, b]) (hn : nstar a = true) (hn2 : nstar b = true) : Src X Γ Tk (evI C (.rng as)) tg (.Call (.Name "range" p) [a, b] [] pos) := by
  refine ⟨_, pi_range2 hg hm (pa_of h.pes (by simp [hn, hn2])) (by rw [star_of hn, star_of hn2]; rfl) (star_of hn2 [] _), fun σ H R Z g ρ xs ρ1 rf S e q => ?_⟩
  simp only [evI] at e
  obtain ⟨⟨ds, ρ2⟩, e1, e2⟩ := Option.bind_eq_some_iff.mp e
  obtain ⟨ys, e3, e4⟩ := Option.bind_eq_some_iff.mp e2
  cases e4
  have hl := h.len e1
  have q := q (fun q m => nomatch m)
  refine os_ok h S e1 fun vs H1 Z1 f g1 s1 o1 r1 S1 => ?_
  have bl := r1.bor S1.sta.env
  match ds, hl with
  | [d1, d2], _ =>
    obtain ⟨v, vs', rfl, b1, w, ws', rfl, b2, rfl⟩ := bl
    cases d1 <;> cases d2 <;> simp [rngOf] at e3
    case int.int i j _ _ =>
      obtain ⟨hb, e3⟩ := e3
      subst e3
      exact ⟨i, j, by rw [b1.int, b2.int], ⟨by omega, by omega, by omega, by omega⟩, q _ H1 Z1 [] g1 (Stp.drop s1) o1.right srcw_range trivial S1⟩
theorem rangeSize_nn {a b c : Int} (hc : c ≠ 0) : 0 ≤ Builtin.Range.rangeSize a b c := by
  unfold Builtin.Range.rangeSize
  split
  · split
    · have := Int.ediv_nonneg (show 0 ≤ b - a - 1 by omega) (show 0 ≤ c by omega)
      omega
    · omega
  · split
    · have := Int.ediv_nonneg (show 0 ≤ a - b - 1 by omega) (show 0 ≤ -c by omega)
      omega
    · omega
theorem rangeSize_le {a b c : Int} (hc : c ≠ 0) : Builtin.Range.rangeSize a b c ≤ (b - a).natAbs := by
  unfold Builtin.Range.rangeSize
  split
  · split
    · have := Int.ediv_le_self c (show 0 ≤ b - a - 1 by omega)
      omega
    · omega
  · split
    · have := Int.ediv_le_self (-c) (show 0 ≤ a - b - 1 by omega)
      omega
    · omega
theorem small_3 {a b c : Int} (ha : -(2 ^ 62) ≤ a) (ha' : a < 2 ^ 62) (hb : -(2 ^ 62) ≤ b) (hb' : b < 2 ^ 62) (hc : c ≠ 0) (h1 : c.natAbs < 1073741824) : Builtin.Range.small a b c = true := by
  have h2 := rangeSize_nn (a := a) (b := b) hc
  have h3 := rangeSize_le (a := a) (b := b) hc
  unfold Builtin.Range.small
  simp only [Builtin.Range.rangeFitsLong, Bool.and_eq_true, Bool.or_eq_true, decide_eq_true_eq, beq_iff_eq]
  generalize Builtin.Range.rangeSize a b c = n at h2 h3
  refine ⟨⟨⟨⟨?_, ?_⟩, ?_⟩, ?_⟩, .inr ?_⟩
  all_goals (try split) <;> (try simp only [Bool.and_eq_true, decide_eq_true_eq]) <;> omega
theorem rangeCD_len : ∀ {n : Nat} {lo c : Int}, (rangeCD lo c n).length = n
  | 0, _, _ => rfl
  | n + 1, lo, c => by simp [rangeCD, rangeCD_len (n := n)]
theorem rangeCD_get : ∀ {n : Nat} {lo c : Int} {i : Nat} {d : D}, (rangeCD lo c n)[i]? = some d → d = .int (lo + (i : Nat) * c)
  | 0, _, _, _, _, h => by simp [rangeCD] at h
  | n + 1, lo, c, 0, d, h => by simp [rangeCD] at h; rw [← h]; simp
  | n + 1, lo, c, i + 1, d, h => by
    have := rangeCD_get (n := n) (lo := lo + c) (c := c) (i := i) (by simpa [rangeCD] using h)
    rw [this]
    congr 1
    rw [Int.natCast_add, Int.add_mul]; simp; omega
theorem srcw_rangeC {K : PySem.W.Frag} {Z1 : Addr → Prop} {H1 : Hp} {gs : List Addr} {lo c : Int} {n : Nat} : SrcW K Z1 H1 gs (rangeCD lo c n) (Itc lo c n) := by
  refine ⟨fun _ => True, YFn fun i => .int (lo + (i : Nat) * c), by rw [rangeCD_len]; exact walk_rangeC, fun Z H ag zh => ⟨trivial, fun i x H' d e y => ?_⟩⟩
  obtain ⟨rfl, y⟩ := y
  rw [rangeCD_get e]
  exact ⟨Z, Fsh.refl zh, by rw [y], rfl⟩
theorem rng3_ok {as : MOs} {a b c tg : Expr} {p pos : Pos} (hg : Gl X "range") (hm : X.mg "range" = none) (h : OsE X C Γ as [a, b, c]) (hn : nstar a = true) (hn2 : nstar b = true) (hn3 : nstar c = true) : Src X Γ Tk (evI C (.rng as)) tg (.Call (.Name "range" p) [a, b, c] [] pos) := by
  refine ⟨_, pi_range3 hg hm (pa_of h.pes (by simp [hn, hn2, hn3])) (star_of hn [b, c] _) (star_any _ _ _ (by simp [hn2, hn3])), fun σ H R Z g ρ xs ρ1 rf S e q => ?_⟩
  simp only [evI] at e
  obtain ⟨⟨ds, ρ2⟩, e1, e2⟩ := Option.bind_eq_some_iff.mp e
  obtain ⟨ys, e3, e4⟩ := Option.bind_eq_some_iff.mp e2
  cases e4
  have hl := h.len e1
  have q := q (fun q m => nomatch m)
  refine os_ok h S e1 fun vs H1 Z1 f g1 s1 o1 r1 S1 => ?_
  have bl := r1.bor S1.sta.env
  match ds, hl with
  | [d1, d2, d3], _ =>
    obtain ⟨v, vs', rfl, b1, w, ws', rfl, b2, u, us', rfl, b3, rfl⟩ := bl
    cases d1 with
    | int i => cases d2 with
      | int j => cases d3 with
        | int k =>
          simp only [rngOf] at e3
          obtain ⟨⟨c1, c2, c3, c4, c5, c6⟩, e3⟩ := ite_some e3
          subst e3
          exact ⟨i, j, k, (Builtin.Range.rangeSize i j k).toNat, by rw [b1.int, b2.int, b3.int], ⟨c5, c6, small_3 (by omega) (by omega) (by omega) (by omega) c5 c6, by rw [Int.toNat_of_nonneg (rangeSize_nn c5)]⟩, q _ H1 Z1 [] g1 (Stp.drop s1) o1.right srcw_rangeC trivial S1⟩
        | _ => simp [rngOf] at e3
      | _ => simp [rngOf] at e3
    | _ => simp [rngOf] at e3
end
end GN
end

section
set_option linter.all false
set_option maxRecDepth 100000
set_option maxHeartbeats 4000000
namespace GN
open PySem PySem.Spec PyProof.Rows L2
section
variable {K : PySem.W.Frag} {Γ : Al} {σ : L2.St} {Z Z1 : Addr → Prop} {H H1 : Hp} {g f : List Addr} {ρ ρ' : Env} {C : Cfg} {p : MP}
theorem agr_off {b : Addr} {vs : List V} {f : List Addr} (hb : H b = some (.lst vs)) (nz : ¬ Z b) (hf : ∀ c ∈ f, c ≠ b) (off : ∀ c, c ≠ b → H1 c = H c) : Agr Z H f Z H1 :=
  ⟨fun _ z => z, fun c z _ => off c fun e => nz (e ▸ z), fun c _ m => off c fun e => m (by rw [e, hb]; trivial), fun c m => off c (hf c m)⟩
theorem app_core {xs : List D} {d : D} {v : V} {b : Addr} {Q : VK} (S : Stb K Γ Z H ρ σ g) (ok : Ok Z H (f ++ g)) (r : Rel K Z H d v f) (e : getP C p ρ = some xs) (hb : AtP C σ H ρ b p) (hfree : ∀ i, p = .v i → freeB Γ i = true)
    (e2 : putP C p (xs ++ [d]) ρ = some ρ') (hl : xs.length < line) (q : ∀ H1 g1, Sp0 Z H (f ++ g) Z H1 g1 → Stb K Γ Z H1 ρ' σ g1 → Q .non H1) : rAppend (.ref b) [v] H Q := by
  obtain ⟨vs, f0, h1, rl, hf, hbg, fin⟩ := place_set S ok e hb hfree e2
  have nd := List.nodup_append.mp ok.nd
  have nz : ¬ Z b := S.sta.ok.nz b hbg
  obtain ⟨g', s', o', S'⟩ := fin (vs ++ [v]) (f0 ++ f) [] (fun H1 off => RelL.app (RelL.agr _ _ _ rl (agr_off h1 nz (fun c m => (hf c m).2) off))
    ⟨v, [], f, [], rfl, by simp, Rel.agr _ _ _ r (agr_off h1 nz (fun c m e => nd.2.2 c m b hbg e) off), rfl, rfl⟩) (by rw [List.append_nil]; exact List.perm_append_comm)
  exact ⟨b, vs, v, rfl, rfl, h1, by rw [rl.len, ← line_eq]; exact hl, q _ g' s' S'⟩
theorem ext_core {xs ys : List D} {v : V} {b : Addr} {Q : VK} (S : Stb K Γ Z H ρ σ g) (ok : Ok Z H (f ++ g)) (r : Rel K Z H (.lst .own ys) v f) (e : getP C p ρ = some xs) (hb : AtP C σ H ρ b p) (hfree : ∀ i, p = .v i → freeB Γ i = true)
    (e2 : putP C p (xs ++ ys) ρ = some ρ') (hl : xs.length + ys.length ≤ line) (q : ∀ H1 g1, Sp0 Z H (f ++ g) Z H1 g1 → Stb K Γ Z H1 ρ' σ g1 → Q .non H1) : rExtend (.ref b) [v] H Q := by
  obtain ⟨vs, f0, h1, rl, hf, hbg, fin⟩ := place_set S ok e hb hfree e2
  have nd := List.nodup_append.mp ok.nd
  have nz : ¬ Z b := S.sta.ok.nz b hbg
  obtain ⟨c, us, f', rfl, h2, rfl, r2⟩ := r
  obtain ⟨g', s', o', S'⟩ := fin (vs ++ us) (f0 ++ f') [c] (fun H1 off => RelL.app (RelL.agr _ _ _ rl (agr_off h1 nz (fun c m => (hf c m).2) off))
    (RelL.agr _ _ _ r2 (agr_off h1 nz (fun c' m e => nd.2.2 c' (by simp [m]) b hbg e) off))) (perm_of fun x => by simp only [List.count_append, cnt_cons, List.cons_append, List.count_nil]; omega)
  exact ⟨b, c, vs, us, rfl, rfl, h1, h2, by rw [rl.len, r2.len, ← line_eq]; exact hl, q _ g' (Stp.drop s') S'⟩
/-- an item of the list at a place is set -/
theorem set_core {xs : List D} {d : D} {v : V} {b : Addr} {k : Int} {j : Nat} {Q : Hp → Prop} (S : Stb K Γ Z H ρ σ g) (ok : Ok Z H (f ++ g)) (r : Rel K Z H d v f) (e : getP C p ρ = some xs) (hb : AtP C σ H ρ b p) (hfree : ∀ i, p = .v i → ∀ j' k', (j', i, k') ∈ Γ → ∃ n : Nat, k' = .i n ∧ n ≠ j)
    (hj : ixAt xs.length k = some j) (hx : j < xs.length) (e2 : putP C p (xs.set j d) ρ = some ρ') (q : ∀ H1 g1, Sp0 Z H (f ++ g) Z H1 g1 → Stb K Γ Z H1 ρ' σ g1 → Q H1) : rSetL (.ref b) (.int k) v H Q := by
  obtain ⟨vs, f0, h1, rl, hf, hbg, fin⟩ := place_set2 S ok e hb e2
  have nd := List.nodup_append.mp ok.nd
  have nz : ¬ Z b := S.sta.ok.nz b hbg
  obtain ⟨w, f1, f2, q1, q2, q3, q4⟩ := RelL.pick rl (n := j) (d := xs[j]) (by simp [hx])
  obtain ⟨f', p1, q5⟩ := q4 f
  obtain ⟨g', s', o', S'⟩ := fin (vs.set j v) f' f1 (fun H1 off => q5 Z H1 d v (agr_off h1 nz (fun c m => (hf c (q3.mem_iff.mpr (by simp [m]))).2) off) (Rel.agr _ _ _ r (agr_off h1 nz (fun c m e => nd.2.2 c m b hbg e) off)))
    (perm_of fun x => by
      have c1 := (List.perm_iff_count.mp q3) x
      have c2 := (List.perm_iff_count.mp p1) x
      simp only [List.count_append] at c1 c2 ⊢; omega)
    fun i hi j' k' m => by
      obtain ⟨n, e1, e2⟩ := hfree i hi j' k' m
      exact ⟨n, e1, List.getElem?_set_ne (fun e => e2 e.symm)⟩
  exact ⟨b, vs, k, j, rfl, rfl, h1, by rw [ixAt_eq, rl.len]; exact hj, q _ g' (Stp.drop s') S'⟩
theorem RelL.cutAt : ∀ {xs : List D} {vs : List V} {f : List Addr} (n : Nat), RelL K Z H xs vs f → ∃ f1 f2, f = f1 ++ f2 ∧ RelL K Z H (xs.take n) (vs.take n) f1 ∧ RelL K Z H (xs.drop n) (vs.drop n) f2
  | xs, vs, f, 0, r => ⟨[], f, rfl, ⟨rfl, rfl⟩, r⟩
  | [], vs, f, n + 1, r => by
    obtain ⟨rfl, rfl⟩ := r
    exact ⟨[], [], rfl, ⟨rfl, rfl⟩, ⟨rfl, rfl⟩⟩
  | x :: xs, vs, f, n + 1, r => by
    obtain ⟨v, r', g1, g2, rfl, rfl, h1, h2⟩ := r
    obtain ⟨f1, f2, rfl, q1, q2⟩ := RelL.cutAt n h2
    exact ⟨g1 ++ f1, f2, by rw [List.append_assoc], ⟨v, r'.take n, g1, f1, rfl, rfl, h1, q1⟩, q2⟩
theorem ins_core {xs : List D} {d : D} {v : V} {b : Addr} {k : Int} {Q : VK} (S : Stb K Γ Z H ρ σ g) (ok : Ok Z H (f ++ g)) (r : Rel K Z H d v f) (e : getP C p ρ = some xs) (hb : AtP C σ H ρ b p) (hfree : ∀ i, p = .v i → freeB Γ i = true)
    (h0 : 0 ≤ k) (h1 : k < 9223372036854775808) (hl : xs.length < line) (e2 : putP C p (xs.take k.toNat ++ [d] ++ xs.drop k.toNat) ρ = some ρ') (q : ∀ H1 g1, Sp0 Z H (f ++ g) Z H1 g1 → Stb K Γ Z H1 ρ' σ g1 → Q .non H1) :
    ∃ (l : Addr) (xs : List V) (i : Int) (y : V), V.ref b = .ref l ∧ [V.int k, v] = [.int i, y] ∧ H l = some (.lst xs) ∧ xs.length < sizeLine ∧ 0 ≤ i ∧ i < 2 ^ 63 ∧ Q .non (upd H l (.lst (xs.take i.toNat ++ [y] ++ xs.drop i.toNat))) := by
  obtain ⟨vs, f0, hH, rl, hf, hbg, fin⟩ := place_set S ok e hb hfree e2
  have nd := List.nodup_append.mp ok.nd
  have nz : ¬ Z b := S.sta.ok.nz b hbg
  obtain ⟨f1, f2, rfl, c1, c2⟩ := RelL.cutAt k.toNat rl
  obtain ⟨g', s', o', S'⟩ := fin (vs.take k.toNat ++ [v] ++ vs.drop k.toNat) ((f1 ++ f) ++ f2) [] (fun H1 off => RelL.app (RelL.app (RelL.agr _ _ _ c1 (agr_off hH nz (fun c m => (hf c (by simp [m])).2) off))
    ⟨v, [], f, [], rfl, by simp, Rel.agr _ _ _ r (agr_off hH nz (fun c m e => nd.2.2 c m b hbg e) off), rfl, rfl⟩) (RelL.agr _ _ _ c2 (agr_off hH nz (fun c m => (hf c (by simp [m])).2) off)))
    (perm_of fun x => by simp only [List.count_append, List.count_nil]; omega)
  exact ⟨b, vs, k, v, rfl, rfl, hH, by rw [rl.len, ← line_eq]; exact hl, h0, by omega, q _ g' s' S'⟩
theorem RelL.split : ∀ {xs : List D} {vs : List V} {f : List Addr} {n : Nat} {d : D}, RelL K Z H xs vs f → xs[n]? = some d → ∃ w f1 f2 f3, vs[n]? = some w ∧ f = f1 ++ (f2 ++ f3) ∧ RelL K Z H (xs.take n) (vs.take n) f1 ∧ Rel K Z H d w f2 ∧ RelL K Z H (xs.drop (n + 1)) (vs.drop (n + 1)) f3
  | [], vs, f, n, d, r, e => by simp at e
  | x :: xs, vs, f, 0, d, r, e => by
    obtain ⟨v, r', g1, g2, rfl, rfl, h1, h2⟩ := r
    simp at e; subst e
    exact ⟨v, [], g1, g2, rfl, rfl, ⟨rfl, rfl⟩, h1, h2⟩
  | x :: xs, vs, f, n + 1, d, r, e => by
    obtain ⟨v, r', g1, g2, rfl, rfl, h1, h2⟩ := r
    obtain ⟨w, f1, f2, f3, q1, rfl, q2, q3, q4⟩ := RelL.split (n := n) h2 (by simpa using e)
    exact ⟨w, g1 ++ f1, f2, f3, by simpa using q1, by rw [List.append_assoc], ⟨v, r'.take n, g1, f1, rfl, rfl, h1, q2⟩, q3, q4⟩
/-- an item leaves the list at a place -/
theorem out_core {xs : List D} {d : D} {b : Addr} {n : Nat} (S : Stb K Γ Z H ρ σ g) (e : getP C p ρ = some xs) (hb : AtP C σ H ρ b p) (hfree : ∀ i, p = .v i → freeB Γ i = true) (hx : xs[n]? = some d) (e2 : putP C p (xs.eraseIdx n) ρ = some ρ') :
    ∃ vs y f2 g', H b = some (.lst vs) ∧ vs.length = xs.length ∧ vs[n]? = some y ∧ Sp0 Z H g Z (upd H b (.lst (vs.eraseIdx n))) (f2 ++ g') ∧ Ok Z (upd H b (.lst (vs.eraseIdx n))) (f2 ++ g') ∧ Rel K Z (upd H b (.lst (vs.eraseIdx n))) d y f2 ∧ Stb K Γ Z (upd H b (.lst (vs.eraseIdx n))) ρ' σ g' := by
  obtain ⟨vs, f0, h1, rl, hf, hbg, fin⟩ := place_set (fe := []) S S.sta.ok e hb hfree e2
  have nz : ¬ Z b := S.sta.ok.nz b hbg
  obtain ⟨y, f1, f2, f3, q1, rfl, q2, q3, q4⟩ := RelL.split rl hx
  obtain ⟨g', s', o', S'⟩ := fin (vs.eraseIdx n) (f1 ++ f3) f2 (fun H1 off => by
    rw [List.eraseIdx_eq_take_drop_succ, List.eraseIdx_eq_take_drop_succ]
    exact RelL.app (RelL.agr _ _ _ q2 (agr_off h1 nz (fun c m => (hf c (by simp [m])).2) off)) (RelL.agr _ _ _ q4 (agr_off h1 nz (fun c m => (hf c (by simp [m])).2) off)))
    (perm_of fun x => by simp only [List.count_append, List.count_nil]; omega)
  exact ⟨vs, y, f2, g', h1, rl.len, q1, s', o', Rel.agr _ _ _ q3 (agr_off h1 nz (fun c m => (hf c (by simp [m])).2) fun c h => upd_ne h), S'⟩
/-- the reading of a place -/
def tPl (K : PySem.W.Frag) (Γ : Al) (C : Cfg) (p : MP) : TE := fun σ H Q => ∃ Z g ρ xs, Stb K Γ Z H ρ σ g ∧ getP C p ρ = some xs ∧ ∀ b H1 Z1, AtP C σ H ρ b p → Fsh Z H Z1 H1 [] → Q (.ref b) H1
end
section
variable {X : Cx} {C : Cfg} {Γ : Al} {Kp : List Nat}
theorem pl_v {i : Nat} {x : Str} {pos : Pos} (hN : X.N[i]? = some x) (hv : visB X.env.scope x = true) (hn : nameB x = true) : PE X (.Name x pos) (tPl X.K Γ C (.v i)) := PE.imp (visName hN hv hn) fun σ H Q ⟨Z, g, ρ, xs, S, e, q⟩ => by
  obtain ⟨b, vs, f, rest, h1, r, hp, hat, _⟩ := place S.sta.env e
  exact ⟨.ref b, hat, q b H Z hat (Fsh.refl S.sta.ok.zh)⟩
theorem kx_bor {K : PySem.W.Frag} {Z : Addr → Prop} {H : Hp} {kd : D} {s : Kx} {v : V} (h : kxOf kd = some s) (b : Bor K Z H kd v) : v = kV (kxK s) := by
  cases kd <;> simp [kxOf] at h
  · subst h; exact b.int
  · subst h; exact b.str
theorem pl_s (hu : X.A.units + 64 < cLine) {i : Nat} {k : MA} {x : Str} {e : Expr} {p pos : Pos} (hN : X.N[i]? = some x) (hv : visB X.env.scope x = true) (hn : nameB x = true) (hk : Atm X Γ (evA C k) e) (hh : isHead e = true) : PE X (.Subscript (.Name x p) e pos) (tPl X.K Γ C (.s i k)) :=
  PE.imp (pe_ix (ix_list.or (ix_dct hu)) (visName hN hv hn) hk.1 (plainIx_of hh)) fun σ H Q ⟨Z, g, ρ, xs, S, e, q⟩ => by
    obtain ⟨b, vs, f, rest, h1, r, hp, hat, _⟩ := place S.sta.env e
    have hat' := hat
    rcases hat with ⟨a, vs0, j, n, t1, t2, t3, t4, t5⟩ | ⟨a, kvs, kd, s, t1, t2, t3, t5, t4⟩
    · refine ⟨.ref a, t1, tA_of S.sta t3 fun v H1 Z1 F bv => .inl ⟨a, vs0, j, .ref b, rfl, bv.int, SqL.of (by rw [F.fr a (by rw [t2]; simp)]; exact t2), ?_, q b H1 Z1 hat' F⟩⟩
      unfold atI
      rw [ixAt_eq, t4]
      exact t5
    · refine ⟨.ref a, t1, tA_of S.sta t3 fun v H1 Z1 F bv => .inr ⟨a, .ref b, rfl, ?_, q b H1 Z1 hat' F⟩⟩
      have e1 : v = kV (kxK s) := kx_bor t5 bv
      rw [e1, ← t4]
      exact DGet.k (by rw [F.fr a (by rw [t2]; simp)]; exact t2)
theorem pl_a {i j n : Nat} {y : Str} {pos : Pos} (hN : X.N[j]? = some y) (hv : visB X.env.scope y = true) (hn : nameB y = true) (hΓ : (j, i, AK.i n) ∈ Γ) : PE X (.Name y pos) (tPl X.K Γ C (.s i (.cst (.int n)))) := PE.imp (visName hN hv hn) fun σ H Q ⟨Z, g, ρ, xs, S, e, q⟩ => by
  obtain ⟨b, vs, f, rest, h1, r, hp, hat, _⟩ := place S.sta.env e
  have hat' := hat
  rcases hat with ⟨a, vs0, j', n', t1, t2, t3, t4, t5⟩ | ⟨a, kvs, kd, s, t1, t2, t3, t5, t4⟩
  rotate_left
  · obtain ⟨a', v, u1, u2, us, u3, u4⟩ := S.sta.al j i _ hΓ
    rw [t1] at u1; cases u1
    rw [t2] at u3; cases u3
  obtain ⟨a', v, u1, u2, us, u3, u4⟩ := S.sta.al j i _ hΓ
  rw [t1] at u1; cases u1
  rw [t2] at u3; cases u3
  simp only [evA, Option.some.injEq, D.int.injEq] at t3
  subst t3
  have hl := (List.getElem?_eq_some_iff.mp u4).1
  have e4 : n' = n := by
    unfold ixAt at t4
    rw [if_pos (by omega), if_pos (by omega)] at t4
    simpa using t4.symm
  subst e4
  rw [t5] at u4; cases u4
  exact ⟨.ref b, u2, q b H Z hat' (Fsh.refl S.sta.ok.zh)⟩
theorem pl_k {i j : Nat} {l : List Nat} {y : Str} {pos : Pos} (hN : X.N[j]? = some y) (hv : visB X.env.scope y = true) (hn : nameB y = true) (hΓ : (j, i, AK.s (toS l)) ∈ Γ) : PE X (.Name y pos) (tPl X.K Γ C (.s i (.cst (.str l)))) := PE.imp (visName hN hv hn) fun σ H Q ⟨Z, g, ρ, xs, S, e, q⟩ => by
  obtain ⟨b, vs, f, rest, h1, r, hp, hat, _⟩ := place S.sta.env e
  have hat' := hat
  rcases hat with ⟨a, vs0, j', n', t1, t2, t3, t4, t5⟩ | ⟨a, kvs, kd, s, t1, t2, t3, t5, t4⟩
  · simp [evA] at t3
  obtain ⟨a', v, u1, u2, us, u3, u4⟩ := S.sta.al j i _ hΓ
  rw [t1] at u1; cases u1
  rw [t2] at u3; cases u3
  simp only [evA, Option.some.injEq] at t3
  subst t3
  simp only [kxOf, Option.some.injEq] at t5
  subst t5
  rw [show kxK (.s l) = .inr (toS l) from rfl, u4] at t4
  cases t4
  exact ⟨.ref b, u2, q b H Z hat' (Fsh.refl S.sta.ok.zh)⟩
theorem few_of {cpos : Pos} {e : Expr} {es : List Expr} {env : PySem.Env} (hn : (e :: es).all nstar = true) (hl : (e :: es).length < 30) : ((backTo cpos (starEach (e :: es) env)).all (fun x => !x.1) && (backToKw cpos (keywordEach [] env)).all (fun x => x.1.isSome)
      && decide ((e :: es).length + ([] : List Keyword).length + (if ([] : List Keyword).isEmpty then 0 else 1) < 30)) = true := by
  have h1 : (backTo cpos (starEach (e :: es) env)).all (fun x => !x.1) = true := by
    have := star_any cpos env (e :: es) hn
    rw [List.any_eq_false] at this
    rw [List.all_eq_true]
    intro x hx
    have := this x hx
    simpa using this
  have h2 : (backToKw cpos (keywordEach [] env)).all (fun x => x.1.isSome) = true := by rfl
  have h3 : decide ((e :: es).length + ([] : List Keyword).length + (if ([] : List Keyword).isEmpty then 0 else 1) < 30) = true := by
    simpa using hl
  rw [h1, h2, h3]; rfl
def ownBase : Expr → Bool
  | .Name _ _ => true
  | .Subscript _ _ _ => true
  | _ => false
theorem base_of {o : Expr} {name : Str} {env : PySem.Env} (h : ownBase o = true) : attributeBase o name env (eval o env) = eval o env := by
  cases o <;> first | rfl | cases h
theorem app_v {i : Nat} {a : ME} {o e : Expr} {apos cpos pos : Pos} (hp : PE X o (tPl X.K Γ C (.v i))) (ho : ownBase o = true) (h : Exp X Γ (ev C a) e) (hn : nstar e = true) (hf : freeB Γ i = true) (hline : (apos.endLine == cpos.line) = true) :
    PS X (.Expr (.Call (.Attribute o "append" apos) [e] [] cpos) pos) (tS X.K Γ Kp (ex C (.app (.v i) a))) :=
  PS.imp (ps_expr (pe_bm PySem.F.plainAttrs_list PySem.F.slot_list_append PySem.F.type_list_append mt_append hp (pa_of (.cons h.1 mono_tM .nil) (by simp [hn])) (base_of ho) (few_of (by simp [hn]) (by simp)) hline (star_of hn [] _) (star_any _ _ _ rfl)) (swaps_none rfl _ _ _)) fun D σ H ⟨Z, g, ρ, fl, S, e, w⟩ => by
    simp only [ex] at e
    obtain ⟨xs0, e0, e⟩ := Option.bind_eq_some_iff.mp e
    obtain ⟨⟨d, ρ1⟩, e1, e⟩ := Option.bind_eq_some_iff.mp e
    obtain ⟨xs, e2, e⟩ := Option.bind_eq_some_iff.mp e
    obtain ⟨hl, e⟩ := ite_some' e
    obtain ⟨ρ2, e3, e4⟩ := Option.bind_eq_some_iff.mp e
    cases e4
    refine ⟨Z, g, ρ, xs0, S, e0, fun b H1 Z1 hat F => ⟨?_, ?_⟩⟩
    · obtain ⟨b', vs, f, rest, h1, r, hp, hat', _⟩ := place S.sta.env e0
      have := hat.uniq hat'
      subst this
      exact .inl ⟨rfl, vs, SqL.of (by rw [F.fr b (by rw [h1]; simp)]; exact h1)⟩
    · obtain ⟨s0, o0⟩ := F.sp0 S.sta.ok
      refine tM_of (S.fsh F) e1 fun v H2 Z2 f g2 s2 o2 r2 S2 => ?_
      exact app_core (Q := fun _ H => D.nx σ H) S2 o2 r2 e2 hat (fun i' h => by cases h; exact hf) e3 hl fun H3 g3 s3 S3 => w σ H3 Z2 g3 ((s0.trans s2).trans s3) S3 Kep.refl
theorem app_s {i : Nat} {k a : MA} {o e : Expr} {apos cpos pos : Pos} (hp : PE X o (tPl X.K Γ C (.s i k))) (ho : ownBase o = true) (h : Atm X Γ (evA C a) e) (hn : nstar e = true) (hline : (apos.endLine == cpos.line) = true) :
    PS X (.Expr (.Call (.Attribute o "append" apos) [e] [] cpos) pos) (tS X.K Γ Kp (ex C (.app (.s i k) (.at_ a)))) :=
  PS.imp (ps_expr (pe_bm PySem.F.plainAttrs_list PySem.F.slot_list_append PySem.F.type_list_append mt_append hp (pa_of (.cons h.1 mono_tA .nil) (by simp [hn])) (base_of ho) (few_of (by simp [hn]) (by simp)) hline (star_of hn [] _) (star_any _ _ _ rfl)) (swaps_none rfl _ _ _)) fun D σ H ⟨Z, g, ρ, fl, S, e, w⟩ => by
    simp only [ex, ev] at e
    obtain ⟨xs0, e0, e⟩ := Option.bind_eq_some_iff.mp e
    obtain ⟨⟨d, ρ1⟩, e1, e⟩ := Option.bind_eq_some_iff.mp e
    obtain ⟨d', e5, e6⟩ := Option.bind_eq_some_iff.mp e1
    obtain ⟨pl, e7⟩ := ite_some e6
    cases e7
    obtain ⟨xs, e2, e⟩ := Option.bind_eq_some_iff.mp e
    obtain ⟨hl, e⟩ := ite_some' e
    obtain ⟨ρ2, e3, e4⟩ := Option.bind_eq_some_iff.mp e
    cases e4
    refine ⟨Z, g, ρ, xs0, S, e0, fun b H1 Z1 hat F => ⟨?_, ?_⟩⟩
    · obtain ⟨b', vs, f, rest, h1, r, hp, hat', _⟩ := place S.sta.env e0
      have := hat.uniq hat'
      subst this
      exact .inl ⟨rfl, vs, SqL.of (by rw [F.fr b (by rw [h1]; simp)]; exact h1)⟩
    · obtain ⟨s0, o0⟩ := F.sp0 S.sta.ok
      refine tA_of (S.fsh F).sta e5 fun v H2 Z2 F2 bv => ?_
      obtain ⟨f, r⟩ := bv
      have := Rel.plain _ v f r pl
      subst this
      obtain ⟨s1, o1⟩ := F2.sp0 (S.fsh F).sta.ok
      exact app_core (Q := fun _ H => D.nx σ H) ((S.fsh F).fsh F2) o1 r e2 ((hat.fsh F).fsh F2) (fun i' h => by cases h) e3 hl fun H3 g3 s3 S3 => w σ H3 Z2 g3 ((s0.trans s1).trans s3) S3 Kep.refl
/-- place[k] = e -/
theorem setI_ok {p : MP} {a : ME} {k : MA} {o ke e : Expr} {spos pos : Pos} (h : Exp X Γ (ev C a) e) (hp : PE X o (tPl X.K Γ C p)) (hk : Atm X Γ (evA C k) ke) (hf : ∀ i, p = .v i → freeB Γ i = true ∨ ∃ m : Nat, k = .cst (.int m) ∧ ∀ j' k', (j', i, k') ∈ Γ → ∃ n : Nat, k' = .i n ∧ n ≠ m)
    (ha : ∀ v, assign (.Subscript o ke spos) X.env v = (do
      let ov ← holding [v] (eval o X.env)
      let iv ← holding [v, ov] (eval ke X.env)
      standAt spos
      holding [v, ov, iv] (setItem ov iv v)
      release [v, ov, iv] [])) (hs : swapsWithSole [.Subscript o ke spos] e pos.line X.env = pure false) (hw : swappedStores [.Subscript o ke spos] e X.env = pure none) (h1 : (assignEach [.Subscript o ke spos] X.env).map (·.2) = [assign (.Subscript o ke spos) X.env]) :
    PS X (.Assign [.Subscript o ke spos] e pos) (tS X.K Γ Kp (ex C (.setI p (.at_ k) a))) := PS.imp (ps_asg h.1 (pg_sub hp hk.1 set_list ha) hs hw h1) fun D σ H ⟨Z, g, ρ, fl, S, e, w⟩ => by
  simp only [ex] at e
  obtain ⟨⟨d, ρ1⟩, e1, e⟩ := Option.bind_eq_some_iff.mp e
  obtain ⟨xs9, e9, e⟩ := Option.bind_eq_some_iff.mp e
  obtain ⟨⟨dk, ρ2⟩, e2, e⟩ := Option.bind_eq_some_iff.mp e
  simp only [ev] at e2
  obtain ⟨dk', e5, e6⟩ := Option.bind_eq_some_iff.mp e2
  obtain ⟨pl, e7⟩ := ite_some e6
  cases e7
  obtain ⟨xs, e3, e⟩ := Option.bind_eq_some_iff.mp e
  cases dk with
  | int i =>
    simp only at e
    obtain ⟨j, hj, e⟩ := Option.bind_eq_some_iff.mp e
    obtain ⟨ρ3, e4, e8⟩ := Option.bind_eq_some_iff.mp e
    cases e8
    refine tM_of S e1 fun v H1 Z1 f g1 s1 o1 r1 S1 => ⟨Z1, g1, ρ1, xs, S1, e3, fun b H2 Z2 hat F => tA_of (S1.fsh F).sta e5 fun iv H3 Z3 F2 bi => ?_⟩
    obtain ⟨s2, o2⟩ := F.sp0 o1
    obtain ⟨s3, o3⟩ := F2.sp0 o2
    have ag := (F.trans F2).agr (g := f) fun b m => isM_ne (o1.mu b (by simp [m]))
    rw [bi.int]
    have hx : j < xs.length := by
      unfold ixAt at hj
      split at hj
      · split at hj
        · simp at hj; omega
        · cases hj
      · split at hj
        · simp at hj; omega
        · cases hj
    have hf' : ∀ i', p = .v i' → ∀ j' k', (j', i', k') ∈ Γ → ∃ n : Nat, k' = .i n ∧ n ≠ j := fun i' hi j' k' m => by
      rcases hf i' hi with q | ⟨mm, rfl, q⟩
      · exact absurd rfl (freeB_ne q m)
      · obtain ⟨n, q1, q2⟩ := q j' k' m
        refine ⟨n, q1, fun e => q2 ?_⟩
        simp only [evA, Option.some.injEq, GN.D.int.injEq] at e5
        subst e5
        unfold ixAt at hj
        rw [if_pos (by omega)] at hj
        split at hj
        · simp at hj; omega
        · cases hj
    exact set_core ((S1.fsh F).fsh F2) o3 (Rel.agr _ _ _ r1 ag) e3 ((hat.fsh F).fsh F2) hf' hj hx e4 fun H4 g4 s4 S4 => w σ H4 Z3 g4 (((s1.trans s2).trans s3).trans s4) S4 Kep.refl
  | _ => simp at e
theorem setI_v {i0 : Nat} {a k : ME} {o ke e : Expr} {spos pos : Pos} (h : Exp X Γ (ev C a) e) (hp : PE X o (tPl X.K Γ C (.v i0))) (hk : Exp X Γ (ev C k) ke) (hf : freeB Γ i0 = true)
    (ha : ∀ v, assign (.Subscript o ke spos) X.env v = (do
      let ov ← holding [v] (eval o X.env)
      let iv ← holding [v, ov] (eval ke X.env)
      standAt spos
      holding [v, ov, iv] (setItem ov iv v)
      release [v, ov, iv] [])) (hs : swapsWithSole [.Subscript o ke spos] e pos.line X.env = pure false) (hw : swappedStores [.Subscript o ke spos] e X.env = pure none) (h1 : (assignEach [.Subscript o ke spos] X.env).map (·.2) = [assign (.Subscript o ke spos) X.env]) :
    PS X (.Assign [.Subscript o ke spos] e pos) (tS X.K Γ Kp (ex C (.setI (.v i0) k a))) := PS.imp (ps_asg h.1 (pg_sub hp hk.1 set_list ha) hs hw h1) fun D σ H ⟨Z, g, ρ, fl, S, e, w⟩ => by
  simp only [ex] at e
  obtain ⟨⟨d, ρ1⟩, e1, e⟩ := Option.bind_eq_some_iff.mp e
  obtain ⟨xs9, e9, e⟩ := Option.bind_eq_some_iff.mp e
  obtain ⟨⟨dk, ρ2⟩, e2, e⟩ := Option.bind_eq_some_iff.mp e
  obtain ⟨xs, e3, e⟩ := Option.bind_eq_some_iff.mp e
  cases dk with
  | int i =>
    simp only at e
    obtain ⟨j, hj, e⟩ := Option.bind_eq_some_iff.mp e
    obtain ⟨ρ3, e4, e8⟩ := Option.bind_eq_some_iff.mp e
    cases e8
    refine tM_of S e1 fun v H1 Z1 f g1 s1 o1 r1 S1 => ⟨Z1, g1, ρ1, xs9, S1, e9, fun b H2 Z2 hat F => tM_of (S1.fsh F) e2 fun iv H3 Z3 f3 g3 s3 o3 r3 S3 => ?_⟩
    obtain ⟨s2, o2⟩ := F.sp0 o1
    have o2' : Ok Z2 H2 (f ++ g1) := o2
    obtain ⟨s4, o4⟩ := s3.part o2' o3
    have hiv : iv = .int i := r3.1
    have f30 : f3 = [] := r3.2
    subst f30
    have o4' : Ok Z3 H3 (f ++ g3) := o4
    have ag1 := F.agr (g := f) fun b m => isM_ne (o1.mu b (by simp [m]))
    have ag2 := s3.agr o2'
    rw [hiv]
    have hx : j < xs.length := by
      unfold ixAt at hj
      split at hj
      · split at hj
        · simp at hj; omega
        · cases hj
      · split at hj
        · simp at hj; omega
        · cases hj
    have hat3 : AtP C σ H3 ρ2 b (.v i0) := hat
    exact set_core S3 o4' (Rel.agr _ _ _ (Rel.agr _ _ _ r1 ag1) ag2) e3 hat3 (fun i' h j' k' m => by cases h; exact absurd rfl (freeB_ne hf m)) hj hx e4 fun H4 g4 s5 S4 => w σ H4 Z3 g4 (((s1.trans s2).trans s4).trans s5) S4 Kep.refl
  | _ => simp at e
theorem tyV_at {K : PySem.W.Frag} {Z Z1 : Addr → Prop} {H H1 : Hp} {ρ : Env} {σ : L2.St} {g f : List Addr} {p : MP} {xs : List D} {b : Addr} (S : Stb K Γ Z H ρ σ g) (e : getP C p ρ = some xs) (hat : AtP C σ H ρ b p) (F : Fsh Z H Z1 H1 f) : tyV K "list" (.ref b) H1 := by
  obtain ⟨b', vs, f, rest, h1, r, hp, hat', _⟩ := place S.sta.env e
  have := hat.uniq hat'
  subst this
  exact .inl ⟨rfl, vs, SqL.of (by rw [F.fr b (by rw [h1]; simp)]; exact h1)⟩
theorem dropLast_erase {α : Type} {l : List α} {n : Nat} (h : n + 1 = l.length) : l.eraseIdx n = l.dropLast := by
  rw [List.eraseIdx_eq_take_drop_succ, h, List.drop_length, List.append_nil, List.dropLast_eq_take, ← h]
  rfl
theorem ixAt_last {m n : Nat} (h : ixAt m (-1) = some n) : n + 1 = m := by
  unfold ixAt at h
  rw [if_neg (by omega)] at h
  split at h
  · simp at h; omega
  · cases h
theorem pop0_ok {p : MP} {o : Expr} {apos cpos : Pos} (hp : PE X o (tPl X.K Γ C p)) (ho : ownBase o = true) (hf : ∀ i, p = .v i → freeB Γ i = true) (hline : (apos.endLine == cpos.line) = true) : Exp X Γ (ev C (.pop p .nil)) (.Call (.Attribute o "pop" apos) [] [] cpos) := by
  refine Exp.of (pv_plain (pe_bm0 PySem.F.plainAttrs_list PySem.F.slot_list_pop PySem.F.type_list_pop mt_pop hp (base_of ho) hline) fun _ => rfl) (fun _ _ _ e => nomatch e) fun σ H Q ⟨Z, g, ρ, d, ρ', S, e, q⟩ => ?_
  simp only [ev, evOs] at e
  obtain ⟨xs0, e0, e⟩ := Option.bind_eq_some_iff.mp e
  obtain ⟨⟨ds, ρ1⟩, e1, e⟩ := Option.bind_eq_some_iff.mp e
  cases e1
  obtain ⟨xs, e2, e⟩ := Option.bind_eq_some_iff.mp e
  simp only at e
  obtain ⟨d', e3, e⟩ := Option.bind_eq_some_iff.mp e
  obtain ⟨ρ2, e4, e5⟩ := Option.bind_eq_some_iff.mp e
  cases e5
  unfold at_ at e3
  obtain ⟨n, hn, hx⟩ := Option.bind_eq_some_iff.mp e3
  have hn := ixAt_last hn
  refine ⟨Z, g, ρ, xs0, S, e0, fun b H1 Z1 hat F => ⟨tyV_at S e0 hat F, ?_⟩⟩
  obtain ⟨s0, o0⟩ := F.sp0 S.sta.ok
  obtain ⟨vs, y, f2, g', h1, hl, hy, s', o', r', S'⟩ := out_core (S.fsh F) e2 (hat.fsh F) hf hx (by rw [dropLast_erase hn]; exact e4)
  have hn' : n + 1 = vs.length := by rw [hl]; exact hn
  refine ⟨b, vs, y, rfl, rfl, h1, by rw [← hn']; exact hy, ?_⟩
  rw [← dropLast_erase hn']
  exact q y _ Z1 f2 g' (Stp.trans s0 s') o' r' S'
theorem pop1_ok {p : MP} {k : MA} {o ke : Expr} {apos cpos : Pos} (hp : PE X o (tPl X.K Γ C p)) (ho : ownBase o = true) (hf : ∀ i, p = .v i → freeB Γ i = true) (hk : Atm X Γ (evA C k) ke) (hn : nstar ke = true) (hline : (apos.endLine == cpos.line) = true) :
    Exp X Γ (ev C (.pop p (.ow (.at_ k) .nil))) (.Call (.Attribute o "pop" apos) [ke] [] cpos) := by
  refine Exp.of (pv_plain (pe_bm PySem.F.plainAttrs_list PySem.F.slot_list_pop PySem.F.type_list_pop mt_popAt hp (pa_of (.cons hk.1 mono_tA .nil) (by simp [hn])) (base_of ho) (few_of (by simp [hn]) (by simp)) hline (star_of hn [] _) (star_any _ _ _ rfl)) fun _ => rfl) (fun _ _ _ e => nomatch e) fun σ H Q ⟨Z, g, ρ, d, ρ', S, e, q⟩ => ?_
  simp only [ev, evOs] at e
  obtain ⟨xs0, e0, e⟩ := Option.bind_eq_some_iff.mp e
  obtain ⟨⟨ds, ρ1⟩, e1, e⟩ := Option.bind_eq_some_iff.mp e
  obtain ⟨⟨dk, ρ2⟩, e5, e1⟩ := Option.bind_eq_some_iff.mp e1
  obtain ⟨dk', e6, e7⟩ := Option.bind_eq_some_iff.mp e5
  obtain ⟨pl, e8⟩ := ite_some e7
  cases e8
  cases e1
  obtain ⟨xs, e2, e⟩ := Option.bind_eq_some_iff.mp e
  cases dk with
  | int i =>
    simp only at e
    obtain ⟨hb, e⟩ := ite_some' e
    obtain ⟨j, hj, e⟩ := Option.bind_eq_some_iff.mp e
    obtain ⟨d', hx, e⟩ := Option.bind_eq_some_iff.mp e
    obtain ⟨ρ3, e4, e9⟩ := Option.bind_eq_some_iff.mp e
    cases e9
    refine ⟨Z, g, ρ, xs0, S, e0, fun b H1 Z1 hat F => ⟨tyV_at S e0 hat F, tA_of (S.fsh F).sta e6 fun iv H2 Z2 F2 bi => ?_⟩⟩
    obtain ⟨s0, o0⟩ := F.sp0 S.sta.ok
    obtain ⟨s1, o1⟩ := F2.sp0 (S.fsh F).sta.ok
    obtain ⟨vs, y, f2, g', h1, hl, hy, s', o', r', S'⟩ := out_core ((S.fsh F).fsh F2) e2 ((hat.fsh F).fsh F2) hf hx e4
    rw [bi.int]
    refine ⟨b, vs, i, j, y, rfl, rfl, h1, by omega, by omega, ?_, hy, q y _ Z2 f2 g' ((Stp.trans s0 s1).trans s') o' r' S'⟩
    exact (ixN_seq (by rw [ixAt_eq, hl]; exact hj)).1
  | _ => simp at e
theorem pop1_v {i' : Nat} {a : ME} {o ke : Expr} {apos cpos : Pos} (hp : PE X o (tPl X.K Γ C (.v i'))) (ho : ownBase o = true) (hf : freeB Γ i' = true) (hk : Exp X Γ (ev C a) ke) (hn : nstar ke = true) (hline : (apos.endLine == cpos.line) = true) :
    Exp X Γ (ev C (.pop (.v i') (.ow a .nil))) (.Call (.Attribute o "pop" apos) [ke] [] cpos) := by
  refine Exp.of (pv_plain (pe_bm PySem.F.plainAttrs_list PySem.F.slot_list_pop PySem.F.type_list_pop mt_popAt hp (pa_of (.cons hk.1 mono_tM .nil) (by simp [hn])) (base_of ho) (few_of (by simp [hn]) (by simp)) hline (star_of hn [] _) (star_any _ _ _ rfl)) fun _ => rfl) (fun _ _ _ e => nomatch e) fun σ H Q ⟨Z, g, ρ, d, ρ', S, e, q⟩ => ?_
  simp only [ev, evOs] at e
  obtain ⟨xs0, e0, e⟩ := Option.bind_eq_some_iff.mp e
  obtain ⟨⟨ds, ρ1⟩, e1, e⟩ := Option.bind_eq_some_iff.mp e
  obtain ⟨⟨dk, ρ2⟩, e5, e1⟩ := Option.bind_eq_some_iff.mp e1
  cases e1
  obtain ⟨xs, e2, e⟩ := Option.bind_eq_some_iff.mp e
  cases dk with
  | int i =>
    simp only at e
    obtain ⟨hb, e⟩ := ite_some' e
    obtain ⟨j, hj, e⟩ := Option.bind_eq_some_iff.mp e
    obtain ⟨d', hx, e⟩ := Option.bind_eq_some_iff.mp e
    obtain ⟨ρ3, e4, e9⟩ := Option.bind_eq_some_iff.mp e
    cases e9
    refine ⟨Z, g, ρ, xs0, S, e0, fun b H1 Z1 hat F => ⟨tyV_at S e0 hat F, tM_of (S.fsh F) e5 fun iv H2 Z2 fi g2 s2 o2 ri S2 => ?_⟩⟩
    obtain ⟨s0, o0⟩ := F.sp0 S.sta.ok
    obtain ⟨rfl, rfl⟩ := ri
    obtain ⟨vs, y, f2, g', h1, hl, hy, s', o', r', S'⟩ := out_core S2 e2 hat (fun i h => by cases h; exact hf) hx e4
    refine ⟨b, vs, i, j, y, rfl, rfl, h1, by omega, by omega, ?_, hy, q y _ Z2 f2 g' ((Stp.trans s0 s2).trans s') o' r' S'⟩
    exact (ixN_seq (by rw [ixAt_eq, hl]; exact hj)).1
  | _ => simp at e
theorem ins_ok {p : MP} {k a : MA} {o ke e : Expr} {apos cpos pos : Pos} (hp : PE X o (tPl X.K Γ C p)) (ho : ownBase o = true) (hf : ∀ i, p = .v i → freeB Γ i = true) (hk : Atm X Γ (evA C k) ke) (hn : nstar ke = true) (h : Atm X Γ (evA C a) e) (hn2 : nstar e = true) (hline : (apos.endLine == cpos.line) = true) :
    PS X (.Expr (.Call (.Attribute o "insert" apos) [ke, e] [] cpos) pos) (tS X.K Γ Kp (ex C (.ins p (.at_ k) (.at_ a)))) :=
  PS.imp (ps_expr (pe_bm PySem.F.plainAttrs_list PySem.F.slot_list_insert PySem.F.type_list_insert mt_insert hp (pa_of (.cons hk.1 mono_tA (.cons h.1 mono_tA .nil)) (by simp [hn, hn2])) (base_of ho) (few_of (by simp [hn, hn2]) (by simp)) hline (star_of hn [e] _) (star_any _ _ _ (by simp [hn2]))) (swaps_none rfl _ _ _)) fun D σ H ⟨Z, g, ρ, fl, S, e, w⟩ => by
    simp only [ex, ev] at e
    obtain ⟨xs0, e0, e⟩ := Option.bind_eq_some_iff.mp e
    obtain ⟨⟨dk, ρ1⟩, e1, e⟩ := Option.bind_eq_some_iff.mp e
    obtain ⟨dk', e5, e6⟩ := Option.bind_eq_some_iff.mp e1
    obtain ⟨pl, e7⟩ := ite_some e6
    cases e7
    obtain ⟨⟨d, ρ2⟩, e8, e⟩ := Option.bind_eq_some_iff.mp e
    obtain ⟨d', e9, e10⟩ := Option.bind_eq_some_iff.mp e8
    obtain ⟨pl2, e11⟩ := ite_some e10
    cases e11
    obtain ⟨xs, e2, e⟩ := Option.bind_eq_some_iff.mp e
    cases dk with
    | int i =>
      simp only at e
      obtain ⟨⟨hb0, hb1, hl⟩, e⟩ := ite_some' e
      obtain ⟨ρ3, e3, e4⟩ := Option.bind_eq_some_iff.mp e
      cases e4
      refine ⟨Z, g, ρ, xs0, S, e0, fun b H1 Z1 hat F => ⟨tyV_at S e0 hat F, tA_of (S.fsh F).sta e5 fun iv H2 Z2 F2 bi => tA_of ((S.fsh F).fsh F2).sta e9 fun v H3 Z3 F3 bv => ?_⟩⟩
      obtain ⟨f, r⟩ := bv
      have := Rel.plain _ v f r pl2
      subst this
      obtain ⟨s0, o0⟩ := F.sp0 S.sta.ok
      obtain ⟨s1, o1⟩ := F2.sp0 (S.fsh F).sta.ok
      obtain ⟨s2, o2⟩ := F3.sp0 ((S.fsh F).fsh F2).sta.ok
      rw [bi.int]
      exact ins_core (Q := fun _ H => D.nx σ H) (((S.fsh F).fsh F2).fsh F3) o2 r e2 (((hat.fsh F).fsh F2).fsh F3) hf hb0 hb1 hl e3 fun H4 g4 s4 S4 => w σ H4 Z3 g4 (((Stp.trans s0 s1).trans s2).trans s4) S4 Kep.refl
    | _ => simp at e
theorem ins_v {i' : Nat} {k a : ME} {o ke e : Expr} {apos cpos pos : Pos} (hp : PE X o (tPl X.K Γ C (.v i'))) (ho : ownBase o = true) (hf : freeB Γ i' = true) (hk : Exp X Γ (ev C k) ke) (hn : nstar ke = true) (h : Exp X Γ (ev C a) e) (hn2 : nstar e = true) (hline : (apos.endLine == cpos.line) = true) :
    PS X (.Expr (.Call (.Attribute o "insert" apos) [ke, e] [] cpos) pos) (tS X.K Γ Kp (ex C (.ins (.v i') k a))) :=
  PS.imp (ps_expr (pe_bm PySem.F.plainAttrs_list PySem.F.slot_list_insert PySem.F.type_list_insert mt_insert hp (pa_of (.cons hk.1 mono_tM (.cons h.1 mono_tM .nil)) (by simp [hn, hn2])) (base_of ho) (few_of (by simp [hn, hn2]) (by simp)) hline (star_of hn [e] _) (star_any _ _ _ (by simp [hn2]))) (swaps_none rfl _ _ _)) fun D σ H ⟨Z, g, ρ, fl, S, e, w⟩ => by
    simp only [ex] at e
    obtain ⟨xs0, e0, e⟩ := Option.bind_eq_some_iff.mp e
    obtain ⟨⟨dk, ρ1⟩, e1, e⟩ := Option.bind_eq_some_iff.mp e
    obtain ⟨⟨d, ρ2⟩, e8, e⟩ := Option.bind_eq_some_iff.mp e
    obtain ⟨xs, e2, e⟩ := Option.bind_eq_some_iff.mp e
    cases dk with
    | int i =>
      simp only at e
      obtain ⟨⟨hb0, hb1, hl⟩, e⟩ := ite_some' e
      obtain ⟨ρ3, e3, e4⟩ := Option.bind_eq_some_iff.mp e
      cases e4
      refine ⟨Z, g, ρ, xs0, S, e0, fun b H1 Z1 hat F => ⟨tyV_at S e0 hat F, ?_⟩⟩
      obtain ⟨s0, o0⟩ := F.sp0 S.sta.ok
      refine tM_of (S.fsh F) e1 fun iv H2 Z2 f2 g2 s1 o1 bi S1 => ?_
      obtain ⟨rfl, rfl⟩ := bi
      refine tM_of S1 e8 fun v H3 Z3 f g3 s2 o2 r S2 => ?_
      exact ins_core (Q := fun _ H => D.nx σ H) S2 o2 r e2 hat (fun i'' h => by cases h; exact hf) hb0 hb1 hl e3 fun H4 g4 s4 S4 => w σ H4 Z3 g4 (((s0.trans s1).trans s2).trans s4) S4 Kep.refl
    | _ => simp at e
theorem ext_v {i : Nat} {a : ME} {o e : Expr} {apos cpos pos : Pos} (hp : PE X o (tPl X.K Γ C (.v i))) (ho : ownBase o = true) (h : Exp X Γ (ev C a) e) (hn : nstar e = true) (hf : freeB Γ i = true) (hline : (apos.endLine == cpos.line) = true) :
    PS X (.Expr (.Call (.Attribute o "extend" apos) [e] [] cpos) pos) (tS X.K Γ Kp (ex C (.ext (.v i) a))) :=
  PS.imp (ps_expr (pe_bm PySem.F.plainAttrs_list PySem.F.slot_list_extend PySem.F.type_list_extend mt_extend hp (pa_of (.cons h.1 mono_tM .nil) (by simp [hn])) (base_of ho) (few_of (by simp [hn]) (by simp)) hline (star_of hn [] _) (star_any _ _ _ rfl)) (swaps_none rfl _ _ _)) fun D σ H ⟨Z, g, ρ, fl, S, e, w⟩ => by
    simp only [ex] at e
    obtain ⟨xs0, e0, e⟩ := Option.bind_eq_some_iff.mp e
    obtain ⟨⟨d, ρ1⟩, e1, e⟩ := Option.bind_eq_some_iff.mp e
    obtain ⟨xs, e2, e⟩ := Option.bind_eq_some_iff.mp e
    simp only at e
    split at e
    case h_2 => cases e
    rename_i ys hd
    obtain ⟨hl, e⟩ := ite_some' e
    obtain ⟨ρ2, e3, e4⟩ := Option.bind_eq_some_iff.mp e
    cases e4
    refine ⟨Z, g, ρ, xs0, S, e0, fun b H1 Z1 hat F => ⟨?_, ?_⟩⟩
    · obtain ⟨b', vs, f, rest, h1, r, hp, hat', _⟩ := place S.sta.env e0
      have := hat.uniq hat'
      subst this
      exact .inl ⟨rfl, vs, SqL.of (by rw [F.fr b (by rw [h1]; simp)]; exact h1)⟩
    · obtain ⟨s0, o0⟩ := F.sp0 S.sta.ok
      refine tM_of (S.fsh F) e1 fun v H2 Z2 f g2 s2 o2 r2 S2 => ?_

      exact ext_core (Q := fun _ H => D.nx σ H) S2 o2 r2 e2 hat (fun i' h => by cases h; exact hf) e3 hl fun H3 g3 s3 S3 => w σ H3 Z2 g3 ((s0.trans s2).trans s3) S3 Kep.refl
end
end GN
end

section
set_option linter.all false
set_option maxRecDepth 100000
set_option maxHeartbeats 400000
namespace GN
open PySem PySem.Spec PyProof.Rows L2
section
variable {K : PySem.W.Frag} {Γ : Al} {σ : L2.St} {Z Z1 : Addr → Prop} {H H1 : Hp} {g f : List Addr} {ρ ρ' : Env} {C : Cfg}
/-- a dict at a name is written -/
theorem dict_set {i : Nat} {ks : List Ky} {xs : List D} {a : Addr} {fe : List Addr} (S : Stb K Γ Z H ρ σ g) (ok : Ok Z H (fe ++ g)) (hg : GN.get ρ i = some (.dct .own ks xs)) (hσ : σ[i]? = some (some (.ref a))) :
    ∃ kvs f, H a = some (.dK kvs) ∧ kyOk ks (kvs.map (·.1)) ∧ RelL K Z H xs (kvs.map (·.2)) f ∧ (∀ c ∈ f, c ∈ g ∧ c ≠ a) ∧ a ∈ g ∧
      ∀ kvs' ks' xs' f1 fo, kyOk ks' (kvs'.map (·.1)) → (∀ H1 : Hp, (∀ c, c ≠ a → H1 c = H c) → RelL K Z H1 xs' (kvs'.map (·.2)) f1) → (fe ++ f).Perm (f1 ++ fo) → (∀ j k, (j, i, k) ∈ Γ → ∀ v, ItemAt H a k v → ItemAt (upd H a (.dK kvs')) a k v) →
        ∃ g', Sp0 Z H (fe ++ g) Z (upd H a (.dK kvs')) (fo ++ g') ∧ Ok Z (upd H a (.dK kvs')) (fo ++ g') ∧ Stb K Γ Z (upd H a (.dK kvs')) (put ρ i (some (.dct .own ks' xs'))) σ g' := by
  obtain ⟨v, fv, g0, t1, t2, t3, t4⟩ := S.sta.env.take hg
  rw [hσ] at t1; cases t1
  obtain ⟨a', kvs, f, ea, h1, hky, rfl, r⟩ := t2
  cases ea
  have t3' := t3
  have okg := S.sta.ok.perm t4
  have nd := List.nodup_cons.mp (show (a :: (f ++ g0)).Nodup from okg.nd)
  have ham : a ∈ g := t4.mem_iff.mpr (by simp)
  refine ⟨kvs, f, h1, hky, r, fun c m => ⟨t4.mem_iff.mpr (by simp [m]), fun e => nd.1 (by rw [← e]; simp [m])⟩, ham, fun kvs' ks' xs' f1 fo hk' hr hperm hal => ?_⟩
  have off : ∀ c, c ≠ a → upd H a (.dK kvs') c = H c := fun c h => upd_ne h
  have nza : ¬ Z a := okg.nz a (by simp)
  have ag : Agr Z H g0 Z (upd H a (.dK kvs')) := ⟨fun _ z => z, fun c z _ => off c fun e => nza (e ▸ z), fun c _ m => off c fun e => m (by rw [e, h1]; trivial), fun c m => off c fun e => nd.1 (by rw [← e]; simp [m])⟩
  have E1 := EnvRel.agr _ _ _ t3 ag
  have r6 : Rel K Z (upd H a (.dK kvs')) (.dct .own ks' xs') (.ref a) (a :: f1) := ⟨a, kvs', f1, rfl, upd_same, hk', rfl, hr _ off⟩
  obtain ⟨g', E', p'⟩ := E1.fill get_put_none hσ r6
  rw [put_put] at E'
  have P : (fe ++ g).Perm (fo ++ g') := perm_of fun c => by
    have c1 := (List.perm_iff_count.mp t4) c
    have c2 := (List.perm_iff_count.mp p') c
    have c3 := (List.perm_iff_count.mp hperm) c
    simp only [List.count_append, cnt_cons, List.cons_append] at c1 c2 c3 ⊢; omega
  have ok1 := ok.perm P
  have okN : Ok Z (upd H a (.dK kvs')) (fo ++ g') := ⟨ok1.nd, ok1.nz, fun b m => by
    by_cases h : b = a
    · subst h; rw [upd_same]; trivial
    · rw [off b h]; exact ok1.mu b m, fun c z => by
    by_cases h : c = a
    · subst h; rw [upd_same]; simp
    · rw [off c h]; exact ok1.zh c z⟩
  refine ⟨g', ⟨fun _ z => z, fun _ z => .inl z, fun c _ m => off c fun e => m (by rw [e]; simp [ham]), fun c m => .inl (P.mem_iff.mpr m), fun _ => ?_⟩, okN, ⟨E', okN.right, fun j i' k m => ?_⟩, fun j i' k m => ?_⟩
  · exact al0
  · obtain ⟨a', v, t1, t2, t3⟩ := S.sta.al j i' k m
    obtain ⟨dc, u4, u5⟩ := S.alv j i' k m
    by_cases hii : i' = i
    · subst hii
      rw [hσ] at t1; cases t1
      exact ⟨_, v, hσ, t2, hal j k m v t3⟩
    have hne : a' ≠ a := fun e' => con_off S.sta.ok u4 u5 t1 hii t3' t4 (by rw [e']; simp)
    refine ⟨a', v, t1, t2, ?_⟩
    cases k with
    | i n => obtain ⟨us, q1, q2⟩ := t3; exact ⟨us, by rw [off a' hne]; exact q1, q2⟩
    | s l => obtain ⟨us, q1, q2⟩ := t3; exact ⟨us, by rw [off a' hne]; exact q1, q2⟩
  · obtain ⟨dc, t4, t5⟩ := S.alv j i' k m
    by_cases hii : i = i'
    · subst hii
      exact ⟨_, get_put_same (get_lt t4), by simp [Con]⟩
    · exact ⟨dc, by rw [get_put_ne hii]; exact t4, t5⟩
theorem kyOk_len : ∀ {ks : List Ky} {l : List Key}, kyOk ks l → l.length = ks.length
  | [], l, h => by rw [show l = [] from h]; rfl
  | .x k :: r, l, h => by obtain ⟨l', rfl, h⟩ := h; simp [kyOk_len h]
  | .t _ :: _, l, h => h.elim
theorem kyOk_app : ∀ {ks : List Ky} {l : List Key} {k : Kx}, kyOk ks l → kyOk (ks ++ [.x k]) (l ++ [kxK k])
  | [], l, k, h => by rw [show l = [] from h]; exact ⟨[], rfl, rfl⟩
  | .x _ :: r, l, k, h => by obtain ⟨l', rfl, h⟩ := h; exact ⟨l' ++ [kxK k], rfl, kyOk_app h⟩
  | .t _ :: _, l, _, h => h.elim
theorem kyOk_mem : ∀ {ks : List Ky} {l : List Key} {k : Kx}, kyOk ks l → kxK k ∈ l → Ky.x k ∈ ks
  | [], l, k, h, m => by rw [show l = [] from h] at m; cases m
  | .x y :: r, l, k, h, m => by
    obtain ⟨l', rfl, h⟩ := h
    rcases List.mem_cons.mp m with e | m
    · rw [kxK_inj e]; simp
    · exact List.mem_cons_of_mem _ (kyOk_mem h m)
  | .t _ :: _, l, _, h, _ => h.elim
/-- a key that is there is set -/
theorem put_at : ∀ {ks : List Ky} {kvs : List (Key × V)} {k : Kx} {n : Nat} {v : V}, kyOk ks (kvs.map (·.1)) → ks.Nodup → kAt ks k = some n →
    (putK kvs (kxK k) v).map (·.1) = kvs.map (·.1) ∧ (putK kvs (kxK k) v).map (·.2) = (kvs.map (·.2)).set n v := by
  intro ks kvs k n v h nd e
  have key : ∀ (ks : List Ky) (kvs : List (Key × V)) (n : Nat), kyOk ks (kvs.map (·.1)) → ks.Nodup → kAt ks k = some n →
      (kvs.map fun kv => if kv.1 = kxK k then (kv.1, v) else kv).map (·.1) = kvs.map (·.1) ∧ (kvs.map fun kv => if kv.1 = kxK k then (kv.1, v) else kv).map (·.2) = (kvs.map (·.2)).set n v := by
    intro ks
    induction ks with
    | nil => intro kvs n h nd e; simp [kAt] at e
    | cons y r ih =>
      intro kvs n h nd e
      cases y with
      | t _ => exact h.elim
      | x y =>
        cases kvs with
        | nil => obtain ⟨_, h, _⟩ := h; cases h
        | cons p kvs =>
          obtain ⟨ks', h1, h2⟩ := h
          simp only [List.map_cons, List.cons.injEq] at h1
          obtain ⟨h1, rfl⟩ := h1
          obtain ⟨nd1, nd2⟩ := List.nodup_cons.mp nd
          simp only [kAt, List.findIdx?_cons] at e
          by_cases hy : y = k
          · subst hy
            simp at e
            subst e
            have hno : ∀ kv ∈ kvs, ¬ kv.1 = kxK y := fun kv hm e => nd1 (kyOk_mem h2 (by rw [← e]; exact List.mem_map.mpr ⟨kv, hm, rfl⟩))
            have hm : (kvs.map fun kv => if kv.1 = kxK y then (kv.1, v) else kv) = kvs := by
              conv => rhs; rw [← List.map_id kvs]
              exact List.map_congr_left fun kv hm => by rw [if_neg (hno kv hm)]; rfl
            simp only [List.map_cons, hm, h1, if_true, List.set_cons_zero]
            exact ⟨trivial, trivial⟩
          · have : ¬ (Ky.x y = Ky.x k) := fun e => hy (by injection e)
            simp [this] at e
            obtain ⟨j', e1, rfl⟩ := e
            have hne : ¬ p.1 = kxK k := fun e => hy (kxK_inj (h1.symm.trans e))
            obtain ⟨q1, q2⟩ := ih kvs j' h2 nd2 (by simpa [kAt] using e1)
            simp only [List.map_cons, if_neg hne, List.set_cons_succ, q1, q2]
            exact ⟨trivial, trivial⟩
  obtain ⟨w, w1, w2⟩ := kAt_val h e
  have hany : (kvs.any fun kv => decide (kv.1 = kxK k)) = true := by rw [valV_any, w2]; rfl
  unfold putK
  rw [if_pos hany]
  exact key ks kvs n h nd e
theorem put_new {ks : List Ky} {kvs : List (Key × V)} {k : Kx} {v : V} (h : kyOk ks (kvs.map (·.1))) (e : kAt ks k = none) : putK kvs (kxK k) v = kvs ++ [(kxK k, v)] := by
  have := kAt_none h e
  unfold putK
  rw [if_neg]
  intro hc
  obtain ⟨kv, hm, he⟩ := List.any_eq_true.mp hc
  exact this (List.mem_map.mpr ⟨kv, hm, by simpa using he⟩)
end
section
variable {X : Cx} {C : Cfg} {Γ : Al} {Kp : List Nat}
def tDc (K : PySem.W.Frag) (Γ : Al) (i : Nat) : TE := fun σ H Q => ∃ Z g ρ ks xs, Stb K Γ Z H ρ σ g ∧ GN.get ρ i = some (.dct .own ks xs) ∧ ∀ a, σ[i]? = some (some (.ref a)) → Q (.ref a) H
theorem dc_v {i : Nat} {x : Str} {pos : Pos} (hN : X.N[i]? = some x) (hv : visB X.env.scope x = true) (hn : nameB x = true) : PE X (.Name x pos) (tDc X.K Γ i) := PE.imp (visName hN hv hn) fun σ H Q ⟨Z, g, ρ, ks, xs, S, e, q⟩ => by
  obtain ⟨v, fv, g0, t1, t2, t3, t4⟩ := S.sta.env.take e
  obtain ⟨a', kvs, f, rfl, _⟩ := t2
  exact ⟨.ref a', t1, q a' t1⟩
theorem setD_ok (hu : X.A.units + 64 < cLine) {i : Nat} {a : ME} {k : MA} {o ke e : Expr} {spos pos : Pos} (h : Exp X Γ (ev C a) e) (hp : PE X o (tDc X.K Γ i)) (hk : Atm X Γ (evA C k) ke) (hal : ∀ j k', (j, i, k') ∈ Γ → ∃ l l', k = .cst (.str l) ∧ k' = .s (toS l') ∧ l ≠ l')
    (ha : ∀ v, assign (.Subscript o ke spos) X.env v = (do
      let ov ← holding [v] (eval o X.env)
      let iv ← holding [v, ov] (eval ke X.env)
      standAt spos
      holding [v, ov, iv] (setItem ov iv v)
      release [v, ov, iv] [])) (hs : swapsWithSole [.Subscript o ke spos] e pos.line X.env = pure false) (hw : swappedStores [.Subscript o ke spos] e X.env = pure none) (h1 : (assignEach [.Subscript o ke spos] X.env).map (·.2) = [assign (.Subscript o ke spos) X.env]) :
    PS X (.Assign [.Subscript o ke spos] e pos) (tS X.K Γ Kp (ex C (.setD i k a))) := PS.imp (ps_asg h.1 (pg_sub hp hk.1 (set_dict (by omega)) ha) hs hw h1) fun D σ H ⟨Z, g, ρ, fl, S, e, w⟩ => by
  simp only [ex] at e
  obtain ⟨⟨d, ρ1⟩, e1, e⟩ := Option.bind_eq_some_iff.mp e
  obtain ⟨kd, e2, e⟩ := Option.bind_eq_some_iff.mp e
  obtain ⟨kx, e3, e⟩ := Option.bind_eq_some_iff.mp e
  split at e
  · rename_i ks xs hgi
    split at e
    · rename_i hc
      obtain ⟨hnd, hlen⟩ := hc
      refine tM_of S e1 fun v H1 Z1 f g1 s1 o1 r1 S1 => ⟨Z1, g1, ρ1, ks, xs, S1, hgi, fun a hσ => tA_of S1.sta e2 fun iv H2 Z2 F bi => ?_⟩
      obtain ⟨s2, o2⟩ := F.sp0 o1
      have ag := F.agr (g := f) fun b m => isM_ne (o1.mu b (by simp [m]))
      obtain ⟨kvs, f0, hH, hky, hrl, hf0, ham, fin⟩ := dict_set (fe := f) (S1.fsh F) o2 hgi hσ
      have hiv : iv = kV (kxK kx) := by
        cases kd <;> simp [kxOf] at e3
        · subst e3; exact bi.int
        · subst e3; exact bi.str
      have hkl : kvs.length = xs.length := by have := hrl.len; simpa using this
      have hlt : kvs.length < sizeLine := by rw [hkl, ← line_eq]; exact hlen
      have o2' : Ok Z2 H2 (f ++ g1) := o2
      have nd := List.nodup_append.mp o2'.nd
      have nza : ¬ Z2 a := (S1.fsh F).sta.ok.nz a ham
      have agd : ∀ H3 : Hp, (∀ c, c ≠ a → H3 c = H2 c) → ∀ l : List Addr, (∀ c ∈ l, c ≠ a) → Agr Z2 H2 l Z2 H3 := fun H3 off l hl =>
        ⟨fun _ z => z, fun c z _ => off c fun e => nza (e ▸ z), fun c _ m => off c fun e => m (by rw [e, hH]; trivial), fun c m => off c (hl c m)⟩
      have hfa : ∀ c ∈ f, c ≠ a := fun c m e => nd.2.2 c m a ham e
      have r1' : Rel X.K Z2 H2 d v f := Rel.agr _ _ _ r1 ag
      have hal2 : ∀ kvs', kvs' = putK kvs (kxK kx) v → ∀ j k', (j, i, k') ∈ Γ → ∀ w, ItemAt H2 a k' w → ItemAt (upd H2 a (.dK kvs')) a k' w := fun kvs' ek j k' m w it => by
        obtain ⟨l, l', rfl, rfl, hll⟩ := hal j k' m
        simp only [evA, Option.some.injEq] at e2
        subst e2
        simp only [kxOf, Option.some.injEq] at e3
        subst e3
        obtain ⟨us, u1, u2⟩ := it
        rw [hH] at u1; cases u1
        refine ⟨_, upd_same, ?_⟩
        rw [ek, valV_put, if_neg]
        · exact u2
        · intro e; have e9 := kxK_inj (a := .s l) (b := .s l') e.symm; injection e9 with e9; exact hll e9
      cases hka : kAt ks kx with
      | some n =>
        rw [hka] at e
        simp only [Option.some.injEq] at e
        subst e
        obtain ⟨w0, w1, w2⟩ := kAt_val hky hka
        have hx : n < xs.length := by have := (List.getElem?_eq_some_iff.mp w1).1; simpa [hkl] using this
        obtain ⟨q1, q2⟩ := put_at (v := v) hky hnd hka
        obtain ⟨wv, f1, f2, p1, p2, p3, p4⟩ := RelL.pick hrl (n := n) (d := xs[n]) (by simp [hx])
        obtain ⟨f', p5, p6⟩ := p4 f
        obtain ⟨g', s', o', S'⟩ := fin (putK kvs (kxK kx) v) ks (xs.set n d) f' f1 (by rw [q1]; exact hky)
          (fun H3 off => by rw [q2]; exact p6 Z2 H3 d v (agd H3 off f2 fun c m => (hf0 c (p3.mem_iff.mpr (by simp [m]))).2) (Rel.agr _ _ _ r1' (agd H3 off f hfa)))
          (perm_of fun x => by
            have c1 := (List.perm_iff_count.mp p3) x
            have c2 := (List.perm_iff_count.mp p5) x
            simp only [List.count_append] at c1 c2 ⊢; omega) (hal2 _ rfl)
        exact ⟨a, _, rfl, by rw [hiv]; exact DPut.k hH hlt, w σ _ Z2 g' ((s1.trans s2).trans (Stp.drop s')) S' Kep.refl⟩
      | none =>
        rw [hka] at e
        simp only [Option.some.injEq] at e
        subst e
        obtain ⟨g', s', o', S'⟩ := fin (kvs ++ [(kxK kx, v)]) (ks ++ [.x kx]) (xs ++ [d]) (f0 ++ f) [] (by rw [List.map_append]; exact kyOk_app hky)
          (fun H3 off => by
            rw [List.map_append]
            exact RelL.app (RelL.agr _ _ _ hrl (agd H3 off f0 fun c m => (hf0 c m).2)) ⟨v, [], f, [], rfl, by simp, Rel.agr _ _ _ r1' (agd H3 off f hfa), rfl, rfl⟩)
          (by rw [List.append_nil]; exact List.perm_append_comm) (hal2 _ (put_new hky hka).symm)
        exact ⟨a, _, rfl, by rw [hiv, ← put_new hky hka]; exact DPut.k hH hlt, w σ _ Z2 g' ((s1.trans s2).trans s') S' Kep.refl⟩
    · cases e
  · cases e
end
section
variable {K : PySem.W.Frag} {Γ : Al} {σ : L2.St} {Z Z1 : Addr → Prop} {H H1 : Hp} {g f : List Addr} {ρ ρ' : Env}
theorem stb_off {p : Addr} {kvs0 kvs : List (Key × V)} (S : Stb K Γ Z H ρ σ g) (hp : H p = some (.dK kvs0)) (nz : ¬ Z p) (ng : p ∉ g) : Stb K Γ Z (upd H p (.dK kvs)) ρ σ g := by
  have off : ∀ c, c ≠ p → upd H p (.dK kvs) c = H c := fun c h => upd_ne h
  have ag : Agr Z H g Z (upd H p (.dK kvs)) := ⟨fun _ z => z, fun c z _ => off c fun e => nz (e ▸ z), fun c _ m => off c fun e => m (by rw [e, hp]; trivial), fun c m => off c fun e => ng (e ▸ m)⟩
  refine ⟨⟨EnvRel.agr _ _ _ S.sta.env ag, ⟨S.sta.ok.nd, S.sta.ok.nz, fun b m => by rw [off b fun e => ng (e ▸ m)]; exact S.sta.ok.mu b m, fun c z => by rw [off c fun e => nz (e ▸ z)]; exact S.sta.ok.zh c z⟩, fun j i' k m => ?_⟩, S.alv⟩
  obtain ⟨a', v, t1, t2, t3⟩ := S.sta.al j i' k m
  obtain ⟨dc, u4, u5⟩ := S.alv j i' k m
  have hne : a' ≠ p := by
    intro e'
    obtain ⟨v', f', q1, q2, q3⟩ := S.sta.env.get u4
    rw [t1] at q1; cases q1
    obtain ⟨b, eb, _, hz⟩ := u5.rel q2
    cases eb
    rcases hz with z | z
    · exact nz (e' ▸ z)
    · exact ng (e' ▸ q3 a' z)
  refine ⟨a', v, t1, t2, ?_⟩
  cases k with
  | i n => obtain ⟨us, q1, q2⟩ := t3; exact ⟨us, by rw [off a' hne]; exact q1, q2⟩
  | s l => obtain ⟨us, q1, q2⟩ := t3; exact ⟨us, by rw [off a' hne]; exact q1, q2⟩
end
section
variable {X : Cx} {C : Cfg} {Γ : Al} {Kp : List Nat}
/-- what a key stands as -/
def kxE : Kx → Expr → Bool
  | .i n, e => match e with | .Constant (.int m) _ _ => decide (m = n) | _ => false
  | .s l, e => match e with | .Constant (.str x) _ _ => decide (x = toS l) | _ => false
def kxsE : List Kx → List (Option Expr) → Bool
  | [], es => es.isEmpty
  | k :: r, es => match es with | some e :: s => kxE k e && kxsE r s | _ => false
theorem kxE_pe : ∀ {k : Kx} {e : Expr}, kxE k e = true → PE X e (tC (kV (kxK k)))
  | .i n, e, h => by
    simp only [kxE] at h
    split at h
    · rw [of_decide_eq_true h]; exact pe_int
    · cases h
  | .s l, e, h => by
    simp only [kxE] at h
    split at h
    · rw [of_decide_eq_true h]; exact pe_str
    · cases h
theorem pps_of : ∀ {kx : List Kx} {keys : List (Option Expr)} {es : List Expr} {ts : List TE} {pos : Pos}, kxsE kx keys = true → PEs X es ts → kx.length = es.length → PPs X pos keys es ((kx.map fun k => tC (kV (kxK k))).zip ts)
  | [], keys, _, _, pos, h, .nil, _ => by
    have : keys = [] := by simpa [kxsE] using h
    subst this; exact pps_nil
  | k :: r, keys, _, _, pos, h, .cons p m q, hl => by
    unfold kxsE at h
    split at h
    · simp only [Bool.and_eq_true] at h
      exact pps_cons (kxE_pe h.1) p (pps_of h.2 q (by simpa using hl))
    · cases h
  | [], _, _, _, _, _, .cons _ _ _, hl => by simp at hl
  | _ :: _, _, _, _, _, _, .nil, hl => by simp at hl
theorem pairs_of : ∀ {kx : List Kx} {es : List Expr} {ts : List TE} {σ : L2.St} {H : Hp} {Q : List (V × V) → Hp → Prop}, PEs X es ts → kx.length = es.length →
    GN.tSeq ts σ H (fun vs H1 => Q ((kx.map fun k => kV (kxK k)).zip vs) H1) → tPairs ((kx.map fun k => tC (kV (kxK k))).zip ts) σ H Q
  | [], _, _, σ, H, Q, .nil, _, q => q
  | k :: r, _, _, σ, H, Q, .cons p m s, hl, q => m σ H _ _ (fun v H1 q1 => pairs_of (kx := r) s (by simpa using hl) q1) q
  | [], _, _, _, _, _, .cons _ _ _, hl, _ => by simp at hl
  | _ :: _, _, _, _, _, _, .nil, hl, _ => by simp at hl
theorem kyOk_map : ∀ ks : List Kx, kyOk (ks.map Ky.x) (ks.map kxK)
  | [] => rfl
  | k :: r => ⟨_, rfl, kyOk_map r⟩
theorem merge_new : ∀ {more acc : List (Key × V)}, (acc ++ more).map (·.1) |>.Nodup → mergeK acc more = acc ++ more
  | [], acc, _ => by simp [mergeK]
  | p :: r, acc, h => by
    have hp : putK acc p.1 p.2 = acc ++ [p] := by
      unfold putK
      rw [if_neg]
      intro hc
      obtain ⟨kv, hm, he⟩ := List.any_eq_true.mp hc
      rw [List.map_append, List.nodup_append] at h
      exact h.2.2 kv.1 (List.mem_map.mpr ⟨kv, hm, rfl⟩) p.1 (by simp) (by simpa using he)
    show mergeK (putK acc p.1 p.2) r = _
    rw [hp, merge_new (by rw [List.append_assoc]; exact h), List.append_assoc]; rfl
theorem zip_fst {kx : List Kx} {vs : List V} (h : kx.length = vs.length) : ((kx.map kxK).zip vs).map (·.1) = kx.map kxK ∧ ((kx.map kxK).zip vs).map (·.2) = vs :=
  ⟨List.map_fst_zip (by simp [h]), List.map_snd_zip (by simp [h])⟩
theorem nodup_kx : ∀ {ks : List Kx}, ks.Nodup → (ks.map kxK).Nodup
  | [], _ => by simp
  | k :: r, h => by
    obtain ⟨a, b⟩ := List.nodup_cons.mp h
    rw [List.map_cons, List.nodup_cons]
    refine ⟨fun m => ?_, nodup_kx b⟩
    obtain ⟨y, hy, e⟩ := List.mem_map.mp m
    rw [kxK_inj e] at hy
    exact a hy
theorem zip_kv : ∀ {ks : List Kx} {vs : List V}, (ks.map fun k => kV (kxK k)).zip vs = ((ks.map kxK).zip vs).map fun kv => (kV kv.1, kv.2)
  | [], _ => rfl
  | k :: r, [] => rfl
  | k :: r, v :: vs => by simp only [List.map_cons, List.zip_cons_cons, zip_kv]
theorem dnew_ok {pos : Pos} : Exp X Γ (ev C (.dct [] .nil)) (.Dict [] [] pos) := by
  refine Exp.of (pv_plain pe_dnewK fun _ => rfl) (fun _ _ _ e => nomatch e) fun σ H Q ⟨Z, g, ρ, d, ρ', S, e, q⟩ => ?_
  simp only [ev, evOs, Option.bind_some] at e
  obtain ⟨hc, e3⟩ := ite_some e
  cases e3
  intro p hn
  have F : Fsh Z H Z (upd H p (.dK [])) [p] := Fsh.one S.sta.ok.zh hn (.inr ⟨rfl, trivial⟩)
  obtain ⟨s1, o1⟩ := F.sp0 S.sta.ok
  exact q _ _ _ [p] g s1 o1 ⟨p, [], [], rfl, upd_same, rfl, rfl, rfl, rfl⟩ (S.fsh F)
theorem dct_ok {ks : List Kx} {as : MOs} {keys : List (Option Expr)} {es : List Expr} {pos : Pos} (h : OsE X C Γ as es) (hp : nopl as = true) (hk : kxsE ks keys = true) (hl : ks.length = es.length) (h0 : keys ≠ []) (hkl : keys.length = es.length) (h15 : keys.length ≤ 15) :
    Exp X Γ (ev C (.dct ks as)) (.Dict keys es pos) := by
  have hall : keys.all (·.isSome) = true := by
    have : ∀ (ks : List Kx) (keys : List (Option Expr)), kxsE ks keys = true → keys.all (·.isSome) = true := fun ks => by
      induction ks with
      | nil => intro keys h; have : keys = [] := by simpa [kxsE] using h
               subst this; rfl
      | cons k r ih =>
        intro keys h
        unfold kxsE at h
        split at h
        · simp only [Bool.and_eq_true] at h
          simp [ih _ h.2]
        · cases h
    exact this ks keys hk
  · refine Exp.of (pv_plain (pe_disp (pps_of hk h.pes hl) hall hkl h0 h15) fun _ => rfl) (fun _ _ _ e => nomatch e) fun σ H Q ⟨Z, g, ρ, d, ρ', S, e, q⟩ => ?_
    simp only [ev] at e
    obtain ⟨⟨ds, ρ1⟩, e1, e2⟩ := Option.bind_eq_some_iff.mp e
    obtain ⟨hc, e3⟩ := ite_some e2
    cases e3
    obtain ⟨hdl, hnd, _⟩ := hc
    simp only at hdl
    intro p hn
    have F : Fsh Z H Z (upd H p (.dK [])) [p] := Fsh.one S.sta.ok.zh hn (.inr ⟨rfl, trivial⟩)
    obtain ⟨s1, o1⟩ := F.sp0 S.sta.ok
    refine pairs_of h.pes hl (os_ok h (S.fsh F) e1 fun vs H2 Z2 f g2 s2 o2 r2 S2 => ?_)
    obtain ⟨s3, o3⟩ := s2.part o1 o2
    have r := r2.rel hp
    have hng : p ∉ g := fun m => by have := isM_ne (S.sta.ok.mu p m); exact this hn
    have hp2 : H2 p = some (.dK []) := by rw [s2.fr p (by rw [upd_same]; simp) hng, upd_same]
    have hvl : ks.length = vs.length := by rw [r.len, hdl]
    have hz := zip_fst hvl
    have hnd2 := nodup_kx hnd
    have hm : mergeK [] ((ks.map kxK).zip vs) = (ks.map kxK).zip vs := merge_new (by rw [List.nil_append, hz.1]; exact hnd2)
    refine ⟨hp2, (ks.map kxK).zip vs, ?_, ?_, ?_⟩
    · exact zip_kv
    · rw [List.length_zip, List.length_map]
      omega
    · rw [hm]
      have nd := List.nodup_cons.mp (show (p :: (f ++ g2)).Nodup from o3.nd)
      have nz : ¬ Z2 p := o3.nz p (by simp)
      have off : ∀ c, c ≠ p → upd H2 p (.dK ((ks.map kxK).zip vs)) c = H2 c := fun c h => upd_ne h
      have ag : Agr Z2 H2 f Z2 (upd H2 p (.dK ((ks.map kxK).zip vs))) := ⟨fun _ z => z, fun c z _ => off c fun e => nz (e ▸ z), fun c _ m => off c fun e => m (by rw [e, hp2]; trivial), fun c m => off c fun e => nd.1 (by rw [← e]; simp [m])⟩
      refine q _ _ Z2 (p :: f) g2 ((s1.trans s3).trans ⟨fun _ z => z, fun _ z => .inl z, fun c _ m => off c fun e => m (by rw [e]; simp), fun c m => .inl m, fun _ => ?_⟩) ?_ ⟨p, _, f, rfl, upd_same, by rw [hz.1]; exact kyOk_map ks, rfl, by rw [hz.2]; exact RelL.agr _ _ _ r ag⟩ (stb_off S2 hp2 nz fun m => nd.1 (by simp [m]))
      · exact al0
      · exact ⟨o3.nd, o3.nz, fun b m => by
          by_cases h : b = p
          · subst h; rw [upd_same]; trivial
          · rw [off b h]; exact o3.mu b m, fun c z => by
          by_cases h : c = p
          · subst h; rw [upd_same]; simp
          · rw [off c h]; exact o3.zh c z⟩
end
end GN
end

section
set_option linter.all false
set_option maxRecDepth 100000
set_option maxHeartbeats 400000
namespace GN
open PySem PySem.Spec PyProof.Rows L2
section
variable {X : Cx} {C : Cfg} {Γ : Al} {Kp : List Nat}
theorem setE_ok (hu : X.A.units + 64 < cLine) {i : Nat} {a k : ME} {o ke e : Expr} {spos pos : Pos} (h : Exp X Γ (ev C a) e) (hp : PE X o (tVar i)) (hk : Exp X Γ (ev C k) ke) (hf : freeB Γ i = true)
    (ha : ∀ v, assign (.Subscript o ke spos) X.env v = (do
      let ov ← holding [v] (eval o X.env)
      let iv ← holding [v, ov] (eval ke X.env)
      standAt spos
      holding [v, ov, iv] (setItem ov iv v)
      release [v, ov, iv] [])) (hs : swapsWithSole [.Subscript o ke spos] e pos.line X.env = pure false) (hw : swappedStores [.Subscript o ke spos] e X.env = pure none) (h1 : (assignEach [.Subscript o ke spos] X.env).map (·.2) = [assign (.Subscript o ke spos) X.env]) :
    PS X (.Assign [.Subscript o ke spos] e pos) (tS X.K Γ Kp (ex C (.setE i k a))) := PS.imp (ps_asg h.1 (pg_sub hp hk.1 (set_dict (by omega)) ha) hs hw h1) fun D σ H ⟨Z, g, ρ, fl, S, e, w⟩ => by
  simp only [ex] at e
  obtain ⟨⟨d, ρ1⟩, e1, e⟩ := Option.bind_eq_some_iff.mp e
  obtain ⟨d0, e0, e⟩ := Option.bind_eq_some_iff.mp e
  obtain ⟨⟨kd, ρ2⟩, e2, e⟩ := Option.bind_eq_some_iff.mp e
  obtain ⟨kx, e3, e⟩ := Option.bind_eq_some_iff.mp e
  simp only at e e0 e2 e3
  split at e
  · rename_i ks xs hgi
    split at e
    · rename_i hc
      obtain ⟨hnd, hlen⟩ := hc
      refine tM_of S e1 fun v H1 Z1 f g1 s1 o1 r1 S1 => ?_
      obtain ⟨v0, fv0, t1, t2, _⟩ := S1.sta.env.get e0
      refine ⟨v0, t1, tM_of S1 e2 fun iv H2 Z2 fk g2 s2 o2 bi S2 => ?_⟩
      have hfk : fk = [] := by
        cases kd <;> simp [kxOf] at e3
        · exact bi.2
        · exact bi.2
      subst hfk
      obtain ⟨s3, o3⟩ := s2.part o1 o2
      simp only [List.nil_append] at s3 o3
      obtain ⟨v1, fv1, g9, u1, u2, _, _⟩ := S2.sta.env.take hgi
      obtain ⟨a, kvs9, f9, e9, _⟩ := u2
      subst e9
      have hσ := u1
      rw [t1] at u1
      cases u1
      obtain ⟨kvs, f0, hH, hky, hrl, hf0, ham, fin⟩ := dict_set (fe := f) S2 o3 hgi hσ
      have hiv : iv = kV (kxK kx) := by
        cases kd <;> simp [kxOf] at e3
        · subst e3; exact bi.1
        · subst e3; exact bi.1
      have hkl : kvs.length = xs.length := by have := hrl.len; simpa using this
      have hlt : kvs.length < sizeLine := by rw [hkl, ← line_eq]; exact hlen
      have o2' : Ok Z2 H2 (f ++ g2) := o3
      have nd := List.nodup_append.mp o2'.nd
      have nza : ¬ Z2 a := S2.sta.ok.nz a ham
      have agd : ∀ H3 : Hp, (∀ c, c ≠ a → H3 c = H2 c) → ∀ l : List Addr, (∀ c ∈ l, c ≠ a) → Agr Z2 H2 l Z2 H3 := fun H3 off l hl =>
        ⟨fun _ z => z, fun c z _ => off c fun e => nza (e ▸ z), fun c _ m => off c fun e => m (by rw [e, hH]; trivial), fun c m => off c (hl c m)⟩
      have hfa : ∀ c ∈ f, c ≠ a := fun c m e => nd.2.2 c m a ham e
      have r1' : Rel X.K Z2 H2 d v f := Rel.agr _ _ _ r1 (s2.agr o1)
      have hal2 : ∀ kvs', kvs' = putK kvs (kxK kx) v → ∀ j k', (j, i, k') ∈ Γ → ∀ w, ItemAt H2 a k' w → ItemAt (upd H2 a (.dK kvs')) a k' w := fun kvs' ek j k' m w it => absurd rfl (freeB_ne hf m)
      cases hka : kAt ks kx with
      | some n =>
        rw [hka] at e
        simp only [Option.some.injEq] at e
        subst e
        obtain ⟨w0, w1, w2⟩ := kAt_val hky hka
        have hx : n < xs.length := by have := (List.getElem?_eq_some_iff.mp w1).1; simpa [hkl] using this
        obtain ⟨q1, q2⟩ := put_at (v := v) hky hnd hka
        obtain ⟨wv, f1, f2, p1, p2, p3, p4⟩ := RelL.pick hrl (n := n) (d := xs[n]) (by simp [hx])
        obtain ⟨f', p5, p6⟩ := p4 f
        obtain ⟨g', s', o', S'⟩ := fin (putK kvs (kxK kx) v) ks (xs.set n d) f' f1 (by rw [q1]; exact hky)
          (fun H3 off => by rw [q2]; exact p6 Z2 H3 d v (agd H3 off f2 fun c m => (hf0 c (p3.mem_iff.mpr (by simp [m]))).2) (Rel.agr _ _ _ r1' (agd H3 off f hfa)))
          (perm_of fun x => by
            have c1 := (List.perm_iff_count.mp p3) x
            have c2 := (List.perm_iff_count.mp p5) x
            simp only [List.count_append] at c1 c2 ⊢; omega) (hal2 _ rfl)
        exact ⟨a, _, rfl, by rw [hiv]; exact DPut.k hH hlt, w σ _ Z2 g' ((s1.trans s3).trans (Stp.drop s')) S' Kep.refl⟩
      | none =>
        rw [hka] at e
        simp only [Option.some.injEq] at e
        subst e
        obtain ⟨g', s', o', S'⟩ := fin (kvs ++ [(kxK kx, v)]) (ks ++ [.x kx]) (xs ++ [d]) (f0 ++ f) [] (by rw [List.map_append]; exact kyOk_app hky)
          (fun H3 off => by
            rw [List.map_append]
            exact RelL.app (RelL.agr _ _ _ hrl (agd H3 off f0 fun c m => (hf0 c m).2)) ⟨v, [], f, [], rfl, by simp, Rel.agr _ _ _ r1' (agd H3 off f hfa), rfl, rfl⟩)
          (by rw [List.append_nil]; exact List.perm_append_comm) (hal2 _ (put_new hky hka).symm)
        exact ⟨a, _, rfl, by rw [hiv, ← put_new hky hka]; exact DPut.k hH hlt, w σ _ Z2 g' ((s1.trans s3).trans s') S' Kep.refl⟩
    · cases e
  · cases e
end
end GN
end

section
set_option linter.all false
set_option maxRecDepth 100000
set_option maxHeartbeats 4000000
namespace GN
open PySem PySem.Spec PyProof.Rows L2
/-! {k: v} with a reckoned key; d.setdefault(k, []).append(x) -/
section
variable {X : Cx} {C : Cfg} {Γ : Al} {Kp : List Nat}
theorem pairs_1 {tk te : TE} {σ : L2.St} {H : Hp} {Q : List (V × V) → Hp → Prop} (m1 : Mono tk) (m2 : Mono te) (h : GN.tSeq [tk, te] σ H fun vs H1 => ∃ a b, vs = [a, b] ∧ Q [(a, b)] H1) : tPairs [(tk, te)] σ H Q :=
  m1 σ H _ _ (fun v H1 q => m2 σ H1 _ _ (fun w H2 q => by obtain ⟨a, b, e, q⟩ := q; cases e; exact q) q) h
theorem dctK_ok {as : MOs} {ke e : Expr} {pos : Pos} (h : OsE X C Γ as [ke, e]) (hp : nopl as = true) :
    Exp X Γ (ev C (.dctK as)) (.Dict [some ke] [e] pos) := by
  obtain ⟨tk, te, p1, m1, p2, m2, hos⟩ : ∃ tk te, PE X ke tk ∧ Mono tk ∧ PE X e te ∧ Mono te ∧ tos X.K C Γ as = [tk, te] := by
    have q := h.pes
    generalize tos X.K C Γ as = ts at q
    cases q with
    | cons a b c => cases c with
      | cons a' b' c' => cases c'; exact ⟨_, _, a, b, a', b', rfl⟩
  refine Exp.of (pv_plain (pe_disp (pps_cons p1 p2 pps_nil) rfl rfl (by simp) (by simp)) fun _ => rfl) (fun _ _ _ e => nomatch e) fun σ H Q ⟨Z, g, ρ, d, ρ', S, e, q⟩ => ?_
  simp only [ev] at e
  obtain ⟨⟨ds, ρ1⟩, e1, e2⟩ := Option.bind_eq_some_iff.mp e
  simp only at e2
  split at e2
  · rename_i kd dd
    obtain ⟨kx, e3, e4⟩ := Option.bind_eq_some_iff.mp e2
    simp only [Option.some.injEq, Prod.mk.injEq] at e4
    obtain ⟨rfl, rfl⟩ := e4
    intro p hn
    have F : Fsh Z H Z (upd H p (.dK [])) [p] := Fsh.one S.sta.ok.zh hn (.inr ⟨rfl, trivial⟩)
    obtain ⟨s1, o1⟩ := F.sp0 S.sta.ok
    refine pairs_1 m1 m2 ?_
    rw [← hos]
    refine os_ok h (S.fsh F) e1 fun vs H2 Z2 f g2 s2 o2 r2 S2 => ?_
    obtain ⟨s3, o3⟩ := s2.part o1 o2
    have r := r2.rel hp
    have hng : p ∉ g := fun m => by have := isM_ne (S.sta.ok.mu p m); exact this hn
    have hp2 : H2 p = some (.dK []) := by rw [s2.fr p (by rw [upd_same]; simp) hng, upd_same]
    obtain ⟨vk, r', fk, fv, rfl, rfl, r3, r4⟩ := r
    obtain ⟨vd, r'', fd, f0, rfl, rfl, r5, r6⟩ := r4
    obtain ⟨rfl, rfl⟩ := r6
    have ek : vk = kV (kxK kx) ∧ fk = [] := by
      cases kd <;> simp [kxOf] at e3
      · subst e3; exact ⟨r3.1, r3.2⟩
      · subst e3; exact ⟨r3.1, r3.2⟩
    obtain ⟨rfl, rfl⟩ := ek
    simp only [List.nil_append, List.append_nil] at s2 o2 s3 o3
    refine ⟨_, _, rfl, hp2, [(kxK kx, vd)], rfl, by simp, ?_⟩
    have nd := List.nodup_cons.mp (show (p :: (fd ++ g2)).Nodup from o3.nd)
    have nz : ¬ Z2 p := o3.nz p (by simp)
    have hm : mergeK [] [(kxK kx, vd)] = [(kxK kx, vd)] := by rw [merge_new (by simp)]; rfl
    rw [hm]
    have off : ∀ c, c ≠ p → upd H2 p (.dK [(kxK kx, vd)]) c = H2 c := fun c h => upd_ne h
    have ag : Agr Z2 H2 fd Z2 (upd H2 p (.dK [(kxK kx, vd)])) := ⟨fun _ z => z, fun c z _ => off c fun e => nz (e ▸ z), fun c _ m => off c fun e => m (by rw [e, hp2]; trivial), fun c m => off c fun e => nd.1 (by rw [← e]; simp [m])⟩
    refine q _ _ Z2 (p :: fd) g2 ((s1.trans s3).trans ⟨fun _ z => z, fun _ z => .inl z, fun c _ m => off c fun e => m (by rw [e]; simp), fun c m => .inl m, fun _ => ?_⟩) ?_ ⟨p, _, fd, rfl, upd_same, ⟨[], rfl, rfl⟩, rfl, ⟨vd, [], fd, [], rfl, by simp, Rel.agr _ _ _ r5 ag, rfl, rfl⟩⟩ (stb_off S2 hp2 nz fun m => nd.1 (by simp [m]))
    · exact al0
    · exact ⟨o3.nd, o3.nz, fun b m => by
        by_cases h : b = p
        · subst h; rw [upd_same]; trivial
        · rw [off b h]; exact o3.mu b m, fun c z => by
        by_cases h : c = p
        · subst h; rw [upd_same]; simp
        · rw [off c h]; exact o3.zh c z⟩
  · cases e2
theorem sda_ok {i j : Nat} {k : MA} {x z : Str} {ke : Expr} {px pz lpos apos cpos apos2 cpos2 pos : Pos} (hN : X.N[i]? = some x) (hv : visB X.env.scope x = true) (hn : nameB x = true) (hNj : X.N[j]? = some z) (hvj : visB X.env.scope z = true) (hnj : nameB z = true) (hk : Atm X Γ (evA C k) ke) (hs : nstar ke = true) (hij : i ≠ j) (hf : freeB Γ i = true)
    (hl1 : (apos.endLine == cpos.line) = true) (hl2 : (apos2.endLine == cpos2.line) = true) :
    PS X (.Expr (.Call (.Attribute (.Call (.Attribute (.Name x px) "setdefault" apos) [ke, .List [] lpos] [] cpos) "append" apos2) [.Name z pz] [] cpos2) pos) (tS X.K Γ Kp (ex C (.sda i k j))) := by
  have m2 : M2 X (.Name x px) "setdefault" apos ke (.List [] lpos) cpos := ⟨rfl, few_of (by rw [List.all_cons, hs]; rfl) (by simp), hl1, by rw [star_of hs]; rfl⟩
  refine PS.imp (ps_expr (pe_bm PySem.F.plainAttrs_list PySem.F.slot_list_append PySem.F.type_list_append mt_append (pe_dsetd (visName hN hv hn) hk.1 (pe_lst pa_nil) m2) (pa_cons (visName hNj hvj hnj) pa_nil rfl) rfl (few_of (by simp [nstar]) (by simp)) hl2 rfl (star_any _ _ _ rfl)) (swaps_none rfl _ _ _)) fun D σ H ⟨Z, g, ρ, fl, S, e, w⟩ => ?_
  simp only [ex] at e
  split at e
  · rename_i ks xs kd hgi hkd
    obtain ⟨kx, hkx, e⟩ := Option.bind_eq_some_iff.mp e
    obtain ⟨d, hd, e⟩ := Option.bind_eq_some_iff.mp e
    obtain ⟨⟨hpl, hnd, hlen⟩, e⟩ := ite_some' e
    obtain ⟨v0, fv0, g9, u1, u2, u3, u4⟩ := S.sta.env.take hgi
    obtain ⟨a, kvs, f9, rfl, hH, hky, hf9, hrl⟩ := u2
    obtain ⟨vj, fj, j1, j2, _⟩ := S.sta.env.get hd
    have := Rel.plain _ _ _ j2 hpl
    subst this
    have hkl : kvs.length = xs.length := by have := hrl.len; simpa using this
    have hlt : kvs.length < sizeLine := by rw [hkl, ← line_eq]; exact hlen
    refine ⟨.ref a, u1, a, rfl, .inl ⟨kvs, .inl hH⟩, tA_of S.sta hkd fun v H1 Z1 F1 bv => ?_⟩
    refine ⟨by simp [sizeLine_eq], fun p hp => ?_⟩
    have F2 : Fsh Z1 H1 Z1 (upd H1 p (.lst [])) [] := Fsh.one F1.ok.zh hp (.inl rfl)
    have hH2 : upd H1 p (.lst []) a = some (.dK kvs) := by
      rw [(F1.trans F2).fr a (by rw [hH]; simp)]; exact hH
    have hap : a ≠ p := fun e => by rw [← e, upd_same] at hH2; cases hH2
    have hvk : v = kV (kxK kx) := kx_bor hkx bv
    refine ⟨kvs, kxK kx, hH2, hvk, hlt, fun w0 hw0 => ?_, fun hnone => ?_⟩
    · cases hka : kAt ks kx with
      | none =>
        have h1 := kAt_valN (kvs := kvs) (k := kx) hky
        rw [hw0, hka] at h1
        cases h1
      | some n =>
        rw [hka] at e
        simp only at e
        obtain ⟨ys, e0, e⟩ := Option.bind_eq_some_iff.mp e
        obtain ⟨hl, e⟩ := ite_some' e
        obtain ⟨ρ2, e3, e4⟩ := Option.bind_eq_some_iff.mp e
        cases e4
        obtain ⟨b, vs, f, rest, h1, r, hpm, hat, _⟩ := place S.sta.env e0
        have hb : w0 = .ref b := by
          rcases hat with ⟨a', vs0, j', n', t1, t2, t3, t4, t5⟩ | ⟨a', kvs', kd', s, t1, t2, t3, t5, t4⟩
          · rw [u1] at t1; cases t1
            rw [hH] at t2; cases t2
          · rw [u1] at t1; cases t1
            rw [hH] at t2; cases t2
            rw [hkd] at t3; cases t3
            rw [hkx] at t5; cases t5
            rw [hw0] at t4; cases t4; rfl
        subst hb
        have F := F1.trans F2
        refine ⟨.inl ⟨rfl, vs, SqL.of (by rw [F.fr b (by rw [h1]; simp)]; exact h1)⟩, vj, j1, ?_⟩
        obtain ⟨s0, o0⟩ := F.sp0 S.sta.ok
        have rj : Rel X.K Z1 (upd H1 p (.lst [])) d vj [] := Rel.agr _ _ _ j2 (F.agr fun b m => nomatch m)
        exact app_core (Q := fun _ H => D.nx σ H) (S.fsh F) o0 rj e0 (hat.fsh F) (fun i' h => by cases h) e3 hl fun H3 g3 s3 S3 => w σ H3 Z1 g3 (s0.trans s3) S3 Kep.refl
    · cases hka : kAt ks kx with
      | some n =>
        obtain ⟨w0, w1, w2⟩ := kAt_val hky hka
        rw [hnone] at w2; cases w2
      | none =>
        rw [hka] at e
        simp only [Option.some.injEq] at e
        subst e
        rw [put_new hky hka]
        refine ⟨.inl ⟨rfl, [], SqL.of (by rw [upd_ne (Ne.symm hap)]; exact upd_same)⟩, vj, j1, ?_⟩
        refine ⟨p, [], vj, rfl, rfl, by rw [upd_ne (Ne.symm hap)]; exact upd_same, by simp [sizeLine_eq], ?_⟩
        have hfin : upd (upd (upd H1 p (.lst [])) a (.dK (kvs ++ [(kxK kx, .ref p)]))) p (.lst ([] ++ [vj])) = upd (upd H1 p (.lst [vj])) a (.dK (kvs ++ [(kxK kx, .ref p)])) := by
          funext c
          by_cases h1 : c = p
          · subst h1
            rw [upd_same, upd_ne (Ne.symm hap), upd_same]; rfl
          · rw [upd_ne h1]
            by_cases h2 : c = a
            · subst h2; rw [upd_same, upd_same]
            · rw [upd_ne h2, upd_ne h1, upd_ne h2, upd_ne h1]
        rw [hfin]
        have F3 : Fsh Z1 H1 Z1 (upd H1 p (.lst [vj])) [p] := Fsh.one F1.ok.zh hp (.inr ⟨rfl, trivial⟩)
        have F := F1.trans F3
        obtain ⟨s0, o0⟩ := F.sp0 S.sta.ok
        have S3 := S.fsh F
        obtain ⟨kvs3, f0, hH3, hky3, hrl3, hf0, ham, fin⟩ := dict_set (fe := [p]) S3 o0 hgi u1
        have ek : kvs3 = kvs := by
          rw [F.fr a (by rw [hH]; simp), hH] at hH3
          cases hH3; rfl
        subst ek
        have o0' := o0
        have ndp := List.nodup_append.mp o0'.nd
        have nza : ¬ Z1 a := S3.sta.ok.nz a ham
        have agd : ∀ H3 : Hp, (∀ c, c ≠ a → H3 c = upd H1 p (.lst [vj]) c) → ∀ l : List Addr, (∀ c ∈ l, c ≠ a) → Agr Z1 (upd H1 p (.lst [vj])) l Z1 H3 := fun H3 off l hl =>
          ⟨fun _ z => z, fun c z _ => off c fun e => nza (e ▸ z), fun c _ m => off c fun e => m (by rw [e, hH3]; trivial), fun c m => off c (hl c m)⟩
        have rj : Rel X.K Z1 (upd H1 p (.lst [vj])) d vj [] := Rel.agr _ _ _ j2 (F.agr fun b m => nomatch m)
        have rp : Rel X.K Z1 (upd H1 p (.lst [vj])) (.lst .own [d]) (.ref p) [p] := ⟨p, [vj], [], rfl, upd_same, rfl, vj, [], [], [], rfl, rfl, rj, rfl, rfl⟩
        obtain ⟨g', s', o', S'⟩ := fin (kvs3 ++ [(kxK kx, .ref p)]) (ks ++ [.x kx]) (xs ++ [.lst .own [d]]) (f0 ++ [p]) [] (by rw [List.map_append]; exact kyOk_app hky3)
          (fun H3 off => by
            rw [List.map_append]
            exact RelL.app (RelL.agr _ _ _ hrl3 (agd H3 off f0 fun c m => (hf0 c m).2)) ⟨.ref p, [], [p], [], rfl, by simp, Rel.agr _ _ _ rp (agd H3 off [p] fun c m => by
              have : c = p := by simpa using m
              rw [this]; exact Ne.symm hap), rfl, rfl⟩)
          (by rw [List.append_nil]; exact List.perm_append_comm) (fun j k' m w it => absurd rfl (freeB_ne hf m))
        exact w σ _ Z1 g' (s0.trans s') S' Kep.refl
  · cases e
end
end GN
end

section
set_option linter.all false
set_option maxRecDepth 100000
set_option maxHeartbeats 4000000
namespace GN
open PySem PySem.Spec PyProof.Rows L2
/-! what enumerate and zip walk on: lists, tuples, texts -/
inductive SK where | l | t | s
def SqK (K : PySem.W.Frag) : SK → Hp → V → List V → Prop
  | .l, H, v, vs => ∃ a, v = .ref a ∧ SqL K H a vs
  | .t, H, v, vs => ∃ a, v = .ref a ∧ SqT K H a vs
  | .s, H, v, vs => ∃ x : Str, v = .str x ∧ vs = x.cps.toList.map fun c => .str ⟨#[c]⟩
def adrs : Value → List Addr
  | .ref a => [a]
  | _ => []
/-- the iterator at it over u, at i -/
def IterK : SK → Value → Addr → Nat → Heap → Prop
  | .l, u, it, i, h => ∃ a, u = .ref a ∧ a ≠ it ∧ h.IsListIter it a i
  | .t, u, it, i, h => ∃ a, u = .ref a ∧ a ≠ it ∧ h.IsTupleIter it a i
  | .s, u, it, i, h => ∃ x t, u = .str x t ∧ h.IsStrIter it (strIterType x) x t i
def PK (vs : List V) (i : Nat) (v : Value) : Prop := ∃ x, vs[i]? = some x ∧ RelV x v
/-- the source itself -/
def SrcK : SK → Value → List V → Heap → Prop
  | .l, u, vs, h => ∃ a us, u = .ref a ∧ h.IsList a us.toArray ∧ Vals vs us
  | .t, u, vs, h => ∃ a us, u = .ref a ∧ h.IsTuple a us.toArray ∧ Vals vs us
  | .s, u, vs, h => ∃ (x : Str) (t : Tok), u = .str x t ∧ vs = x.cps.toList.map fun c => .str ⟨#[c]⟩
theorem SrcK.of {X : Cx} {pins : List (Addr × Obj)} {σ : L2.St} {H : Hp} {s : Shared} (I : Inv X pins σ H s) {k : SK} {v : V} {u : Value} {vs : List V} (h : SqK X.K k H v vs) (r : RelV v u) : SrcK k u vs s.heap := by
  cases k with
  | l =>
    obtain ⟨a, rfl, h⟩ := h
    obtain ⟨its, rv, p, _⟩ := I.list h
    cases r
    exact ⟨a, its, rfl, p.isList, rv⟩
  | t =>
    obtain ⟨a, rfl, h⟩ := h
    obtain ⟨its, rv, p, _⟩ := I.tuple h
    cases r
    exact ⟨a, its, rfl, p, rv⟩
  | s =>
    obtain ⟨x, rfl, rfl⟩ := h
    obtain ⟨t, rfl⟩ := r
    exact ⟨x, t, rfl, rfl⟩
theorem vals_at {vs : List V} {us : List Value} (r : Vals vs us) {i : Nat} {u : Value} (h : us.toArray[i]? = some u) : PK vs i u := by
  have h' : us[i]? = some u := by simpa using h
  have hl := (List.getElem?_eq_some_iff.mp h').1
  have e : vs[i]? = some (vs[i]'(by rw [r.length]; exact hl)) := by simp
  obtain ⟨u', h1, h2⟩ := r.get e
  rw [h'] at h1; cases h1
  exact ⟨_, e, h2⟩
theorem draws_K {prog : Program} {w : World} {A : Around} (hh : A.handled = none) {k : SK} {u : Value} {vs : List V} {h0 : Heap} (src : SrcK k u vs h0) (it : Addr) (hne : it ∉ adrs u) :
    ∃ St : Nat → Heap → Prop, Draws prog w A it (it :: adrs u) vs.length (PK vs) St ∧ (∀ i, IterK k u it i h0 → St i h0) ∧ ∀ i h, St i h → IterK k u it i h := by
  cases k with
  | l =>
    obtain ⟨a, us, rfl, hL, rv⟩ := src
    have ne : a ≠ it := fun e => hne (by simp [adrs, e])
    have D := Draws.list (prog := prog) (w := w) hh it a ne us.toArray
    have hsz : us.toArray.size = vs.length := by simp [rv.length]
    rw [hsz] at D
    refine ⟨_, ⟨D.live, D.frame, fun i s Q E hi st hQ => D.item i s Q E hi st fun x h' tk p => hQ x h' tk (vals_at rv p), D.done⟩, fun i q => ?_, fun i h q => ⟨a, rfl, ne, q.1⟩⟩
    obtain ⟨a', e, _, q⟩ := q
    cases e
    exact ⟨q, hL⟩
  | t =>
    obtain ⟨a, us, rfl, hL, rv⟩ := src
    have ne : a ≠ it := fun e => hne (by simp [adrs, e])
    have D := Draws.tuple (prog := prog) (w := w) hh it a ne us.toArray
    have hsz : us.toArray.size = vs.length := by simp [rv.length]
    rw [hsz] at D
    refine ⟨_, ⟨D.live, D.frame, fun i s Q E hi st hQ => D.item i s Q E hi st fun x h' tk p => hQ x h' tk (vals_at rv p), D.done⟩, fun i q => ?_, fun i h q => ⟨a, rfl, ne, q.1⟩⟩
    obtain ⟨a', e, _, q⟩ := q
    cases e
    exact ⟨q, hL⟩
  | s =>
    obtain ⟨x, t, rfl, rfl⟩ := src
    have D := Draws.text (prog := prog) (w := w) hh it x t
    have hsz : x.cps.size = (x.cps.toList.map fun c => V.str ⟨#[c]⟩).length := by simp
    rw [hsz] at D
    refine ⟨_, ⟨D.live, D.frame, fun i s Q E hi st hQ => D.item i s Q E hi st fun v h' tk p => ?_, D.done⟩, fun i q => ?_, fun i h q => ⟨x, t, rfl, q⟩⟩
    · obtain ⟨c, t', hc, rfl⟩ := p
      refine hQ _ h' tk ⟨.str ⟨#[c]⟩, ?_, ⟨t', rfl⟩⟩
      rw [List.getElem?_map]
      have : x.cps.toList[i]? = some c := by simpa using hc
      rw [this]; rfl
    · obtain ⟨x', t', e, q⟩ := q
      cases e
      exact q
/-- how it begins -/
theorem begins_K {k : SK} {u : Value} {vs : List V} {h0 : Heap} (src : SrcK k u vs h0) : ∃ (o : Obj) (Hc : Heap → Prop), Begins u o Hc ∧ Hc h0 ∧ ∀ it h', h'.get? it = some o → it ∉ adrs u → IterK k u it 0 h' := by
  cases k with
  | l =>
    obtain ⟨a, us, rfl, hL, rv⟩ := src
    exact ⟨_, _, begins_list a us.toArray, hL, fun it h' e ne => ⟨a, rfl, fun q => ne (by simp [adrs, q]), _, e, rfl, rfl⟩⟩
  | t =>
    obtain ⟨a, us, rfl, hL, rv⟩ := src
    exact ⟨_, _, begins_tuple a us.toArray, hL, fun it h' e ne => ⟨a, rfl, fun q => ne (by simp [adrs, q]), _, e, rfl, rfl⟩⟩
  | s =>
    obtain ⟨x, t, rfl, rfl⟩ := src
    exact ⟨_, _, begins_text x t, trivial, fun it h' e ne => ⟨x, t, rfl, _, e, rfl, rfl⟩⟩
theorem IterK.at {k : SK} {u : Value} {it : Addr} {i : Nat} {h h' : Heap} (q : IterK k u it i h) (e : ∀ o, h.get? it = some o → h'.get? it = some o) : IterK k u it i h' := by
  cases k with
  | l => obtain ⟨a, h1, h2, h3⟩ := q; exact ⟨a, h1, h2, h3.at e⟩
  | t => obtain ⟨a, h1, h2, h3⟩ := q; exact ⟨a, h1, h2, h3.at e⟩
  | s => obtain ⟨x, t, h1, o, h3, h4⟩ := q; exact ⟨x, t, h1, o, e o h3, h4⟩
theorem IterK.obj {k : SK} {u : Value} {it : Addr} {i : Nat} {h : Heap} (q : IterK k u it i h) : ∃ o, h.get? it = some o ∧ ∀ v, o.data ≠ .cell v := by
  cases k with
  | l => obtain ⟨a, h1, h2, o, h3, h4, h5⟩ := q; exact ⟨o, h3, fun v e => by rw [h5] at e; cases e⟩
  | t => obtain ⟨a, h1, h2, o, h3, h4, h5⟩ := q; exact ⟨o, h3, fun v e => by rw [h5] at e; cases e⟩
  | s => obtain ⟨x, t, h1, o, h3, h4, h5⟩ := q; exact ⟨o, h3, fun v e => by rw [h5] at e; cases e⟩
theorem adrs_lt {k : SK} {u : Value} {vs : List V} {h : Heap} (src : SrcK k u vs h) : ∀ b ∈ adrs u, b < h.objs.size := by
  cases k with
  | l => obtain ⟨a, us, rfl, ⟨o, ho, _⟩, rv⟩ := src; intro b m; simp [adrs] at m; subst m; exact Heap.lt_size ho
  | t => obtain ⟨a, us, rfl, ⟨o, ho, _⟩, rv⟩ := src; intro b m; simp [adrs] at m; subst m; exact Heap.lt_size ho
  | s => obtain ⟨x, t, rfl, rfl⟩ := src; intro b m; cases m
/-! ### enumerate -/
def IteK (K : PySem.W.Frag) (k : SK) (v : V) (vs : List V) : It :=
  ⟨fun i H => SqK K k H v vs ∧ i < vs.length, fun i H y H' => ∃ T x, y = .ref T ∧ H T = none ∧ H' = upd H T (.tup [.int (i : Nat), x]) ∧ vs[i]? = some x, fun i H => SqK K k H v vs ∧ i = vs.length⟩
theorem turn_enumK {P : Program} {w : World} {K : PySem.W.Frag} {elts : List Expr} {kk : Nat} {tpos : Pos} {k : SK} {v : V} {u : Value} {vs : List V} (rv : RelV v u) (e it : Addr) (hie : e ∉ it :: adrs u) (hii : it ∉ adrs u) :
    Turn P w K (.Tuple elts kk tpos) (IteK K k v vs) [e, it] e (fun i h => (∃ old, IsEnum h e it ((i : Nat) : Int) old) ∧ IterK k u it i h) where
  mem := by simp
  obj := fun i h st b hb => by
    obtain ⟨⟨old, he⟩, q⟩ := st
    have e' : b = e ∨ b = it := by simpa using hb
    rcases e' with z | z
    · rw [z]; exact ⟨_, he, fun v q => nomatch q⟩
    · rw [z]; exact q.obj
  keep := fun i h h' st kp => let ⟨⟨old, he⟩, hi⟩ := st; ⟨⟨old, kp e (by simp) _ he⟩, hi.at fun o q => kp it (by simp) o q⟩
  item := by
    intro X hP hw hK hc i pins s σ H E I hf st hg
    subst hP hw hK
    obtain ⟨⟨old, he⟩, hit⟩ := st
    obtain ⟨hq, hx⟩ := hg
    have src := SrcK.of I hq rv
    obtain ⟨St, D, d1, d2⟩ := draws_K (prog := X.prog) (w := X.w) (A := X.A.in1) (I.ok.hd hc) src it hii
    have hel : e < s.heap.objs.size := Heap.lt_size he
    have hne : e ≠ it := fun q => hie (by simp [q])
    have hil : it < s.heap.objs.size := by obtain ⟨_, q, _⟩ := hit.obj; exact Heap.lt_size q
    refine wpAny_pyNext_enum_itemC D he (d1 i hit) hx hne hie fun x h' tk hp ho hs' hT hsz hk => ?_
    obtain ⟨xv, hxv, rx⟩ := hp
    refine ⟨_, rfl, wpAny_letOwnedTupleGo_enum (s := { s with heap := h', toks := tk + 1 }) ho fun h'' he' sb => ?_⟩
    have hT2 : h''.get? s.heap.objs.size = some { cls := .type "tuple", data := .seq #[.int i tk, x] } := (sb.2 _ (Nat.ne_of_gt hel)).trans hT
    have new : ObjOk X.prog X.w (upd H s.heap.objs.size (.tup [.int (i : Nat), xv])) h'' s.heap.objs.size (.tup [.int (i : Nat), xv]) :=
      ⟨by show 2 ≤ sizeLine; decide, [.int i tk, x], .cons ⟨_, rfl⟩ (.cons rx .nil), ⟨_, hT2, rfl, _, rfl⟩⟩
    have I1 : Inv X pins σ (upd H s.heap.objs.size (.tup [.int (i : Nat), xv])) { s with heap := h'', toks := tk + 1 } :=
      I.turnedNew (ch := [e, it]) (fun b ob hb q => (sb.2 b (fun z => hb (by simp [z]))).trans (hk b ob (fun z => hb (by simp [z])) (fun z => hb (by simp [z])) q)) hf (Nat.le_refl _) new
    refine ⟨.ref s.heap.objs.size, _, I1, rfl, ⟨_, xv, rfl, I.hok.fresh (Nat.le_refl _), rfl, hxv⟩, ⟨⟨x, ?_⟩, ?_⟩, fun b hb => ?_⟩
    · have e1 : ((i + 1 : Nat) : Int) = (i : Int) + 1 := by omega
      rw [e1]; exact he'
    · exact (d2 _ _ hs').at fun o q => (sb.2 it (Ne.symm hne)).trans q
    · have hb' : b < s.heap.objs.size := by
        have e' : b = e ∨ b = it := by simpa using hb
        rcases e' with z | z
        · rw [z]; exact hel
        · rw [z]; exact hil
      rw [upd_ne (Nat.ne_of_lt hb')]
      exact (hf b hb).1
  done := by
    intro X hP hw hK hc i pins s σ H E I hf st hg
    subst hP hw hK
    obtain ⟨⟨old, he⟩, hit⟩ := st
    obtain ⟨hq, rfl⟩ := hg
    have src := SrcK.of I hq rv
    obtain ⟨St, D, d1, d2⟩ := draws_K (prog := X.prog) (w := X.w) (A := X.A.in1) (I.ok.hd hc) src it hii
    obtain ⟨f0, f1, f2, f3, f4, f5⟩ := hf it (by simp)
    exact wpAny_pyNext_enum_endD D he (d1 _ hit) fun h' eb => ⟨rfl, I.turned (t' := s.toks) (fun b o hb q => eb b o hb q) f0 f1 f3 f4 f5⟩
  self := fun A i s Q E st h => let ⟨⟨_, he⟩, _⟩ := st; wpAny_pyIter_enum he h
set_option maxHeartbeats 4000000 in
theorem meets_enumerate_newB1 {v : Value} {o : Obj} {H : Heap → Prop} (B : Begins v o H) :
    Meets (Builtin.«enumerate.__new__» ⟨[.type "enumerate", v], []⟩) (fun _ R s => H s.heap ∧
      R (.ok (.ret (.ref (s.heap.push o).objs.size))) { s with heap := (s.heap.push o).push { cls := .type "enumerate", data := .fields #[.none, .bool false, .ref s.heap.objs.size, rawInt 0, .none, .none] } }) :=
  .of_wp fun prog w A R s h => by
    obtain ⟨hp, g, d, tk, os⟩ := s; obtain ⟨h1, h⟩ := h
    have hsub := sub_enumerate
    have q1 : ∀ {A' : Around} {E : Value → Shared → Prop} {Q : Value → Shared → Prop}, Q (.ref hp.objs.size) ⟨hp.push o, g, d, tk, os⟩ → wpAny (model prog w) A' (pyIter v) Q E ⟨hp, g, d, tk, os⟩ :=
      fun q => B.iter prog w _ _ ⟨hp, g, d, tk, os⟩ _ h1 q
    wp_walk using q1
    refine wpAny_stack_any fun st => wpAny_pure ?_
    split
    · rename_i c _ _ _ _ _
      cases (c == Value.type "enumerate")
      · wp_walk using q1
        exact ⟨_, rfl, h⟩
      · wp_walk using q1
        exact ⟨_, rfl, h⟩
    · wp_walk using q1
      exact ⟨_, rfl, h⟩
theorem call_enumerateB {prog : Program} {w : World} {A : Around} {E : Value → Shared → Prop} {s : Shared} {v : Value} {o : Obj} {H : Heap → Prop} {Q : Value → Shared → Prop} (B : Begins v o H) (h1 : H s.heap)
    (h : ∀ h', IsEnum h' (s.heap.objs.size + 1) s.heap.objs.size 0 .none → h'.get? s.heap.objs.size = some o → h'.objs.size = s.heap.objs.size + 2 →
      (∀ b o, s.heap.get? b = some o → h'.get? b = some o) → Q (.ref (s.heap.objs.size + 1)) { s with heap := h' }) :
    wpAny (model prog w) A (call (.type "enumerate") [v]) Q E s := by
  refine callType_new F.called_enumerate (by decide) (F.typeCall_enumerate_1 _) (F.newCall_enumerate_1 _) (fun obj => F.args_object_init_2 obj _) F.entry_enumerate_new
    (meets_enumerate_newB1 B) ⟨h1, ?_⟩
  have hz : (s.heap.push o).objs.size = s.heap.objs.size + 1 := Heap.size_push ..
  show _ ∧ _
  rw [hz]
  have he : IsEnum ((s.heap.push o).push { cls := .type "enumerate", data := .fields #[.none, .bool false, .ref s.heap.objs.size, rawInt 0, .none, .none] }) (s.heap.objs.size + 1) s.heap.objs.size 0 .none := by
    have := Heap.get?_push_size (s.heap.push o) (o := { cls := .type "enumerate", data := .fields #[.none, .bool false, .ref s.heap.objs.size, rawInt 0, .none, .none] }) rfl
    rw [hz] at this; exact this
  refine ⟨⟨_, he, rfl⟩, h _ he (Heap.get?_push_of_some _ (Heap.get?_push_size _ B.free)) (by rw [Heap.size_push, hz]) fun b o x => Heap.get?_push_of_some _ (Heap.get?_push_of_some _ x)⟩
def iEnumK (K : PySem.W.Frag) (ta : TA) : TI := fun σ H R => ta σ H fun vs H1 => ∃ v k ws, vs = [v] ∧ SqK K k H1 v ws ∧ R (IteK K k v ws) H1
theorem notIn_adrs {k : SK} {u : Value} {vs : List V} {h : Heap} (src : SrcK k u vs h) (n : Nat) : h.objs.size + n ∉ adrs u := fun m => by
  have := adrs_lt src _ m
  have h2 : h.objs.size + n < h.objs.size := this
  omega
theorem pi_enumK {X : Cx} {e : Expr} {ta : TA} {p pos tpos : Pos} {elts : List Expr} {kk : Nat} (hg : Gl X "enumerate") (hm : X.mg "enumerate" = none) (ha : PA X [e] ta) (hs : starEach [e] X.env = [(false, eval e X.env)] := by rfl) :
    PI X (.Tuple elts kk tpos) (.Call (.Name "enumerate" p) [e] [] pos) (iEnumK X.K ta) := by
  refine ⟨fun pins s σ H R I h => ?_⟩
  refine Call_ (ld_blt I hg hm boot_enumerate (PyProof.Rows.callWith_type1 (thn (ha.run pos pins s σ H _ I h) fun us s1 ⟨vs, H1, I1, r1, q1⟩ => ?_) hs rfl))
  obtain ⟨v, k, ws, rfl, hq, q⟩ := q1
  cases r1 with
  | cons r rr =>
    cases rr
    have src := SrcK.of I1 hq r
    obtain ⟨o, Hc, B, h1, hit⟩ := begins_K src
    refine call_enumerateB B h1 fun h' he ho hsz hk => wpAny_pyIter_enum he ?_
    have I2 : Inv X pins σ H1 { s1 with heap := h' } := I1.kept (t' := s1.toks) hk
    have n0 : s1.heap.objs.size ∉ adrs _ := notIn_adrs src 0
    have n1 : s1.heap.objs.size + 1 ∉ adrs _ := notIn_adrs src 1
    refine ⟨s1.heap.objs.size + 1, [s1.heap.objs.size + 1, s1.heap.objs.size], _, _, H1, rfl, I2, turn_enumK r (s1.heap.objs.size + 1) s1.heap.objs.size (fun m => ?_) n0, ⟨⟨.none, he⟩, hit _ _ ho n0⟩, fun b hb => ?_, q⟩
    · rcases List.mem_cons.mp m with m | m
      · exact Nat.succ_ne_self _ m
      · exact n1 m
    · have e' : b = s1.heap.objs.size + 1 ∨ b = s1.heap.objs.size := by simpa using hb
      have hle : s1.heap.objs.size ≤ b := by
        rcases e' with z | z
        · rw [z]; exact Nat.le_add_right _ _
        · rw [z]; exact Nat.le_refl _
      exact I1.fpOk hle (I1.hok.fresh hle)
/-! ### zip -/
def ItzK (K : PySem.W.Frag) (k1 k2 : SK) (v1 v2 : V) (xs ys : List V) : It :=
  ⟨fun i H => SqK K k1 H v1 xs ∧ SqK K k2 H v2 ys ∧ i < xs.length ∧ i < ys.length,
    fun i H v H' => ∃ T x y, v = .ref T ∧ H T = none ∧ H' = upd H T (.tup [x, y]) ∧ xs[i]? = some x ∧ ys[i]? = some y,
    fun i H => SqK K k1 H v1 xs ∧ SqK K k2 H v2 ys ∧ i ≤ xs.length ∧ i ≤ ys.length ∧ (i = xs.length ∨ i = ys.length)⟩
theorem turn_zipK {P : Program} {w : World} {K : PySem.W.Frag} {elts : List Expr} {kk : Nat} {tpos : Pos} {k1 k2 : SK} {v1 v2 : V} {u1 u2 : Value} {xs ys : List V} {z TI TO i1 i2 : Addr} (r1 : RelV v1 u1) (r2 : RelV v2 u2) (n1 : i1 ∉ adrs u1) (n2 : i2 ∉ adrs u2)
    (D : ZipSep2 z TI TO i1 i2 (i1 :: adrs u1) (i2 :: adrs u2)) :
    Turn P w K (.Tuple elts kk tpos) (ItzK K k1 k2 v1 v2 xs ys) [z, TI, TO, i1, i2] z (fun i h => IsZip h z TI TO .none ∧ IsTupOf2 h TI (.ref i1) (.ref i2) ∧ (∃ x y, IsTupOf2 h TO x y) ∧ IterK k1 u1 i1 i h ∧ IterK k2 u2 i2 i h) where
  mem := by simp
  obj := fun i h st c hc => by
    obtain ⟨hz, hTI, ⟨x, y, hTO⟩, h1, h2⟩ := st
    have e' : c = z ∨ c = TI ∨ c = TO ∨ c = i1 ∨ c = i2 := by simpa using hc
    rcases e' with q | q | q | q | q
    · rw [q]; exact ⟨_, hz, fun v q => nomatch q⟩
    · rw [q]; exact ⟨_, hTI, fun v q => nomatch q⟩
    · rw [q]; exact ⟨_, hTO, fun v q => nomatch q⟩
    · rw [q]; exact h1.obj
    · rw [q]; exact h2.obj
  keep := fun i h h' st k => by
    obtain ⟨hz, hTI, ⟨x, y, hTO⟩, h1, h2⟩ := st
    exact ⟨k z (by simp) _ hz, k TI (by simp) _ hTI, ⟨x, y, k TO (by simp) _ hTO⟩, h1.at fun o q => k i1 (by simp) o q, h2.at fun o q => k i2 (by simp) o q⟩
  item := by
    intro X hP hw hK hc i pins s σ H E I hf st hg
    subst hP hw hK
    obtain ⟨hz, hTI, ⟨x0, y0, hTO⟩, h1, h2⟩ := st
    obtain ⟨hqx, hqy, hx, hy⟩ := hg
    obtain ⟨St1, D1, d1, e1⟩ := draws_K (prog := X.prog) (w := X.w) (A := X.A.in1) (I.ok.hd hc) (SrcK.of I hqx r1) i1 n1
    obtain ⟨St2, D2, d2, e2⟩ := draws_K (prog := X.prog) (w := X.w) (A := X.A.in1) (I.ok.hd hc) (SrcK.of I hqy r2) i2 n2
    have hzl : z < s.heap.objs.size := Heap.lt_size hz
    refine wpAny_pyNext_zipD2_item D D1 D2 hz hTI hTO (d1 i h1) (d2 i h2) hx hy fun x1 x2 h' tk p1 p2 z' TO' h1' h2' hT hsz hk => ?_
    obtain ⟨xv, hxv, rx⟩ := p1
    obtain ⟨yv, hyv, ry⟩ := p2
    refine ⟨_, rfl, wpAny_letOwnedTupleGo_zip (s := { s with heap := h', toks := tk }) z' fun h'' z'' sb => ?_⟩
    have hT2 : h''.get? s.heap.objs.size = some { cls := .type "tuple", data := .seq #[x1, x2] } := (sb.2 _ (Nat.ne_of_gt hzl)).trans hT
    have new : ObjOk X.prog X.w (upd H s.heap.objs.size (.tup [xv, yv])) h'' s.heap.objs.size (.tup [xv, yv]) :=
      ⟨by show 2 ≤ sizeLine; decide, [x1, x2], .cons rx (.cons ry .nil), ⟨_, hT2, rfl, _, rfl⟩⟩
    have I1 : Inv X pins σ (upd H s.heap.objs.size (.tup [xv, yv])) { s with heap := h'', toks := tk } :=
      I.turnedNew (t' := tk) (ch := [z, TI, TO, i1, i2]) (fun c o hb q => (sb.2 c (fun q' => hb (by simp [q']))).trans (hk c o (fun q' => hb (by simp [q'])) (fun q' => hb (by simp [q'])) (fun q' => hb (by simp [q'])) (fun q' => hb (by simp [q'])) q)) hf (Nat.le_refl _) new
    refine ⟨.ref s.heap.objs.size, _, I1, rfl, ⟨_, xv, yv, rfl, I.hok.fresh (Nat.le_refl _), rfl, hxv, hyv⟩, ⟨z'', ?_, ⟨x1, x2, ?_⟩, ?_, ?_⟩, fun c hcm => ?_⟩
    · exact (sb.2 _ D.TIz).trans (hk _ _ D.TIz D.TITO D.TIi1 D.TIi2 hTI)
    · exact (sb.2 _ D.TOz).trans TO'
    · exact (e1 _ _ h1').at fun o q => (sb.2 _ fun e => D.zf1 (by simp [e])).trans q
    · exact (e2 _ _ h2').at fun o q => (sb.2 _ fun e => D.zf2 (by simp [e])).trans q
    · have hlt : c < s.heap.objs.size := by
        have e' : c = z ∨ c = TI ∨ c = TO ∨ c = i1 ∨ c = i2 := by simpa using hcm
        rcases e' with q | q | q | q | q
        · rw [q]; exact hzl
        · rw [q]; exact Heap.lt_size hTI
        · rw [q]; exact Heap.lt_size hTO
        · rw [q]; obtain ⟨_, e1, _⟩ := h1.obj; exact Heap.lt_size e1
        · rw [q]; obtain ⟨_, e2, _⟩ := h2.obj; exact Heap.lt_size e2
      rw [upd_ne (Nat.ne_of_lt hlt)]
      exact (hf c hcm).1
  done := by
    intro X hP hw hK hc i pins s σ H E I hf st hg
    subst hP hw hK
    obtain ⟨hz, hTI, ⟨x0, y0, hTO⟩, h1, h2⟩ := st
    obtain ⟨hqx, hqy, l1, l2, hend⟩ := hg
    obtain ⟨St1, D1, d1, e1⟩ := draws_K (prog := X.prog) (w := X.w) (A := X.A.in1) (I.ok.hd hc) (SrcK.of I hqx r1) i1 n1
    obtain ⟨St2, D2, d2, e2⟩ := draws_K (prog := X.prog) (w := X.w) (A := X.A.in1) (I.ok.hd hc) (SrcK.of I hqy r2) i2 n2
    exact wpAny_pyNext_zipD2_end D D1 D2 hz hTI hTO (d1 i h1) (d2 i h2) l1 l2 hend fun h' tk hk => ⟨rfl, I.turnedL (t' := tk) (ch := [z, TI, TO, i1, i2]) (fun c o hb q =>
      hk c o (fun q' => hb (by simp [q'])) (fun q' => hb (by simp [q'])) (fun q' => hb (by simp [q'])) (fun q' => hb (by simp [q'])) q) hf⟩
  self := fun A i s Q E st h => wpAny_pyIter_zip st.1 h
def iZipK (K : PySem.W.Frag) (ta : TA) : TI := fun σ H R => ta σ H fun vs H1 => ∃ v1 v2 k1 k2 xs ys, vs = [v1, v2] ∧ SqK K k1 H1 v1 xs ∧ SqK K k2 H1 v2 ys ∧ R (ItzK K k1 k2 v1 v2 xs ys) H1
theorem pi_zipK {X : Cx} {e e2 : Expr} {ta : TA} {p pos tpos : Pos} {elts : List Expr} {kk : Nat} (hg : Gl X "zip") (hm : X.mg "zip" = none) (ha : PA X [e, e2] ta)
    (hs : starEach [e, e2] X.env = (false, eval e X.env) :: starEach [e2] X.env := by rfl) (hpl : (backTo pos (starEach [e2] X.env)).any (·.1) = false := by rfl) :
    PI X (.Tuple elts kk tpos) (.Call (.Name "zip" p) [e, e2] [] pos) (iZipK X.K ta) := by
  refine ⟨fun pins s σ H R I h => ?_⟩
  refine Call_ (ld_blt I hg hm PyProof.Rows.boot_zip (PyProof.Rows.callWith_type1 (thn (ha.run pos pins s σ H _ I h) fun us s1 ⟨vs, H1, I1, r1, q1⟩ => ?_) hs hpl))
  obtain ⟨v1, v2, k1, k2, xs, ys, rfl, hqx, hqy, q⟩ := q1
  cases r1 with
  | cons r rr =>
    cases rr with
    | cons r' rr =>
      cases rr
      have s1' := SrcK.of I1 hqx r
      have s2' := SrcK.of I1 hqy r'
      obtain ⟨o1, Hc1, B1, b1, it1⟩ := begins_K s1'
      obtain ⟨o2, Hc2, B2, b2, it2⟩ := begins_K s2'
      refine zip_begins2 B1 B2 b1 b2 fun h' hz hTI hTO h1 h2 hsz hk => wpAny_pyIter_zip hz ?_
      have I2 : Inv X pins σ H1 { s1 with heap := h' } := I1.kept (t' := s1.toks) hk
      have n1 : s1.heap.objs.size ∉ adrs _ := notIn_adrs s1' 0
      have n2 : s1.heap.objs.size + 1 ∉ adrs _ := notIn_adrs s2' 1
      exact ⟨s1.heap.objs.size + 4, [s1.heap.objs.size + 4, s1.heap.objs.size + 2, s1.heap.objs.size + 3, s1.heap.objs.size, s1.heap.objs.size + 1], _, _, H1, rfl, I2,
        turn_zipK r r' n1 n2 (zip_sep2 (adrs_lt s1') (adrs_lt s2')), ⟨hz, hTI, ⟨_, _, hTO⟩, it1 _ _ h1 n1, it2 _ _ h2 n2⟩, fun c hcm => by
          have e' : c = s1.heap.objs.size + 4 ∨ c = s1.heap.objs.size + 2 ∨ c = s1.heap.objs.size + 3 ∨ c = s1.heap.objs.size ∨ c = s1.heap.objs.size + 1 := by simpa using hcm
          have hle : s1.heap.objs.size ≤ c := by
            rcases e' with z | z | z | z | z
            · rw [z]; exact Nat.le_add_right _ _
            · rw [z]; exact Nat.le_add_right _ _
            · rw [z]; exact Nat.le_add_right _ _
            · rw [z]; exact Nat.le_refl _
            · rw [z]; exact Nat.le_add_right _ _
          exact I1.fpOk hle (I1.hok.fresh hle), q⟩
end GN
end

section
set_option linter.all false
set_option maxRecDepth 100000
set_option maxHeartbeats 4000000
namespace PySem
open Sem (wp)
/-! iterators whose turns lay new tuples: a zip within enumerate or zip -/
structure DrawsN (prog : Program) (w : World) (A : Around) (it : Addr) (fp ch : List Addr) (n : Nat) (P : Nat → Nat → Heap → Value → Prop) (St : Nat → Heap → Prop) : Prop where
  live : ∀ i h, St i h → ∀ b ∈ it :: ch, ∃ o, h.get? b = some o
  frame : ∀ i h h', St i h → (∀ b ∈ fp, ∀ o, h.get? b = some o → h'.get? b = some o) → St i h'
  mono : ∀ i m h h' x, P i m h x → (∀ b o, m ≤ b → h.get? b = some o → h'.get? b = some o) → P i m h' x
  item : ∀ i (s : Shared) (Q : Value → Shared → Prop) (E : Value → Shared → Prop), i < n → St i s.heap →
    (∀ x h' tk, P i s.heap.objs.size h' x → St (i + 1) h' → (∀ b o, b ∉ ch → s.heap.get? b = some o → h'.get? b = some o) → s.heap.objs.size ≤ h'.objs.size → Q x { s with heap := h', toks := tk }) → wpAny (model prog w) A (Builtin.SmallTypes.nextOf (.ref it)) Q E s
  done : ∀ (s : Shared) (Q : Value → Shared → Prop) (E : Value → Shared → Prop), St n s.heap →
    (∀ h' tk e, (∀ b o, b ∉ ch → s.heap.get? b = some o → h'.get? b = some o) → (∃ o, h'.get? e = some o ∧ o.cls = .type "StopIteration") → E (.ref e) { s with heap := h', toks := tk }) → wpAny (model prog w) A (Builtin.SmallTypes.nextOf (.ref it)) Q E s
theorem Draws.toN {prog : Program} {w : World} {A : Around} {it : Addr} {fp : List Addr} {n : Nat} {P : Nat → Value → Prop} {St : Nat → Heap → Prop} (D : Draws prog w A it fp n P St) : DrawsN prog w A it fp [it] n (fun i _ _ x => P i x) St where
  live := fun i h st b hb => by
    have : b = it := by simpa using hb
    subst this; exact D.live i h st
  frame := D.frame
  mono := fun i m h h' x p _ => p
  item := fun i s Q E hi st hQ => D.item i s Q E hi st fun x h' tk p st' sb => hQ x h' tk p st' (fun b o hb e => sb.extBut b o (by simpa using hb) e) (Nat.le_of_eq sb.1.symm)
  done := fun s Q E st hE => D.done s Q E st fun h' e x q => by
    have := hE h' s.toks e (fun b o hb y => x b o (by simpa using hb) y) q
    exact this
/-- a zip, whatever becomes of its own tuple -/
abbrev IsZipG (h : Heap) (z TI TO : Addr) (f0 f1 : Value) : Prop :=
  h.get? z = some { cls := .type "zip", dict := none, data := .fields #[f0, f1, .bool false, .ref TI, .ref TO], slots := #[] }
def ZAny (h : Heap) (z TI TO : Addr) : Prop := ∃ f0 f1, IsZipG h z TI TO f0 f1 ∧ (f0 = .none ∨ ∃ a : Addr, f0 = rawInt (a : Nat))
structure ZipSepN (z TI TO i1 i2 : Addr) (fp1 fp2 ch1 ch2 : List Addr) : Prop where
  TIz : TI ≠ z
  TOz : TO ≠ z
  TITO : TI ≠ TO
  zf1 : z ∉ fp1
  zf2 : z ∉ fp2
  Tf1 : TO ∉ fp1
  Tf2 : TO ∉ fp2
  zc1 : z ∉ ch1
  zc2 : z ∉ ch2
  Tc1 : TO ∉ ch1
  Tc2 : TO ∉ ch2
  Ic1 : TI ∉ ch1
  Ic2 : TI ∉ ch2
  sep12 : ∀ b ∈ ch1, b ∉ fp2
  sep21 : ∀ b ∈ ch2, b ∉ fp1
section
variable {prog : Program} {w : World} {A : Around} {E : Value → Shared → Prop} {s : Shared} {z TI TO i1 i2 : Addr} {fp1 fp2 ch1 ch2 : List Addr} {n1 n2 i : Nat} {P1 P2 : Nat → Nat → Heap → Value → Prop} {St1 St2 : Nat → Heap → Prop} {a1 a2 : Value}
theorem DrawsN.over {it : Addr} {fp ch : List Addr} {n : Nat} {P : Nat → Nat → Heap → Value → Prop} {St : Nat → Heap → Prop} (D : DrawsN prog w A it fp ch n P St) {i : Nat} {h h' : Heap} {x : Addr} (st : St i h) (hs : Heap.SameBut x h h') (hx : x ∉ fp) : St i h' :=
  D.frame i h h' st fun b hb o e => hs.extBut b o (fun q => hx (q ▸ hb)) e
theorem DrawsN.past {it : Addr} {fp ch c : List Addr} {n : Nat} {P : Nat → Nat → Heap → Value → Prop} {St : Nat → Heap → Prop} (D : DrawsN prog w A it fp ch n P St) {i : Nat} {h h' : Heap} (st : St i h) (hs : ∀ b o, b ∉ c → h.get? b = some o → h'.get? b = some o) (hx : ∀ b ∈ c, b ∉ fp) : St i h' :=
  D.frame i h h' st fun b hb o e => hs b o (fun q => hx b q hb) e
theorem wpAny_alive {a : Addr} {Q : Option Obj → Shared → Prop} (h : Q (s.heap.get? a) s) : wpAny (model prog w) A (loadIfAlive a) Q E s := fun _ _ _ => h
theorem wpAny_zfree {f0 f1 : Value} {Q : Bool → Shared → Prop} (hz : IsZipG s.heap z TI TO f0 f1) (h0 : f0 = .none ∨ ∃ a : Addr, f0 = rawInt (a : Nat)) (ht : Q true s)
    (hf : ∀ h', ZAny h' z TI TO → Heap.SameBut z s.heap h' → Q false { s with heap := h' }) : wpAny (model prog w) A (Builtin.SmallTypes.ownedTupleIsFree (.ref z)) Q E s := by
  unfold Builtin.SmallTypes.ownedTupleIsFree
  rcases h0 with rfl | ⟨a, rfl⟩
  · exact wpAny_bind (wpAny_field hz rfl (x := .none) rfl (wpAny_pure ht))
  · refine wpAny_bind (wpAny_field hz rfl (x := rawInt (a : Nat)) rfl ?_)
    show wpAny _ _ (loadIfAlive ((a : Nat) : Int).toNat >>= _) _ _ _
    refine wpAny_bind ?_
    rw [Int.toNat_natCast]
    refine wpAny_alive ?_
    cases ho : s.heap.get? a with
    | none => exact wpAny_pure ht
    | some o =>
      show wpAny _ _ (field (.ref z) 1 >>= _) _ _ _
      refine wpAny_bind (wpAny_field hz rfl (x := f1) rfl ?_)
      by_cases h1 : (f1 != Value.bool true) = true
      · rw [if_pos h1]
        refine wpAny_bind (wpAny_setField_rec hz (by simp) fun h' hz' hs' => wpAny_pure (hf h' ⟨_, _, hz', .inr ⟨a, rfl⟩⟩ hs'))
      · rw [if_neg h1]
        exact wpAny_bind (wpAny_pure (wpAny_pure (hf _ ⟨_, _, hz, .inr ⟨a, rfl⟩⟩ (Heap.SameBut.refl ..))))

theorem zipN_next_item {Q : Value → Shared → Prop} (S : ZipSepN z TI TO i1 i2 fp1 fp2 ch1 ch2) (D1 : DrawsN prog w A i1 fp1 ch1 n1 P1 St1) (D2 : DrawsN prog w A i2 fp2 ch2 n2 P2 St2)
    (hz : ZAny s.heap z TI TO) (hTI : IsTupOf2 s.heap TI (.ref i1) (.ref i2)) (hTO : IsTupOf2 s.heap TO a1 a2) (st1 : St1 i s.heap) (st2 : St2 i s.heap) (hlt1 : i < n1) (hlt2 : i < n2)
    (hQ : ∀ x1 x2 m T h' tk, P1 i s.heap.objs.size h' x1 → (∃ hm, P2 i m hm x2 ∧ hm.objs.size ≤ T ∧ ∀ b o, m ≤ b → hm.get? b = some o → h'.get? b = some o) → s.heap.objs.size ≤ m → m ≤ T → T < h'.objs.size → ZAny h' z TI TO → (∃ b1 b2, IsTupOf2 h' TO b1 b2) → St1 (i + 1) h' → St2 (i + 1) h' → IsTupOf2 h' T x1 x2 →
      (∀ c o, c ≠ z → c ≠ TO → c ∉ ch1 → c ∉ ch2 → s.heap.get? c = some o → h'.get? c = some o) → Q (.ref T) { s with heap := h', toks := tk }) :
    wpAny (model prog w) A (Builtin.«zip.__next__» ⟨[.ref z], []⟩) (fun fin s' => ∃ v, fin = .done (.ret v) ∧ Q v s') E s := by
  obtain ⟨hp, g, d, tk0, os⟩ := s
  obtain ⟨f0, f1, hz, h0⟩ := hz
  have zlt : z < hp.objs.size := Heap.lt_size hz
  have Tlt : TO < hp.objs.size := Heap.lt_size hTO
  show wpAny _ _ (field (.ref z) 2 >>= _) _ _ _
  refine wpAny_bind (wpAny_field hz rfl (x := .bool false) rfl ?_)
  show wpAny _ _ (field (.ref z) 3 >>= _) _ _ _
  refine wpAny_bind (wpAny_field hz rfl (x := .ref TI) rfl ?_)
  refine wpAny_bind (wpAny_seqItems hTI rfl ?_)
  show wpAny _ _ (Builtin.SmallTypes.ownedTupleIsFree (.ref z) >>= _) _ _ _
  refine wpAny_bind (wpAny_zfree hz h0 ?_ fun g0 hz0 hs0 => ?_)
  · simp only [if_true]
    refine wpAny_bind (wpAny_rule ?_)
    refine wpAny_bind (wpAny_field hz rfl (x := .ref TO) rfl ?_)
    refine wpAny_bind (wpAny_setField_rec hz (by simp) fun g0 hz0 hs0 => ?_)
    replace hz0 : IsZipG g0 z TI TO .ellipsis f1 := hz0
    replace hs0 : Heap.SameBut z hp g0 := hs0
    refine wpAny_bind ?_
    simp only [List.zipIdx_cons, List.zipIdx_nil, List.forIn_cons, List.forIn_nil]
    refine wpAny_bind (wpAny_bind (wpAny_onRaise ?_))
    show wpAny _ _ (Builtin.SmallTypes.nextOf (.ref i1) >>= _) _ _ ⟨g0, g, d, tk0, os⟩
    refine wpAny_bind (D1.item i _ _ _ hlt1 (D1.over st1 hs0 S.zf1) fun x1 p1 tk1 hx1 sn1 hp1 zp1 => wpAny_pure ?_)
    replace hp1 : ∀ b o, b ∉ ch1 → g0.get? b = some o → p1.get? b = some o := hp1
    have hU1 : IsTupOf2 p1 TO a1 a2 := hp1 _ _ S.Tc1 (hs0.extBut _ _ S.TOz hTO)
    refine wpAny_bind (wpAny_seqItems (s := ⟨p1, g, d, tk1, os⟩) hU1 rfl ?_)
    refine wpAny_bind (updateSeq_IsTupOf2 (s := ⟨p1, g, d, tk1, os⟩) hU1 fun g1 hT1 hs1 => ?_)
    replace hT1 : IsTupOf2 g1 TO x1 a2 := hT1
    replace hs1 : Heap.SameBut TO p1 g1 := hs1
    refine wpAny_bind (wpAny_letGo (wpAny_pure ?_))
    refine wpAny_bind (wpAny_bind (wpAny_onRaise ?_))
    show wpAny _ _ (Builtin.SmallTypes.nextOf (.ref i2) >>= _) _ _ ⟨g1, g, d, tk1, os⟩
    refine wpAny_bind (D2.item i _ _ _ hlt2 (D2.over (D2.past (D2.over st2 hs0 S.zf2) hp1 S.sep12) hs1 S.Tf2) fun x2 p2 tk2 hx2 sn2 hp2 zp2 => wpAny_pure ?_)
    replace hp2 : ∀ b o, b ∉ ch2 → g1.get? b = some o → p2.get? b = some o := hp2
    have hU2 : IsTupOf2 p2 TO x1 a2 := hp2 _ _ S.Tc2 hT1
    refine wpAny_bind (wpAny_seqItems (s := ⟨p2, g, d, tk2, os⟩) hU2 rfl ?_)
    refine wpAny_bind (updateSeq_IsTupOf2 (s := ⟨p2, g, d, tk2, os⟩) hU2 fun g2 hT2 hs2 => ?_)
    replace hT2 : IsTupOf2 g2 TO x1 x2 := hT2
    replace hs2 : Heap.SameBut TO p2 g2 := hs2
    refine wpAny_bind (wpAny_letGo (wpAny_pure (wpAny_pure ?_)))
    refine wpAny_bind (wpAny_seqItems (s := ⟨g2, g, d, tk2, os⟩) hT2 rfl ?_)
    refine wpAny_bind (wpAny_newTuple ?_)
    have c1lt : ∀ b ∈ ch1, b < hp.objs.size := fun b hb => by obtain ⟨o, e⟩ := D1.live _ _ st1 b (List.mem_cons_of_mem _ hb); exact Heap.lt_size e
    have c2lt : ∀ b ∈ ch2, b < hp.objs.size := fun b hb => by obtain ⟨o, e⟩ := D2.live _ _ st2 b (List.mem_cons_of_mem _ hb); exact Heap.lt_size e
    have y0 : g0.objs.size = hp.objs.size := hs0.1
    have y1 : g0.objs.size ≤ p1.objs.size := zp1
    have y2 : g1.objs.size = p1.objs.size := hs1.1
    have y3 : g1.objs.size ≤ p2.objs.size := zp2
    have y4 : g2.objs.size = p2.objs.size := hs2.1
    replace hx1 : P1 i g0.objs.size p1 x1 := hx1
    replace hx2 : P2 i g1.objs.size p2 x2 := hx2
    rw [y0] at hx1
    have hzz : IsZipG g2 z TI TO .ellipsis f1 := hs2.extBut _ _ S.TOz.symm (hp2 _ _ S.zc2 (hs1.extBut _ _ S.TOz.symm (hp1 _ _ S.zc1 hz0)))
    have hkk : ∀ c o, c ≠ z → c ≠ TO → c ∉ ch1 → c ∉ ch2 → hp.get? c = some o → g2.get? c = some o := fun c o cz cT c1 c2 e =>
      hs2.extBut _ _ cT (hp2 _ _ c2 (hs1.extBut _ _ cT (hp1 _ _ c1 (hs0.extBut _ _ cz e))))
    have hj1 : St1 (i + 1) g2 := D1.over (D1.past (D1.over sn1 hs1 S.Tf1) hp2 S.sep21) hs2 S.Tf1
    have hj2 : St2 (i + 1) g2 := D2.over sn2 hs2 S.Tf2
    have hzlt : z < g2.objs.size := Heap.lt_size hzz
    show wpAny _ _ (Builtin.SmallTypes.ownedTupleHandOut (.ref z) (.ref g2.objs.size) >>= _) _ _ ⟨g2.push { cls := .type "tuple", data := .seq #[x1, x2] }, g, d, tk2, os⟩
    refine wpAny_bind ?_
    unfold Builtin.SmallTypes.ownedTupleHandOut
    have hz6 : IsZipG (g2.push { cls := .type "tuple", data := .seq #[x1, x2] }) z TI TO .ellipsis f1 := Heap.get?_push_of_some _ hzz
    refine wpAny_bind (wpAny_setField_rec hz6 (by simp) fun h7 hz7 hs7 => ?_)
    replace hz7 : IsZipG h7 z TI TO (rawInt g2.objs.size) f1 := hz7
    refine wpAny_setField_rec hz7 (by simp) fun h8 hz8 hs8 => ?_
    replace hz8 : IsZipG h8 z TI TO (rawInt g2.objs.size) (.bool false) := hz8
    replace hs7 : Heap.SameBut z (g2.push { cls := .type "tuple", data := .seq #[x1, x2] }) h7 := hs7
    replace hs8 : Heap.SameBut z h7 h8 := hs8
    have up : ∀ c o, c ≠ z → g2.get? c = some o → h8.get? c = some o := fun c o c1 e => hs8.extBut _ _ c1 (hs7.extBut _ _ c1 (Heap.get?_push_of_some _ e))
    have hT8 : IsTupOf2 h8 g2.objs.size x1 x2 := hs8.extBut _ _ (Nat.ne_of_gt hzlt) (hs7.extBut _ _ (Nat.ne_of_gt hzlt) (Heap.get?_push_size _ rfl))
    have hz8' : h8.objs.size = g2.objs.size + 1 := by rw [hs8.1, hs7.1, Heap.size_push]
    refine wpAny_pure ⟨_, rfl, ?_⟩
    show Q (.ref g2.objs.size) ⟨h8, g, d, tk2, os⟩
    have q1 : P1 i hp.objs.size h8 x1 := D1.mono _ _ _ _ _ hx1 fun b o hb e => up b o (Nat.ne_of_gt (Nat.lt_of_lt_of_le zlt hb)) (hs2.extBut _ _ (Nat.ne_of_gt (Nat.lt_of_lt_of_le Tlt hb)) (hp2 _ _ (fun q => Nat.ne_of_gt (Nat.lt_of_lt_of_le (c2lt b q) hb) rfl) (hs1.extBut _ _ (Nat.ne_of_gt (Nat.lt_of_lt_of_le Tlt hb)) e)))
    have m1 : hp.objs.size ≤ g1.objs.size := by omega
    have q2 : ∃ hm, P2 i g1.objs.size hm x2 ∧ hm.objs.size ≤ g2.objs.size ∧ ∀ b o, g1.objs.size ≤ b → hm.get? b = some o → h8.get? b = some o := ⟨p2, hx2, Nat.le_of_eq y4.symm, fun b o hb e => up b o (Nat.ne_of_gt (Nat.lt_of_lt_of_le zlt (Nat.le_trans m1 hb))) (hs2.extBut _ _ (Nat.ne_of_gt (Nat.lt_of_lt_of_le Tlt (Nat.le_trans m1 hb))) e)⟩
    exact hQ x1 x2 g1.objs.size g2.objs.size h8 tk2 q1 q2 (by show hp.objs.size ≤ _; omega) (by omega) (by omega) ⟨_, _, hz8, .inr ⟨_, rfl⟩⟩ ⟨x1, x2, up _ _ S.TOz hT2⟩
      (D1.frame _ _ _ hj1 fun b hb o e => up b o (fun q => S.zf1 (q ▸ hb)) e) (D2.frame _ _ _ hj2 fun b hb o e => up b o (fun q => S.zf2 (q ▸ hb)) e) hT8 fun c o cz cT c1 c2 e => up c o cz (hkk c o cz cT c1 c2 e)
  · simp only [Bool.false_eq_true, if_false]
    replace hs0 : Heap.SameBut z hp g0 := hs0
    rw [← Array.forIn_toList]
    simp only [List.forIn_cons, List.forIn_nil]
    refine wpAny_bind (wpAny_bind (wpAny_bind (wpAny_holding ?_)))
    show wpAny _ _ (Builtin.SmallTypes.nextOf (.ref i1) >>= _) _ _ ⟨g0, g, d, tk0, os⟩
    refine wpAny_bind (D1.item i _ _ _ hlt1 (D1.over st1 hs0 S.zf1) fun x1 p1 tk1 hx1 sn1 hp1 zp1 => wpAny_pure ?_)
    replace hp1 : ∀ b o, b ∉ ch1 → g0.get? b = some o → p1.get? b = some o := hp1
    simp only
    refine wpAny_pure ?_
    simp only
    refine wpAny_bind (wpAny_bind (wpAny_holding ?_))
    show wpAny _ _ (Builtin.SmallTypes.nextOf (.ref i2) >>= _) _ _ ⟨p1, g, d, tk1, os⟩
    refine wpAny_bind (D2.item i _ _ _ hlt2 (D2.past (D2.over st2 hs0 S.zf2) hp1 S.sep12) fun x2 p2 tk2 hx2 sn2 hp2 zp2 => wpAny_pure ?_)
    replace hp2 : ∀ b o, b ∉ ch2 → p1.get? b = some o → p2.get? b = some o := hp2
    simp only
    refine wpAny_pure ?_
    simp only
    refine wpAny_pure ?_
    simp only
    show wpAny _ _ (newTuple [x1, x2] >>= _) _ _ ⟨p2, g, d, tk2, os⟩
    refine wpAny_bind (wpAny_newTuple ?_)
    refine wpAny_pure ⟨_, rfl, ?_⟩
    have c1lt : ∀ b ∈ ch1, b < hp.objs.size := fun b hb => by obtain ⟨o, e⟩ := D1.live _ _ st1 b (List.mem_cons_of_mem _ hb); exact Heap.lt_size e
    have c2lt : ∀ b ∈ ch2, b < hp.objs.size := fun b hb => by obtain ⟨o, e⟩ := D2.live _ _ st2 b (List.mem_cons_of_mem _ hb); exact Heap.lt_size e
    have y0 : g0.objs.size = hp.objs.size := hs0.1
    have y1 : g0.objs.size ≤ p1.objs.size := zp1
    have y3 : p1.objs.size ≤ p2.objs.size := zp2
    replace hx1 : P1 i g0.objs.size p1 x1 := hx1
    replace hx2 : P2 i p1.objs.size p2 x2 := hx2
    rw [y0] at hx1
    obtain ⟨b0, b1, hz0, hb0⟩ := hz0
    have up : ∀ c o, p2.get? c = some o → (p2.push { cls := .type "tuple", data := .seq #[x1, x2] }).get? c = some o := fun c o e => Heap.get?_push_of_some _ e
    have q1 : P1 i hp.objs.size (p2.push { cls := .type "tuple", data := .seq #[x1, x2] }) x1 := D1.mono _ _ _ _ _ hx1 fun b o hb e => up b o (hp2 _ _ (fun q => Nat.ne_of_gt (Nat.lt_of_lt_of_le (c2lt b q) hb) rfl) e)
    have q2 : ∃ hm, P2 i p1.objs.size hm x2 ∧ hm.objs.size ≤ p2.objs.size ∧ ∀ b o, p1.objs.size ≤ b → hm.get? b = some o → (p2.push { cls := .type "tuple", data := .seq #[x1, x2] }).get? b = some o := ⟨p2, hx2, Nat.le_refl _, fun b o hb e => up b o e⟩
    exact hQ x1 x2 p1.objs.size p2.objs.size _ tk2 q1 q2 (by show hp.objs.size ≤ _; omega) (by show p1.objs.size ≤ p2.objs.size; omega) (by show p2.objs.size < _; rw [Heap.size_push]; exact Nat.lt_succ_self _) ⟨_, _, up _ _ (hp2 _ _ S.zc2 (hp1 _ _ S.zc1 hz0)), hb0⟩ ⟨a1, a2, up _ _ (hp2 _ _ S.Tc2 (hp1 _ _ S.Tc1 (hs0.extBut _ _ S.TOz hTO)))⟩
      (D1.frame _ _ _ (D1.past sn1 hp2 S.sep21) fun b hb o e => up b o e) (D2.frame _ _ _ sn2 fun b hb o e => up b o e) (Heap.get?_push_size _ rfl) fun c o cz cT c1 c2 e => up c o (hp2 _ _ c2 (hp1 _ _ c1 (hs0.extBut _ _ cz e)))

theorem zipN_next_end {Q : Fin → Shared → Prop} (S : ZipSepN z TI TO i1 i2 fp1 fp2 ch1 ch2) (D1 : DrawsN prog w A i1 fp1 ch1 n1 P1 St1) (D2 : DrawsN prog w A i2 fp2 ch2 n2 P2 St2)
    (hz : ZAny s.heap z TI TO) (hTI : IsTupOf2 s.heap TI (.ref i1) (.ref i2)) (hTO : IsTupOf2 s.heap TO a1 a2) (st1 : St1 i s.heap) (st2 : St2 i s.heap) (hle1 : i ≤ n1) (hle2 : i ≤ n2) (hend : i = n1 ∨ i = n2)
    (hE : ∀ h' tk e, (∀ c o, c ≠ z → c ≠ TO → c ∉ ch1 → c ∉ ch2 → s.heap.get? c = some o → h'.get? c = some o) → (∃ o, h'.get? e = some o ∧ o.cls = .type "StopIteration") → E (.ref e) { s with heap := h', toks := tk }) :
    wpAny (model prog w) A (Builtin.«zip.__next__» ⟨[.ref z], []⟩) Q E s := by
  obtain ⟨hp, g, d, tk0, os⟩ := s
  obtain ⟨f0, f1, hz, h0⟩ := hz
  show wpAny _ _ (field (.ref z) 2 >>= _) _ _ _
  refine wpAny_bind (wpAny_field hz rfl (x := .bool false) rfl ?_)
  show wpAny _ _ (field (.ref z) 3 >>= _) _ _ _
  refine wpAny_bind (wpAny_field hz rfl (x := .ref TI) rfl ?_)
  refine wpAny_bind (wpAny_seqItems hTI rfl ?_)
  show wpAny _ _ (Builtin.SmallTypes.ownedTupleIsFree (.ref z) >>= _) _ _ _
  refine wpAny_bind (wpAny_zfree hz h0 ?_ fun g0 hz0 hs0 => ?_)
  · simp only [if_true]
    refine wpAny_bind (wpAny_rule ?_)
    refine wpAny_bind (wpAny_field hz rfl (x := .ref TO) rfl ?_)
    refine wpAny_bind (wpAny_setField_rec hz (by simp) fun g0 hz0 hs0 => ?_)
    replace hz0 : IsZipG g0 z TI TO .ellipsis f1 := hz0
    replace hs0 : Heap.SameBut z hp g0 := hs0
    refine wpAny_bind ?_
    simp only [List.zipIdx_cons, List.zipIdx_nil, List.forIn_cons, List.forIn_nil]
    refine wpAny_bind (wpAny_bind (wpAny_onRaise ?_))
    show wpAny _ _ (Builtin.SmallTypes.nextOf (.ref i1) >>= _) _ _ ⟨g0, g, d, tk0, os⟩
    by_cases hlt1 : i < n1
    · refine wpAny_bind (D1.item i _ _ _ hlt1 (D1.over st1 hs0 S.zf1) fun x1 p1 tk1 hx1 sn1 hp1 zp1 => wpAny_pure ?_)
      replace hp1 : ∀ b o, b ∉ ch1 → g0.get? b = some o → p1.get? b = some o := hp1
      have hU1 : IsTupOf2 p1 TO a1 a2 := hp1 _ _ S.Tc1 (hs0.extBut _ _ S.TOz hTO)
      refine wpAny_bind (wpAny_seqItems (s := ⟨p1, g, d, tk1, os⟩) hU1 rfl ?_)
      refine wpAny_bind (updateSeq_IsTupOf2 (s := ⟨p1, g, d, tk1, os⟩) hU1 fun g1 hT1 hs1 => ?_)
      replace hT1 : IsTupOf2 g1 TO x1 a2 := hT1
      replace hs1 : Heap.SameBut TO p1 g1 := hs1
      refine wpAny_bind (wpAny_letGo (wpAny_pure ?_))
      have hi2 : i = n2 := by omega
      refine wpAny_bind (wpAny_bind (wpAny_onRaise ?_))
      show wpAny _ _ (Builtin.SmallTypes.nextOf (.ref i2) >>= _) _ _ ⟨g1, g, d, tk1, os⟩
      refine wpAny_bind (D2.done ⟨g1, g, d, tk1, os⟩ _ _ (by rw [← hi2]; exact (D2.over (D2.past (D2.over st2 hs0 S.zf2) hp1 S.sep12) hs1 S.Tf2)) fun q tk2 e hq he => ?_)
      replace hq : ∀ b o, b ∉ ch2 → g1.get? b = some o → q.get? b = some o := hq
      obtain ⟨oe, hoe, hce⟩ := he
      replace hoe : q.get? e = some oe := hoe
      have hzq : IsZipG q z TI TO .ellipsis f1 := hq _ _ S.zc2 (hs1.extBut _ _ S.TOz.symm (hp1 _ _ S.zc1 hz0))
      have hez : e ≠ z := fun x => by subst x; rw [hzq] at hoe; cases hoe; simp at hce
      refine wpAny_setField_rec (s := ⟨q, g, d, tk2, os⟩) hzq (by simp) fun q' _ hq' => ?_
      replace hq' : Heap.SameBut z q q' := hq'
      exact hE q' tk2 e (fun c o cz cT c1 c2 x => hq'.extBut _ _ cz (hq _ _ c2 (hs1.extBut _ _ cT (hp1 _ _ c1 (hs0.extBut _ _ cz x))))) ⟨oe, hq'.extBut _ _ hez hoe, hce⟩
    · have hi1 : i = n1 := by omega
      refine wpAny_bind (D1.done ⟨g0, g, d, tk0, os⟩ _ _ (by rw [← hi1]; exact (D1.over st1 hs0 S.zf1)) fun q tk2 e hq he => ?_)
      replace hq : ∀ b o, b ∉ ch1 → g0.get? b = some o → q.get? b = some o := hq
      obtain ⟨oe, hoe, hce⟩ := he
      replace hoe : q.get? e = some oe := hoe
      have hzq : IsZipG q z TI TO .ellipsis f1 := hq _ _ S.zc1 hz0
      have hez : e ≠ z := fun x => by subst x; rw [hzq] at hoe; cases hoe; simp at hce
      refine wpAny_setField_rec (s := ⟨q, g, d, tk2, os⟩) hzq (by simp) fun q' _ hq' => ?_
      replace hq' : Heap.SameBut z q q' := hq'
      exact hE q' tk2 e (fun c o cz cT c1 c2 x => hq'.extBut _ _ cz (hq _ _ c1 (hs0.extBut _ _ cz x))) ⟨oe, hq'.extBut _ _ hez hoe, hce⟩
  · simp only [Bool.false_eq_true, if_false]
    replace hs0 : Heap.SameBut z hp g0 := hs0
    rw [← Array.forIn_toList]
    simp only [List.forIn_cons, List.forIn_nil]
    refine wpAny_bind (wpAny_bind (wpAny_bind (wpAny_holding ?_)))
    show wpAny _ _ (Builtin.SmallTypes.nextOf (.ref i1) >>= _) _ _ ⟨g0, g, d, tk0, os⟩
    by_cases hlt1 : i < n1
    · refine wpAny_bind (D1.item i _ _ _ hlt1 (D1.over st1 hs0 S.zf1) fun x1 p1 tk1 hx1 sn1 hp1 zp1 => wpAny_pure ?_)
      replace hp1 : ∀ b o, b ∉ ch1 → g0.get? b = some o → p1.get? b = some o := hp1
      have hi2 : i = n2 := by omega
      simp only
      refine wpAny_pure ?_
      simp only
      refine wpAny_bind (wpAny_bind (wpAny_holding ?_))
      show wpAny _ _ (Builtin.SmallTypes.nextOf (.ref i2) >>= _) _ _ ⟨p1, g, d, tk1, os⟩
      refine wpAny_bind (D2.done ⟨p1, g, d, tk1, os⟩ _ _ (by rw [← hi2]; exact (D2.past (D2.over st2 hs0 S.zf2) hp1 S.sep12)) fun q tk2 e hq he => ?_)
      exact hE q tk2 e (fun c o cz cT c1 c2 x => hq _ _ c2 (hp1 _ _ c1 (hs0.extBut _ _ cz x))) he
    · have hi1 : i = n1 := by omega
      refine wpAny_bind (D1.done ⟨g0, g, d, tk0, os⟩ _ _ (by rw [← hi1]; exact (D1.over st1 hs0 S.zf1)) fun q tk2 e hq he => ?_)
      exact hE q tk2 e (fun c o cz cT c1 c2 x => hq _ _ c1 (hs0.extBut _ _ cz x)) he
/-- the zip as a feed -/
theorem DrawsN.zip (S : ZipSepN z TI TO i1 i2 fp1 fp2 ch1 ch2) (D1 : DrawsN prog w A.in1 i1 fp1 ch1 n1 P1 St1) (D2 : DrawsN prog w A.in1 i2 fp2 ch2 n2 P2 St2) :
    DrawsN prog w A z (z :: TI :: TO :: (fp1 ++ fp2)) (z :: TO :: (ch1 ++ ch2)) (min n1 n2) (fun i m h x => ∃ (T m' : Nat) (x1 x2 : Value), x = .ref T ∧ m ≤ T ∧ T < h.objs.size ∧ IsTupOf2 h T x1 x2 ∧ P1 i m h x1 ∧ P2 i m' h x2 ∧ m ≤ m')
      (fun i h => ZAny h z TI TO ∧ IsTupOf2 h TI (.ref i1) (.ref i2) ∧ (∃ b1 b2, IsTupOf2 h TO b1 b2) ∧ St1 i h ∧ St2 i h) where
  live := fun i h st b hb => by
    obtain ⟨⟨f0, f1, hz, _⟩, hTI, ⟨b1, b2, hTO⟩, s1, s2⟩ := st
    have e' : b = z ∨ b = TO ∨ b ∈ ch1 ∨ b ∈ ch2 := by
      simp only [List.mem_cons, List.mem_append] at hb
      rcases hb with h | h | h | h | h <;> simp [h]
    rcases e' with q | q | q | q
    · rw [q]; exact ⟨_, hz⟩
    · rw [q]; exact ⟨_, hTO⟩
    · exact D1.live _ _ s1 b (List.mem_cons_of_mem _ q)
    · exact D2.live _ _ s2 b (List.mem_cons_of_mem _ q)
  frame := fun i h h' st k => by
    obtain ⟨⟨f0, f1, hz, h0⟩, hTI, ⟨b1, b2, hTO⟩, s1, s2⟩ := st
    exact ⟨⟨f0, f1, k z (by simp) _ hz, h0⟩, k TI (by simp) _ hTI, ⟨b1, b2, k TO (by simp) _ hTO⟩, D1.frame _ _ _ s1 fun b hb o e => k b (by simp [hb]) o e, D2.frame _ _ _ s2 fun b hb o e => k b (by simp [hb]) o e⟩
  mono := fun i m h h' x p k => by
    obtain ⟨T, m', x1, x2, e, h1, h2, h3, h4, h5, h6⟩ := p
    exact ⟨T, m', x1, x2, e, h1, Heap.lt_size (k T _ h1 h3), k T _ h1 h3, D1.mono _ _ _ _ _ h4 k, D2.mono _ _ _ _ _ h5 fun b o hb e => k b o (Nat.le_trans h6 hb) e, h6⟩
  item := fun i s Q E hi st hQ => by
    obtain ⟨hz, hTI, ⟨b1, b2, hTO⟩, s1, s2⟩ := st
    have hT : s.TypeIs (.ref z) "zip" := by obtain ⟨f0, f1, hz, _⟩ := hz; exact ⟨_, hz, rfl⟩
    unfold Builtin.SmallTypes.nextOf
    refine wpAny_bind (wpAny_callSpecial?_slot (name := Str.ofString "__next__") hT F.slot_zip_next
      (wpAny_call_entry F.slot_zip_next hT F.entry_zip_next (zipN_next_item S D1 D2 hz hTI hTO s1 s2 (by omega) (by omega) fun x1 x2 m T h' tk q1 q2 l1 l2 l3 z' TO' s1' s2' hT' k => ?_) (F.args_zip_next_1 _)))
    obtain ⟨hm, q2, _, q3⟩ := q2
    refine wpAny_pure (hQ (.ref T) h' tk ⟨T, m, x1, x2, rfl, Nat.le_trans l1 l2, l3, hT', q1, D2.mono _ _ _ _ _ q2 q3, l1⟩ ⟨z', ?_, TO', s1', s2'⟩ (fun b o hb e => ?_) ?_)
    · exact k _ _ S.TIz S.TITO S.Ic1 S.Ic2 hTI
    · simp only [List.mem_cons, List.mem_append, not_or] at hb
      exact k b o hb.1 hb.2.1 hb.2.2.1 hb.2.2.2 e
    · exact Nat.le_of_lt (Nat.lt_of_le_of_lt (Nat.le_trans l1 l2) l3)
  done := fun s Q E st hE => by
    obtain ⟨hz, hTI, ⟨b1, b2, hTO⟩, s1, s2⟩ := st
    have hT : s.TypeIs (.ref z) "zip" := by obtain ⟨f0, f1, hz, _⟩ := hz; exact ⟨_, hz, rfl⟩
    unfold Builtin.SmallTypes.nextOf
    exact wpAny_bind (wpAny_callSpecial?_slot (name := Str.ofString "__next__") hT F.slot_zip_next
      (wpAny_call_entry F.slot_zip_next hT F.entry_zip_next (zipN_next_end S D1 D2 hz hTI hTO s1 s2 (by omega) (by omega) (by omega) fun h' tk e k he => hE h' tk e (fun b o hb x => by
        simp only [List.mem_cons, List.mem_append, not_or] at hb
        exact k b o hb.1 hb.2.1 hb.2.2.1 hb.2.2.2 x) he) (F.args_zip_next_1 _)))

theorem enumN_pyNext_item {e it : Addr} {fp ch : List Addr} {n i : Nat} {c : Int} {P : Nat → Nat → Heap → Value → Prop} {St : Nat → Heap → Prop} {old : Value} {Q : Option Value → Shared → Prop}
    (D : DrawsN prog w A.in1 it fp ch n P St) (he : IsEnum s.heap e it c old) (hst : St i s.heap) (hlt : i < n) (hec : e ∉ ch) (hef : e ∉ fp)
    (hQ : ∀ x h1 h' tk, P i s.heap.objs.size h1 x → s.heap.objs.size ≤ h1.objs.size → (∀ b o, b ≠ e → h1.get? b = some o → h'.get? b = some o) → IsEnumOut h' e it (c + 1) x h1.objs.size → St (i + 1) h' →
      h'.get? h1.objs.size = some { cls := .type "tuple", data := .seq #[.int c tk, x] } →
      (∀ b o, b ≠ e → b ∉ ch → s.heap.get? b = some o → h'.get? b = some o) → Q (some (.ref h1.objs.size)) { s with heap := h', toks := tk + 1 }) :
    wpAny (model prog w) A (pyNext (.ref e)) Q E s := by
  have hT : s.TypeIs (.ref e) "enumerate" := ⟨_, he, rfl⟩
  unfold pyNext
  refine wpAny_bind (wpAny_attempt (wpAny_callSpecial?_slot (name := Str.ofString "__next__") hT F.slot_enumerate_next
    (wpAny_call_entry F.slot_enumerate_next hT F.entry_enumerate_next
      (wpAny_mono (Q := fun fin s' => ∃ v, fin = .done (.ret v) ∧ Q (some v) s') ?_ (fun fin s' ⟨v, e, q⟩ => ⟨v, e, wpAny_pure q⟩) fun _ _ x => x) (F.args_enumerate_next_1 _))))
  obtain ⟨hp, g, d, tk₀, os⟩ := s
  show wpAny _ _ (field (.ref e) 2 >>= _) _ _ _
  refine wpAny_bind (wpAny_field he rfl (x := .ref it) rfl ?_)
  refine wpAny_bind (D.item i _ _ _ hlt hst fun x h₁ tk hPx hit₁ hs₁ hz₁ => ?_)
  replace hs₁ : ∀ b o, b ∉ ch → hp.get? b = some o → h₁.get? b = some o := hs₁
  have he₁ : IsEnum h₁ e it c old := hs₁ e _ hec he
  show wpAny _ _ (field (.ref e) 3 >>= _) _ _ ⟨h₁, g, d, tk, os⟩
  refine wpAny_bind (wpAny_field he₁ rfl (x := rawInt c) rfl ?_)
  show wpAny _ _ (field (.ref e) 4 >>= _) _ _ ⟨h₁, g, d, tk, os⟩
  refine wpAny_bind (wpAny_field he₁ rfl (x := .none) rfl ?_)
  show wpAny _ _ (mkInt c >>= _) _ _ ⟨h₁, g, d, tk, os⟩
  refine wpAny_bind (wpAny_mkInt ?_)
  show wpAny _ _ (setField (.ref e) 3 (rawInt (c + 1)) >>= _) _ _ ⟨h₁, g, d, tk + 1, os⟩
  refine wpAny_bind (wpAny_setField_rec he₁ (by simp) fun h₂ he₂ hs₂ => ?_)
  replace hs₂ : Heap.SameBut e h₁ h₂ := hs₂
  replace he₂ : IsEnum h₂ e it (c + 1) old := he₂
  show wpAny _ _ (setField (.ref e) 4 .none >>= _) _ _ ⟨h₂, g, d, tk + 1, os⟩
  refine wpAny_bind (wpAny_setField_rec he₂ (by simp) fun h₃ he₃ hs₃ => ?_)
  replace hs₃ : Heap.SameBut e h₂ h₃ := hs₃
  replace he₃ : IsEnum h₃ e it (c + 1) old := he₃
  show wpAny _ _ (newTuple [.int c tk, x] >>= _) _ _ ⟨h₃, g, d, tk + 1, os⟩
  refine wpAny_bind (wpAny_newTuple ?_)
  have he₄ : IsEnum (h₃.push { cls := .type "tuple", data := .seq #[.int c tk, x] }) e it (c + 1) old := Heap.get?_push_of_some _ he₃
  generalize hh₄ : h₃.push { cls := .type "tuple", data := .seq #[.int c tk, x] } = h₄ at he₄
  have hsz : h₃.objs.size = h₁.objs.size := by rw [hs₃.1, hs₂.1]
  have hel : e < h₁.objs.size := Heap.lt_size he₁
  have ht₄ : h₄.get? h₁.objs.size = some { cls := .type "tuple", data := .seq #[.int c tk, x] } := by rw [← hh₄, ← hsz]; exact Heap.get?_push_size _ rfl
  have hk₄ : ∀ b o, b ≠ e → h₁.get? b = some o → h₄.get? b = some o := fun b o hbe hb => by
    rw [← hh₄]; exact Heap.get?_push_of_some _ (hs₃.extBut b o hbe (hs₂.extBut b o hbe hb))
  show wpAny _ _ (Builtin.SmallTypes.ownedTupleIsFree (.ref e) >>= _) _ _ ⟨h₄, g, d, tk + 1, os⟩
  rw [hsz]
  refine wpAny_bind ?_
  unfold Builtin.SmallTypes.ownedTupleIsFree
  refine wpAny_bind (wpAny_field he₄ rfl (x := .none) rfl (wpAny_pure ?_))
  simp only [if_true]
  refine wpAny_bind (wpAny_rule ?_)
  refine wpAny_bind (wpAny_field he₄ rfl (x := old) rfl ?_)
  refine wpAny_bind (wpAny_setField_rec he₄ (by simp) fun h₅ he₅ hs₅ => ?_)
  replace hs₅ : Heap.SameBut e h₄ h₅ := hs₅
  replace he₅ : IsEnum h₅ e it (c + 1) x := he₅
  show wpAny _ _ (Builtin.SmallTypes.ownedTupleHandOut (.ref e) (.ref h₁.objs.size) >>= _) _ _ ⟨h₅, g, d, tk + 1, os⟩
  refine wpAny_bind ?_
  unfold Builtin.SmallTypes.ownedTupleHandOut
  refine wpAny_bind (wpAny_setField_rec he₅ (by simp) fun h₆ he₆ hs₆ => ?_)
  replace hs₆ : Heap.SameBut e h₅ h₆ := hs₆
  replace he₆ : IsEnumOut h₆ e it (c + 1) x h₁.objs.size := he₆
  refine wpAny_setField_rec he₆ (by simp) fun h₇ he₇ hs₇ => ?_
  replace hs₇ : Heap.SameBut e h₆ h₇ := hs₇
  replace he₇ : IsEnumOut h₇ e it (c + 1) x h₁.objs.size := he₇
  have hk₇ : ∀ b o, b ≠ e → h₄.get? b = some o → h₇.get? b = some o := fun b o hbe hb => hs₇.extBut b o hbe (hs₆.extBut b o hbe (hs₅.extBut b o hbe hb))
  refine wpAny_bind (wpAny_letGo (wpAny_pure ⟨_, rfl, hQ x h₁ h₇ tk hPx hz₁ (fun b o hb e => hk₇ b o hb (hk₄ b o hb e)) he₇ ?_ ?_ fun b o hb hc e => hk₇ b o hb (hk₄ b o hb (hs₁ b o hc e))⟩))
  · exact D.frame _ _ _ hit₁ fun b hb o y => hk₇ b o (fun q => hef (q ▸ hb)) (hk₄ b o (fun q => hef (q ▸ hb)) y)
  · exact hk₇ _ _ (Nat.ne_of_gt hel) ht₄
theorem enumN_pyNext_end {e it : Addr} {fp ch : List Addr} {n : Nat} {c : Int} {P : Nat → Nat → Heap → Value → Prop} {St : Nat → Heap → Prop} {old : Value} {Q : Option Value → Shared → Prop}
    (D : DrawsN prog w A.in1 it fp ch n P St) (he : IsEnum s.heap e it c old) (hst : St n s.heap)
    (hQ : ∀ h' tk, (∀ b o, b ∉ ch → s.heap.get? b = some o → h'.get? b = some o) → Q none { s with heap := h', toks := tk }) : wpAny (model prog w) A (pyNext (.ref e)) Q E s := by
  have hT : s.TypeIs (.ref e) "enumerate" := ⟨_, he, rfl⟩
  unfold pyNext
  refine wpAny_bind (wpAny_attempt (wpAny_callSpecial?_slot (name := Str.ofString "__next__") hT F.slot_enumerate_next
    (wpAny_call_entry F.slot_enumerate_next hT F.entry_enumerate_next ?_ (F.args_enumerate_next_1 _))))
  show wpAny _ _ (field (.ref e) 2 >>= _) _ _ _
  refine wpAny_bind (wpAny_field he rfl (x := .ref it) rfl ?_)
  refine wpAny_bind (D.done _ _ _ hst fun h' tk x he' hx' => ?_)
  obtain ⟨o, ho, hc⟩ := hx'
  refine wpAny_bind (wpAny_isInstance (T := "StopIteration") (b := true) ⟨o, ho, hc⟩ isSubtype_stop ?_)
  exact wpAny_pure (hQ _ _ he')
/-- zip over a feed -/
theorem zipN_pyNext_item {Q : Option Value → Shared → Prop} (S : ZipSepN z TI TO i1 i2 fp1 fp2 ch1 ch2) (D1 : DrawsN prog w A.in1 i1 fp1 ch1 n1 P1 St1) (D2 : DrawsN prog w A.in1 i2 fp2 ch2 n2 P2 St2)
    (hz : ZAny s.heap z TI TO) (hTI : IsTupOf2 s.heap TI (.ref i1) (.ref i2)) (hTO : IsTupOf2 s.heap TO a1 a2) (st1 : St1 i s.heap) (st2 : St2 i s.heap) (hlt1 : i < n1) (hlt2 : i < n2)
    (hQ : ∀ x1 x2 m T h' tk, P1 i s.heap.objs.size h' x1 → (∃ hm, P2 i m hm x2 ∧ hm.objs.size ≤ T ∧ ∀ b o, m ≤ b → hm.get? b = some o → h'.get? b = some o) → s.heap.objs.size ≤ m → m ≤ T → T < h'.objs.size → ZAny h' z TI TO → (∃ b1 b2, IsTupOf2 h' TO b1 b2) → St1 (i + 1) h' → St2 (i + 1) h' → IsTupOf2 h' T x1 x2 →
      (∀ c o, c ≠ z → c ≠ TO → c ∉ ch1 → c ∉ ch2 → s.heap.get? c = some o → h'.get? c = some o) → Q (some (.ref T)) { s with heap := h', toks := tk }) :
    wpAny (model prog w) A (pyNext (.ref z)) Q E s := by
  have hT : s.TypeIs (.ref z) "zip" := by obtain ⟨f0, f1, hz, _⟩ := hz; exact ⟨_, hz, rfl⟩
  unfold pyNext
  exact wpAny_bind (wpAny_attempt (wpAny_callSpecial?_slot (name := Str.ofString "__next__") hT F.slot_zip_next
    (wpAny_call_entry F.slot_zip_next hT F.entry_zip_next
      (zipN_next_item S D1 D2 hz hTI hTO st1 st2 hlt1 hlt2 fun x1 x2 m T h' tk q1 q2 l1 l2 l3 z' TO' s1 s2 hT' k => wpAny_pure (hQ x1 x2 m T h' tk q1 q2 l1 l2 l3 z' TO' s1 s2 hT' k)) (F.args_zip_next_1 _))))
theorem zipN_pyNext_end {Q : Option Value → Shared → Prop} (S : ZipSepN z TI TO i1 i2 fp1 fp2 ch1 ch2) (D1 : DrawsN prog w A.in1 i1 fp1 ch1 n1 P1 St1) (D2 : DrawsN prog w A.in1 i2 fp2 ch2 n2 P2 St2)
    (hz : ZAny s.heap z TI TO) (hTI : IsTupOf2 s.heap TI (.ref i1) (.ref i2)) (hTO : IsTupOf2 s.heap TO a1 a2) (st1 : St1 i s.heap) (st2 : St2 i s.heap) (hle1 : i ≤ n1) (hle2 : i ≤ n2) (hend : i = n1 ∨ i = n2)
    (hQ : ∀ h' tk, (∀ c o, c ≠ z → c ≠ TO → c ∉ ch1 → c ∉ ch2 → s.heap.get? c = some o → h'.get? c = some o) → Q none { s with heap := h', toks := tk }) : wpAny (model prog w) A (pyNext (.ref z)) Q E s := by
  have hT : s.TypeIs (.ref z) "zip" := by obtain ⟨f0, f1, hz, _⟩ := hz; exact ⟨_, hz, rfl⟩
  unfold pyNext
  refine wpAny_bind (wpAny_attempt (wpAny_callSpecial?_slot (name := Str.ofString "__next__") hT F.slot_zip_next
    (wpAny_call_entry F.slot_zip_next hT F.entry_zip_next (zipN_next_end S D1 D2 hz hTI hTO st1 st2 hle1 hle2 hend fun h' tk e hk he => ?_) (F.args_zip_next_1 _))))
  obtain ⟨o, ho, hc⟩ := he
  refine wpAny_bind (wpAny_isInstance (T := "StopIteration") (b := true) ⟨o, ho, hc⟩ isSubtype_stop ?_)
  exact wpAny_pure (hQ _ _ hk)
theorem wpAny_letOwnedTupleGo_zipG {elts : List Expr} {x1} {pos : Pos} {T : Addr} {f0 f1 : Value} {Q : Unit → Shared → Prop} (hz : IsZipG s.heap z TI TO f0 f1) (h0 : f0 = .none ∨ ∃ a : Addr, f0 = rawInt (a : Nat))
    (hQ : ∀ h', ZAny h' z TI TO → Heap.SameBut z s.heap h' → Q () { s with heap := h' }) :
    wpAny (model prog w) A (letOwnedTupleGo (.Tuple elts x1 pos) (.ref z) (.ref T)) Q E s := by
  unfold letOwnedTupleGo
  refine wpAny_bind (wpAny_load hz ?_)
  show wpAny _ A (if (["enumerate", "zip", "dict_itemiterator", "dict_reverseitemiterator", "odict_iterator", "itertools.zip_longest", "itertools.pairwise"].contains "zip" &&
      (#[f0, f1, .bool false, .ref TI, .ref TO] : Array Value)[0]? == some (rawInt T)) = true then _ else _) Q E s
  by_cases hc : (["enumerate", "zip", "dict_itemiterator", "dict_reverseitemiterator", "odict_iterator", "itertools.zip_longest", "itertools.pairwise"].contains "zip" &&
      (#[f0, f1, .bool false, .ref TI, .ref TO] : Array Value)[0]? == some (rawInt T)) = true
  · rw [if_pos hc]
    refine wpAny_bind (wpAny_rule ?_)
    show wpAny _ A (setField (.ref z) 0 .none) Q E s
    exact wpAny_setField_rec hz (by simp) fun h' hz' hs' => hQ h' ⟨_, _, hz', .inl rfl⟩ hs'
  · rw [if_neg hc]
    exact wpAny_pure (hQ _ ⟨_, _, hz, h0⟩ (Heap.SameBut.refl ..))
end
end PySem
end

section
set_option linter.all false
set_option maxRecDepth 100000
set_option maxHeartbeats 4000000
namespace GN
open PySem PySem.Spec PyProof.Rows L2
section
variable {X : Cx} {pins : List (Addr × Obj)} {σ : L2.St} {H : Hp} {s : Shared} {h' : Heap}
/-- two new objects, one behind the other -/
theorem turnedNew2 {t' : Nat} {ch : List Addr} {T U : Addr} {ob pb : HO} (I : Inv X pins σ H s) (k : ∀ b o, b ∉ ch → s.heap.get? b = some o → h'.get? b = some o) (hf : ∀ b ∈ ch, FpOk X pins H b) (hT : s.heap.objs.size ≤ T) (hU : s.heap.objs.size ≤ U) (ne : T ≠ U)
    (new : ObjOk X.prog X.w (upd (upd H T ob) U pb) h' T ob) (new2 : ObjOk X.prog X.w (upd (upd H T ob) U pb) h' U pb) : Inv X pins σ (upd (upd H T ob) U pb) { s with heap := h', toks := t' } := by
  have hn : H T = none := I.hok.fresh hT
  have hm : H U = none := I.hok.fresh hU
  have nit : ∀ b u, H b = some u → b ∉ ch := fun b u e z => by
    have q := (hf b z).1
    rw [q] at e; cases e
  have off : ∀ {b u}, H b = some u → upd (upd H T ob) U pb b = some u := fun {b u} e => by
    rw [upd_ne (ne_of_none e hm), upd_ne (ne_of_none e hn)]; exact e
  refine I.step (g' := s.gens) (d' := s.drawn) (ch := ch) (fun b hb => ⟨(hf b hb).2.2.2.1, (hf b hb).2.1, (hf b hb).2.2.2.2.1, (hf b hb).2.2.2.2.2⟩) (fun b o _ _ hc e _ => k b o hc e) (fun b o _ _ hc e _ => ⟨o.slots, k b o hc e⟩)
    (fun b o _ e n => ?_) (fun b o hc e => ⟨o, k b o hc e⟩) (fun b xs e => off e) (fun b o u e => off e) (fun b ps e => ⟨#[], ?_⟩) (fun m hm => ?_) (fun b u e => ?_) I.bare
  · rw [upd_ne (Nat.ne_of_lt (Nat.lt_of_lt_of_le (Heap.lt_size e) hU)), upd_ne (Nat.ne_of_lt (Nat.lt_of_lt_of_le (Heap.lt_size e) hT))]; exact n
  · rw [off e]; simp
  · obtain ⟨o, es, ep, ho, r⟩ := hm
    exact ⟨o, es, ep, k _ o (fun z => (hf _ z).2.1 rfl) ho, r⟩
  · by_cases hb : b = U
    · subst hb
      rw [upd_same] at e
      cases e
      exact new2
    · rw [upd_ne hb] at e
      by_cases hc : b = T
      · subst hc
        rw [upd_same] at e
        cases e
        exact new
      · rw [upd_ne hc] at e
        refine (I.hok b u e).stay (fun c v hc q => k c v ?_ q) (fun c q => off q) fun c xs q => off q
        rcases hc with z | z
        · rw [z]; exact nit b u e
        · exact nit c _ z
end
def ItEZ (K : PySem.W.Frag) (k1 k2 : SK) (v1 v2 : V) (xs ys : List V) : It :=
  ⟨fun i H => SqK K k1 H v1 xs ∧ SqK K k2 H v2 ys ∧ i < xs.length ∧ i < ys.length,
    fun i H v H' => ∃ T U x y, v = .ref U ∧ H T = none ∧ H U = none ∧ T ≠ U ∧ H' = upd (upd H T (.tup [x, y])) U (.tup [.int (i : Nat), .ref T]) ∧ xs[i]? = some x ∧ ys[i]? = some y,
    fun i H => SqK K k1 H v1 xs ∧ SqK K k2 H v2 ys ∧ i ≤ xs.length ∧ i ≤ ys.length ∧ (i = xs.length ∨ i = ys.length)⟩
theorem sepN_of {z TI TO i1 i2 : Addr} {u1 u2 : Value} (D : ZipSep2 z TI TO i1 i2 (i1 :: adrs u1) (i2 :: adrs u2)) : ZipSepN z TI TO i1 i2 (i1 :: adrs u1) (i2 :: adrs u2) [i1] [i2] where
  TIz := D.TIz
  TOz := D.TOz
  TITO := D.TITO
  zf1 := D.zf1
  zf2 := D.zf2
  Tf1 := D.Tf1
  Tf2 := D.Tf2
  zc1 := by simpa using D.zi1
  zc2 := by simpa using D.zi2
  Tc1 := by simpa using D.Ti1
  Tc2 := by simpa using D.Ti2
  Ic1 := by simpa using D.TIi1
  Ic2 := by simpa using D.TIi2
  sep12 := fun b hb => by have : b = i1 := by simpa using hb
                          subst this; exact D.sep1_2
  sep21 := fun b hb => by have : b = i2 := by simpa using hb
                          subst this; exact D.sep2_1
theorem turn_enumZ {P : Program} {w : World} {K : PySem.W.Frag} {elts : List Expr} {kk : Nat} {tpos : Pos} {k1 k2 : SK} {v1 v2 : V} {u1 u2 : Value} {xs ys : List V} {e z TI TO i1 i2 : Addr} (r1 : RelV v1 u1) (r2 : RelV v2 u2) (n1 : i1 ∉ adrs u1) (n2 : i2 ∉ adrs u2)
    (D : ZipSep2 z TI TO i1 i2 (i1 :: adrs u1) (i2 :: adrs u2)) (he : e ∉ z :: TI :: TO :: ((i1 :: adrs u1) ++ (i2 :: adrs u2))) :
    Turn P w K (.Tuple elts kk tpos) (ItEZ K k1 k2 v1 v2 xs ys) [e, z, TI, TO, i1, i2] e (fun i h => (∃ old, IsEnum h e z ((i : Nat) : Int) old) ∧ ZAny h z TI TO ∧ IsTupOf2 h TI (.ref i1) (.ref i2) ∧ (∃ x y, IsTupOf2 h TO x y) ∧ IterK k1 u1 i1 i h ∧ IterK k2 u2 i2 i h) where
  mem := by simp
  obj := fun i h st c hc => by
    obtain ⟨⟨old, hE⟩, ⟨f0, f1, hz, _⟩, hTI, ⟨x, y, hTO⟩, h1, h2⟩ := st
    have e' : c = e ∨ c = z ∨ c = TI ∨ c = TO ∨ c = i1 ∨ c = i2 := by simpa using hc
    rcases e' with q | q | q | q | q | q
    · rw [q]; exact ⟨_, hE, fun v q => nomatch q⟩
    · rw [q]; exact ⟨_, hz, fun v q => nomatch q⟩
    · rw [q]; exact ⟨_, hTI, fun v q => nomatch q⟩
    · rw [q]; exact ⟨_, hTO, fun v q => nomatch q⟩
    · rw [q]; exact h1.obj
    · rw [q]; exact h2.obj
  keep := fun i h h' st k => by
    obtain ⟨⟨old, hE⟩, ⟨f0, f1, hz, h0⟩, hTI, ⟨x, y, hTO⟩, h1, h2⟩ := st
    exact ⟨⟨old, k e (by simp) _ hE⟩, ⟨f0, f1, k z (by simp) _ hz, h0⟩, k TI (by simp) _ hTI, ⟨x, y, k TO (by simp) _ hTO⟩, h1.at fun o q => k i1 (by simp) o q, h2.at fun o q => k i2 (by simp) o q⟩
  item := by
    intro X hP hw hK hc i pins s σ H E I hf st hg
    subst hP hw hK
    obtain ⟨⟨old, hE⟩, hz, hTI, ⟨x0, y0, hTO⟩, h1, h2⟩ := st
    obtain ⟨hqx, hqy, hx, hy⟩ := hg
    obtain ⟨St1, D1, d1, e1⟩ := draws_K (prog := X.prog) (w := X.w) (A := X.A.in1.in1) (I.ok.hd hc) (SrcK.of I hqx r1) i1 n1
    obtain ⟨St2, D2, d2, e2⟩ := draws_K (prog := X.prog) (w := X.w) (A := X.A.in1.in1) (I.ok.hd hc) (SrcK.of I hqy r2) i2 n2
    have DZ := DrawsN.zip (A := X.A.in1) (sepN_of D) D1.toN D2.toN
    have hel : e < s.heap.objs.size := Heap.lt_size hE
    have hec : e ∉ z :: TO :: ([i1] ++ [i2]) := fun m => he (by
      have e' : e = z ∨ e = TO ∨ e = i1 ∨ e = i2 := by simpa using m
      rcases e' with q | q | q | q <;> simp [q])
    refine enumN_pyNext_item DZ hE ⟨hz, hTI, ⟨x0, y0, hTO⟩, d1 i h1, d2 i h2⟩ (by omega) hec he fun x h1' h' tk hp hsz kp ho st' hU k => ?_
    obtain ⟨T, m', x1, x2, rfl, l1, l2, hT, p1, p2, _⟩ := hp
    obtain ⟨xv, hxv, rx⟩ := p1
    obtain ⟨yv, hyv, ry⟩ := p2
    obtain ⟨hz', hTI', hTO', s1', s2'⟩ := st'
    have neT : T ≠ e := Nat.ne_of_gt (Nat.lt_of_lt_of_le hel l1)
    refine ⟨_, rfl, wpAny_letOwnedTupleGo_enum (s := { s with heap := h', toks := tk + 1 }) ho fun h'' he' sb => ?_⟩
    have hT2 : IsTupOf2 h'' T x1 x2 := (sb.2 _ neT).trans (kp _ _ neT hT)
    have hUe : h1'.objs.size ≠ e := Nat.ne_of_gt (Nat.lt_of_lt_of_le hel hsz)
    have hU2 : h''.get? h1'.objs.size = some { cls := .type "tuple", data := .seq #[.int i tk, .ref T] } := (sb.2 _ hUe).trans hU
    have neTU : T ≠ h1'.objs.size := Nat.ne_of_lt l2
    have new1 : ObjOk X.prog X.w (upd (upd H T (.tup [xv, yv])) h1'.objs.size (.tup [.int (i : Nat), .ref T])) h'' T (.tup [xv, yv]) :=
      ⟨by show 2 ≤ sizeLine; decide, [x1, x2], .cons rx (.cons ry .nil), ⟨_, hT2, rfl, _, rfl⟩⟩
    have new2 : ObjOk X.prog X.w (upd (upd H T (.tup [xv, yv])) h1'.objs.size (.tup [.int (i : Nat), .ref T])) h'' h1'.objs.size (.tup [.int (i : Nat), .ref T]) :=
      ⟨by show 2 ≤ sizeLine; decide, [.int i tk, .ref T], .cons ⟨_, rfl⟩ (.cons rfl .nil), ⟨_, hU2, rfl, _, rfl⟩⟩
    have I1 := turnedNew2 (t' := tk + 1) (h' := h'') (ch := [e, z, TI, TO, i1, i2]) I (fun b ob hb q => by
      have hb' : ¬ b = e ∧ ¬ b = z ∧ ¬ b = TI ∧ ¬ b = TO ∧ ¬ b = i1 ∧ ¬ b = i2 := by simpa using hb
      exact (sb.2 b hb'.1).trans (k b ob hb'.1 (by simp [hb'.2.1, hb'.2.2.2.1, hb'.2.2.2.2.1, hb'.2.2.2.2.2]) q)) hf l1 hsz neTU new1 new2
    refine ⟨.ref h1'.objs.size, _, I1, rfl, ⟨T, h1'.objs.size, xv, yv, rfl, I.hok.fresh l1, I.hok.fresh hsz, neTU, rfl, hxv, hyv⟩, ⟨⟨.ref T, ?_⟩, ?_, ?_, ?_, ?_, ?_⟩, fun b hb => ?_⟩
    · have e1 : ((i + 1 : Nat) : Int) = (i : Int) + 1 := by omega
      rw [e1]; exact he'
    · obtain ⟨f0, f1, hz', h0⟩ := hz'
      exact ⟨f0, f1, (sb.2 z fun q => he (by simp [q])).trans hz', h0⟩
    · exact (sb.2 TI fun q => he (by simp [q])).trans hTI'
    · obtain ⟨b1, b2, hTO'⟩ := hTO'
      exact ⟨b1, b2, (sb.2 TO fun q => he (by simp [q])).trans hTO'⟩
    · exact (e1 _ _ s1').at fun o q => (sb.2 i1 fun q => he (by simp [q])).trans q
    · exact (e2 _ _ s2').at fun o q => (sb.2 i2 fun q => he (by simp [q])).trans q
    · have hlt : b < s.heap.objs.size := by
        have e' : b = e ∨ b = z ∨ b = TI ∨ b = TO ∨ b = i1 ∨ b = i2 := by simpa using hb
        rcases e' with q | q | q | q | q | q
        · rw [q]; exact hel
        · rw [q]; obtain ⟨f0, f1, hz, _⟩ := hz; exact Heap.lt_size hz
        · rw [q]; exact Heap.lt_size hTI
        · rw [q]; exact Heap.lt_size hTO
        · rw [q]; obtain ⟨_, e1, _⟩ := h1.obj; exact Heap.lt_size e1
        · rw [q]; obtain ⟨_, e2, _⟩ := h2.obj; exact Heap.lt_size e2
      rw [upd_ne (Nat.ne_of_lt (Nat.lt_of_lt_of_le hlt hsz)), upd_ne (Nat.ne_of_lt (Nat.lt_of_lt_of_le hlt l1))]
      exact (hf b hb).1
  done := by
    intro X hP hw hK hc i pins s σ H E I hf st hg
    subst hP hw hK
    obtain ⟨⟨old, hE⟩, hz, hTI, ⟨x0, y0, hTO⟩, h1, h2⟩ := st
    obtain ⟨hqx, hqy, l1, l2, hend⟩ := hg
    obtain ⟨St1, D1, d1, e1⟩ := draws_K (prog := X.prog) (w := X.w) (A := X.A.in1.in1) (I.ok.hd hc) (SrcK.of I hqx r1) i1 n1
    obtain ⟨St2, D2, d2, e2⟩ := draws_K (prog := X.prog) (w := X.w) (A := X.A.in1.in1) (I.ok.hd hc) (SrcK.of I hqy r2) i2 n2
    have DZ := DrawsN.zip (A := X.A.in1) (sepN_of D) D1.toN D2.toN
    have ei : i = min xs.length ys.length := by omega
    refine enumN_pyNext_end DZ hE (by rw [← ei]; exact ⟨hz, hTI, ⟨x0, y0, hTO⟩, d1 i h1, d2 i h2⟩) fun h' tk hk => ⟨rfl, I.turnedL (t' := tk) (ch := [e, z, TI, TO, i1, i2]) (fun c o hb q => ?_) hf⟩
    have hb' : ¬ c = e ∧ ¬ c = z ∧ ¬ c = TI ∧ ¬ c = TO ∧ ¬ c = i1 ∧ ¬ c = i2 := by simpa using hb
    exact hk c o (by simp [hb'.2.1, hb'.2.2.2.1, hb'.2.2.2.2.1, hb'.2.2.2.2.2]) q
  self := fun A i s Q E st h => let ⟨⟨_, he⟩, _⟩ := st; wpAny_pyIter_enum he h
theorem wpAny_pyIter_zipG {prog : Program} {w : World} {A : Around} {E : Value → Shared → Prop} {s : Shared} {z TI TO : Addr} {f0 f1 : Value} {Q : Value → Shared → Prop} (hz : IsZipG s.heap z TI TO f0 f1) (h : Q (.ref z) s) : wpAny (model prog w) A (pyIter (.ref z)) Q E s := by
  have hT : s.TypeIs (.ref z) "zip" := ⟨_, hz, rfl⟩
  refine wpAny_pyIter_slot hT F.slot_zip_iter (wpAny_call_entry F.slot_zip_iter hT F.entry_zip_iter ?_ (F.args_zip_iter_1 _))
  show wpAny _ _ (ret (.ref z)) _ _ s
  exact wpAny_pure ⟨_, rfl, "zip", _, hT, F.slot_zip_next.lookup, h⟩
def ItZZ (K : PySem.W.Frag) (k0 k1 k2 : SK) (v0 v1 v2 : V) (ws xs ys : List V) : It :=
  ⟨fun i H => (SqK K k0 H v0 ws ∧ SqK K k1 H v1 xs ∧ SqK K k2 H v2 ys) ∧ i < ws.length ∧ i < xs.length ∧ i < ys.length,
    fun i H v H' => ∃ T U w x y, v = .ref U ∧ H T = none ∧ H U = none ∧ T ≠ U ∧ H' = upd (upd H T (.tup [x, y])) U (.tup [w, .ref T]) ∧ ws[i]? = some w ∧ xs[i]? = some x ∧ ys[i]? = some y,
    fun i H => (SqK K k0 H v0 ws ∧ SqK K k1 H v1 xs ∧ SqK K k2 H v2 ys) ∧ i ≤ ws.length ∧ i ≤ min xs.length ys.length ∧ (i = ws.length ∨ i = min xs.length ys.length)⟩
theorem turn_zipZ {P : Program} {w : World} {K : PySem.W.Frag} {elts : List Expr} {kk : Nat} {tpos : Pos} {k0 k1 k2 : SK} {v0 v1 v2 : V} {u0 u1 u2 : Value} {ws xs ys : List V} {e eTI eTO i0 z TI TO i1 i2 : Addr} (r0 : RelV v0 u0) (r1 : RelV v1 u1) (r2 : RelV v2 u2) (n0 : i0 ∉ adrs u0) (n1 : i1 ∉ adrs u1) (n2 : i2 ∉ adrs u2)
    (D : ZipSep2 z TI TO i1 i2 (i1 :: adrs u1) (i2 :: adrs u2)) (S : ZipSepN e eTI eTO i0 z (i0 :: adrs u0) (z :: TI :: TO :: ((i1 :: adrs u1) ++ (i2 :: adrs u2))) [i0] (z :: TO :: ([i1] ++ [i2]))) :
    Turn P w K (.Tuple elts kk tpos) (ItZZ K k0 k1 k2 v0 v1 v2 ws xs ys) [e, eTI, eTO, i0, z, TI, TO, i1, i2] e (fun i h => (ZAny h e eTI eTO ∧ IsTupOf2 h eTI (.ref i0) (.ref z) ∧ (∃ x y, IsTupOf2 h eTO x y) ∧ IterK k0 u0 i0 i h) ∧ ZAny h z TI TO ∧ IsTupOf2 h TI (.ref i1) (.ref i2) ∧ (∃ x y, IsTupOf2 h TO x y) ∧ IterK k1 u1 i1 i h ∧ IterK k2 u2 i2 i h) where
  mem := by simp
  obj := fun i h st c hc => by
    obtain ⟨⟨⟨g0, g1, hE, _⟩, hEI, ⟨x', y', hEO⟩, h0⟩, ⟨f0, f1, hz, _⟩, hTI, ⟨x, y, hTO⟩, h1, h2⟩ := st
    have e' : c = e ∨ c = eTI ∨ c = eTO ∨ c = i0 ∨ c = z ∨ c = TI ∨ c = TO ∨ c = i1 ∨ c = i2 := by simpa using hc
    rcases e' with q | q | q | q | q | q | q | q | q
    · rw [q]; exact ⟨_, hE, fun v q => nomatch q⟩
    · rw [q]; exact ⟨_, hEI, fun v q => nomatch q⟩
    · rw [q]; exact ⟨_, hEO, fun v q => nomatch q⟩
    · rw [q]; exact h0.obj
    · rw [q]; exact ⟨_, hz, fun v q => nomatch q⟩
    · rw [q]; exact ⟨_, hTI, fun v q => nomatch q⟩
    · rw [q]; exact ⟨_, hTO, fun v q => nomatch q⟩
    · rw [q]; exact h1.obj
    · rw [q]; exact h2.obj
  keep := fun i h h' st k => by
    obtain ⟨⟨⟨g0, g1, hE, q0⟩, hEI, ⟨x', y', hEO⟩, h3⟩, ⟨f0, f1, hz, h0⟩, hTI, ⟨x, y, hTO⟩, h1, h2⟩ := st
    exact ⟨⟨⟨g0, g1, k e (by simp) _ hE, q0⟩, k eTI (by simp) _ hEI, ⟨x', y', k eTO (by simp) _ hEO⟩, h3.at fun o q => k i0 (by simp) o q⟩, ⟨f0, f1, k z (by simp) _ hz, h0⟩, k TI (by simp) _ hTI, ⟨x, y, k TO (by simp) _ hTO⟩, h1.at fun o q => k i1 (by simp) o q, h2.at fun o q => k i2 (by simp) o q⟩
  item := by
    intro X hP hw hK hc i pins s σ H E I hf st hg
    subst hP hw hK
    obtain ⟨⟨hE, hEI, ⟨x', y', hEO⟩, h0⟩, hz, hTI, ⟨x0, y0, hTO⟩, h1, h2⟩ := st
    obtain ⟨⟨hqw, hqx, hqy⟩, hww, hx, hy⟩ := hg
    obtain ⟨St0, D0, d0, e0⟩ := draws_K (prog := X.prog) (w := X.w) (A := X.A.in1) (I.ok.hd hc) (SrcK.of I hqw r0) i0 n0
    obtain ⟨St1, D1, d1, e1⟩ := draws_K (prog := X.prog) (w := X.w) (A := X.A.in1.in1) (I.ok.hd hc) (SrcK.of I hqx r1) i1 n1
    obtain ⟨St2, D2, d2, e2⟩ := draws_K (prog := X.prog) (w := X.w) (A := X.A.in1.in1) (I.ok.hd hc) (SrcK.of I hqy r2) i2 n2
    have DZ := DrawsN.zip (A := X.A.in1) (sepN_of D) D1.toN D2.toN
    have old : ∀ b ∈ [e, eTI, eTO, i0, z, TI, TO, i1, i2], b < s.heap.objs.size := fun b hb => by
      have e' : b = e ∨ b = eTI ∨ b = eTO ∨ b = i0 ∨ b = z ∨ b = TI ∨ b = TO ∨ b = i1 ∨ b = i2 := by simpa using hb
      rcases e' with q | q | q | q | q | q | q | q | q
      · rw [q]; obtain ⟨f0, f1, hz, _⟩ := hE; exact Heap.lt_size hz
      · rw [q]; exact Heap.lt_size hEI
      · rw [q]; exact Heap.lt_size hEO
      · rw [q]; obtain ⟨_, e1, _⟩ := h0.obj; exact Heap.lt_size e1
      · rw [q]; obtain ⟨f0, f1, hz, _⟩ := hz; exact Heap.lt_size hz
      · rw [q]; exact Heap.lt_size hTI
      · rw [q]; exact Heap.lt_size hTO
      · rw [q]; obtain ⟨_, e1, _⟩ := h1.obj; exact Heap.lt_size e1
      · rw [q]; obtain ⟨_, e2, _⟩ := h2.obj; exact Heap.lt_size e2
    have hel : e < s.heap.objs.size := old e (by simp)
    refine zipN_pyNext_item S D0.toN DZ hE hEI hEO (d0 i h0) ⟨hz, hTI, ⟨x0, y0, hTO⟩, d1 i h1, d2 i h2⟩ hww (by omega) fun w1 x m U h' tk p0 hp m0 m1 m2 hE' hEO' s0' st' hU k => ?_
    obtain ⟨hm, hp, hmU, km⟩ := hp
    obtain ⟨T, m', x1, x2, rfl, l1, l2, hT, p1, p2, l3⟩ := hp
    have neTU : T ≠ U := Nat.ne_of_lt (Nat.lt_of_lt_of_le l2 hmU)
    replace hT := km _ _ l1 hT
    obtain ⟨wv, hwv, rw_⟩ := p0
    obtain ⟨xv, hxv, rx⟩ := p1
    obtain ⟨yv, hyv, ry⟩ := p2
    obtain ⟨hz', hTI', hTO', s1', s2'⟩ := st'
    have lT : s.heap.objs.size ≤ T := Nat.le_trans m0 l1
    have lU : s.heap.objs.size ≤ U := Nat.le_trans m0 m1
    have neT : T ≠ e := Nat.ne_of_gt (Nat.lt_of_lt_of_le hel lT)
    obtain ⟨g0, g1, hE', q0⟩ := hE'
    refine ⟨_, rfl, wpAny_letOwnedTupleGo_zipG (s := { s with heap := h', toks := tk }) hE' q0 fun h'' he' sb => ?_⟩
    have hT2 : IsTupOf2 h'' T x1 x2 := (sb.2 _ neT).trans hT
    have hUe : U ≠ e := Nat.ne_of_gt (Nat.lt_of_lt_of_le hel lU)
    have hU2 : IsTupOf2 h'' U w1 (.ref T) := (sb.2 _ hUe).trans hU
    have new1 : ObjOk X.prog X.w (upd (upd H T (.tup [xv, yv])) U (.tup [wv, .ref T])) h'' T (.tup [xv, yv]) :=
      ⟨by show 2 ≤ sizeLine; decide, [x1, x2], .cons rx (.cons ry .nil), ⟨_, hT2, rfl, _, rfl⟩⟩
    have new2 : ObjOk X.prog X.w (upd (upd H T (.tup [xv, yv])) U (.tup [wv, .ref T])) h'' U (.tup [wv, .ref T]) :=
      ⟨by show 2 ≤ sizeLine; decide, [w1, .ref T], .cons rw_ (.cons rfl .nil), ⟨_, hU2, rfl, _, rfl⟩⟩
    have ne0 : e ∉ i0 :: adrs u0 := S.zf1
    have ne1 : e ∉ z :: TI :: TO :: ((i1 :: adrs u1) ++ (i2 :: adrs u2)) := S.zf2
    have I1 := turnedNew2 (t' := tk) (h' := h'') (ch := [e, eTI, eTO, i0, z, TI, TO, i1, i2]) I (fun b ob hb q => by
      have hb' : ¬ b = e ∧ ¬ b = eTI ∧ ¬ b = eTO ∧ ¬ b = i0 ∧ ¬ b = z ∧ ¬ b = TI ∧ ¬ b = TO ∧ ¬ b = i1 ∧ ¬ b = i2 := by simpa using hb
      exact (sb.2 b hb'.1).trans (k b ob hb'.1 hb'.2.2.1 (by simp [hb'.2.2.2.1]) (by simp [hb'.2.2.2.2.1, hb'.2.2.2.2.2.2.1, hb'.2.2.2.2.2.2.2.1, hb'.2.2.2.2.2.2.2.2]) q)) hf lT lU neTU new1 new2
    refine ⟨.ref U, _, I1, rfl, ⟨T, U, wv, xv, yv, rfl, I.hok.fresh lT, I.hok.fresh lU, neTU, rfl, hwv, hxv, hyv⟩, ⟨⟨he', ?_, ?_, ?_⟩, ?_, ?_, ?_, ?_, ?_⟩, fun b hb => ?_⟩
    · exact (sb.2 eTI S.TIz).trans (k _ _ S.TIz S.TITO S.Ic1 S.Ic2 hEI)
    · obtain ⟨b1, b2, hEO'⟩ := hEO'
      exact ⟨b1, b2, (sb.2 eTO S.TOz).trans hEO'⟩
    · exact (e0 _ _ s0').at fun o q => (sb.2 i0 fun q => ne0 (by simp [q])).trans q
    · obtain ⟨f0, f1, hz', h0⟩ := hz'
      exact ⟨f0, f1, (sb.2 z fun q => ne1 (by simp [q])).trans hz', h0⟩
    · exact (sb.2 TI fun q => ne1 (by simp [q])).trans hTI'
    · obtain ⟨b1, b2, hTO'⟩ := hTO'
      exact ⟨b1, b2, (sb.2 TO fun q => ne1 (by simp [q])).trans hTO'⟩
    · exact (e1 _ _ s1').at fun o q => (sb.2 i1 fun q => ne1 (by simp [q])).trans q
    · exact (e2 _ _ s2').at fun o q => (sb.2 i2 fun q => ne1 (by simp [q])).trans q
    · rw [upd_ne (Nat.ne_of_lt (Nat.lt_of_lt_of_le (old b hb) lU)), upd_ne (Nat.ne_of_lt (Nat.lt_of_lt_of_le (old b hb) lT))]
      exact (hf b hb).1
  done := by
    intro X hP hw hK hc i pins s σ H E I hf st hg
    subst hP hw hK
    obtain ⟨⟨hE, hEI, ⟨x', y', hEO⟩, h0⟩, hz, hTI, ⟨x0, y0, hTO⟩, h1, h2⟩ := st
    obtain ⟨⟨hqw, hqx, hqy⟩, l0, l1, hend⟩ := hg
    obtain ⟨St0, D0, d0, e0⟩ := draws_K (prog := X.prog) (w := X.w) (A := X.A.in1) (I.ok.hd hc) (SrcK.of I hqw r0) i0 n0
    obtain ⟨St1, D1, d1, e1⟩ := draws_K (prog := X.prog) (w := X.w) (A := X.A.in1.in1) (I.ok.hd hc) (SrcK.of I hqx r1) i1 n1
    obtain ⟨St2, D2, d2, e2⟩ := draws_K (prog := X.prog) (w := X.w) (A := X.A.in1.in1) (I.ok.hd hc) (SrcK.of I hqy r2) i2 n2
    have DZ := DrawsN.zip (A := X.A.in1) (sepN_of D) D1.toN D2.toN
    refine zipN_pyNext_end S D0.toN DZ hE hEI hEO (d0 i h0) ⟨hz, hTI, ⟨x0, y0, hTO⟩, d1 i h1, d2 i h2⟩ l0 l1 hend fun h' tk hk => ⟨rfl, I.turnedL (t' := tk) (ch := [e, eTI, eTO, i0, z, TI, TO, i1, i2]) (fun c o hb q => ?_) hf⟩
    have hb' : ¬ c = e ∧ ¬ c = eTI ∧ ¬ c = eTO ∧ ¬ c = i0 ∧ ¬ c = z ∧ ¬ c = TI ∧ ¬ c = TO ∧ ¬ c = i1 ∧ ¬ c = i2 := by simpa using hb
    exact hk c o hb'.1 hb'.2.2.1 (by simp [hb'.2.2.2.1]) (by simp [hb'.2.2.2.2.1, hb'.2.2.2.2.2.2.1, hb'.2.2.2.2.2.2.2.1, hb'.2.2.2.2.2.2.2.2]) q
  self := fun A i s Q E st h => let ⟨⟨⟨_, _, he, _⟩, _⟩, _⟩ := st; wpAny_pyIter_zipG he h
end GN
end

section
set_option linter.all false
set_option maxRecDepth 100000
set_option maxHeartbeats 4000000
namespace GN
open PySem PySem.Spec PyProof.Rows L2
section
variable {K : PySem.W.Frag} {Z Z1 Z2 : Addr → Prop} {H H1 H2 : Hp} {gs gs2 : List Addr}
theorem Agr.trans {f : List Addr} (a : Agr Z H f Z1 H1) (b : Agr Z1 H1 f Z2 H2) : Agr Z H f Z2 H2 := by
  refine ⟨fun x z => b.zs x (a.zs x z), fun x z n => ?_, fun x n m => ?_, fun x m => (b.at_ x m).trans (a.at_ x m)⟩
  · have e := a.fz x z n
    exact (b.fz x (a.zs x z) (by rw [e]; exact n)).trans e
  · have e := a.tp x n m
    exact (b.tp x (by rw [e]; exact n) (by rw [e]; exact m)).trans e
/-- a walked value: its items, while what it stands on stands -/
def SeqV (K : PySem.W.Frag) (Z1 : Addr → Prop) (H1 : Hp) (gs : List Addr) (xs : List D) (v : V) : Prop := ∃ k vs, vs.length = xs.length ∧ ∀ (Z : Addr → Prop) (H : Hp), Agr Z1 H1 gs Z H → (∀ b, Z b → H b ≠ none) →
  SqK K k H v vs ∧ ∀ (i : Nat) (d : D) (x : V), xs[i]? = some d → vs[i]? = some x → Rel K Z H d x []
theorem SeqV.agr {xs : List D} {v : V} (h : SeqV K Z1 H1 gs xs v) (a : Agr Z1 H1 gs Z2 H2) (hs : ∀ b ∈ gs, b ∈ gs2) : SeqV K Z2 H2 gs2 xs v := by
  obtain ⟨k, vs, hl, q⟩ := h
  exact ⟨k, vs, hl, fun Z H a2 zh => q Z H (a.trans (a2.sub hs)) zh⟩
theorem item_rel {xs : List D} {vs : List V} {f' : List Addr} {i : Nat} {d : D} {x : V} (r : RelL K Z H xs vs f') (p : D.plainL xs = true) (e : xs[i]? = some d) (y : vs[i]? = some x) : Rel K Z H d x [] := by
  obtain ⟨v, f2, e1, e2, _⟩ := r.get e
  rw [y] at e1; cases e1
  have := Rel.plain d x f2 e2 (plainL_get p e)
  subst this
  exact e2
theorem seqv_of {d : D} {v : V} {f : List Addr} {xs : List D} (r : Rel K Z1 H1 d v f) (e : itemsOf d = some xs) : SeqV K Z1 H1 f xs v := by
  cases d with
  | lst o zs =>
    simp only [itemsOf] at e
    obtain ⟨pl, e⟩ := ite_some e
    cases e
    obtain ⟨a, vs, e, hl, h⟩ := lst_sql r
    exact ⟨.l, vs, hl, fun Z H ag zh => ⟨⟨a, e, (h Z H ag).1⟩, fun i d x e y => by obtain ⟨f', r'⟩ := (h Z H ag).2; exact item_rel r' pl e y⟩⟩
  | tup zs =>
    simp only [itemsOf] at e
    obtain ⟨pl, e⟩ := ite_some e
    cases e
    obtain ⟨a, vs, e, s, r⟩ := r
    exact ⟨.t, vs, r.len, fun Z H ag zh => ⟨⟨a, e, ag.sqT s⟩, fun i d x e y => item_rel (RelL.agr _ _ _ r ag) pl e y⟩⟩
  | str s =>
    simp only [itemsOf] at e
    cases e
    refine ⟨.s, s.map fun c => .str ⟨#[c]⟩, by simp, fun Z H ag zh => ⟨⟨toS s, r.1, by simp [toS]⟩, fun i d x e y => ?_⟩⟩
    rw [List.getElem?_map] at e y
    cases h : s[i]? with
    | none => rw [h] at e; cases e
    | some c =>
      rw [h] at e y
      cases e; cases y
      exact ⟨rfl, rfl⟩
  | _ => simp [itemsOf] at e
end
section
variable {X : Cx} {C : Cfg} {Γ : Al} {Tk : List Nat}
structure SrcV (X : Cx) (Γ : Al) (Tk : List Nat) (F : Env → Option Its) (e : Expr) : Prop where
  ex : ∃ te, PE X e te ∧ Mono te ∧ ∀ (σ : L2.St) (H : Hp) (R : VK) (Z : Addr → Prop) (g : List Addr) (ρ : Env) (xs : List D) (ρ1 : Env) (rf : List (Nat × D)), Stb X.K Γ Z H ρ σ g → F ρ = some (xs, ρ1, rf) →
    ((∀ q ∈ rf, q.1 ∈ Tk) → ∀ v H1 Z1 gs g1, Sp0 Z H g Z1 H1 (gs ++ g1) → Ok Z1 H1 (gs ++ g1) → SeqV X.K Z1 H1 gs xs v → RfR X.K Z1 H1 σ rf gs → Stb X.K Γ Z1 H1 ρ1 σ g1 → R v H1) → te σ H R
theorem ownV_ok {a : ME} {e : Expr} (h : Exp X Γ (ev C a) e) : SrcV X Γ Tk (evI C (.own a)) e := by
  refine ⟨_, h.1, mono_tM, fun σ H R Z g ρ xs ρ1 rf S e q => ?_⟩
  simp only [evI] at e
  obtain ⟨⟨d, ρ2⟩, e1, e2⟩ := Option.bind_eq_some_iff.mp e
  obtain ⟨ys, e3, e4⟩ := Option.bind_eq_some_iff.mp e2
  cases e4
  exact tM_of S e1 fun v H1 Z1 f g1 s1 o1 r1 S1 => q (fun q m => nomatch m) v H1 Z1 f g1 s1 o1 (seqv_of r1 e3) trivial S1
theorem takeV_ok {i : Nat} {x : Str} {pos : Pos} (hN : X.N[i]? = some x) (hv : visB X.env.scope x = true) (hn : nameB x = true) (hf : freeB Γ i = true) (hi : i ∈ Tk) : SrcV X Γ Tk (evI C (.take i)) (.Name x pos) := by
  refine ⟨_, visName hN hv hn, mono_var, fun σ H R Z g ρ xs ρ1 rf S e q => ?_⟩
  simp only [evI] at e
  split at e
  · rename_i o zs hg
    obtain ⟨pl, e⟩ := ite_some e
    cases e
    obtain ⟨v, f, g', t1, t2, t3, t4⟩ := S.sta.env.take hg
    have ok1 := S.sta.ok.perm t4
    refine ⟨v, t1, q (fun q m => by simp at m; subst m; exact hi) v H Z f g' (Sp0.perm Sp0.refl t4) ok1 (seqv_of t2 (by simp [itemsOf, pl])) ⟨v, f, [], by simp, t1, t2, trivial⟩ ⟨⟨t3, ok1.right, S.sta.al⟩, fun j i' k m => ?_⟩⟩
    obtain ⟨dc, q1, q2⟩ := S.alv j i' k m
    exact ⟨dc, by rw [get_put_ne (freeB_ne hf m)]; exact q1, q2⟩
  · cases e
theorem enumD_len : ∀ {xs : List D} {k : Nat}, (enumD k xs).length = xs.length
  | [], _ => rfl
  | x :: r, k => by simp [enumD, enumD_len (xs := r)]
theorem enumD_get : ∀ {xs : List D} {k i : Nat} {d : D}, (enumD k xs)[i]? = some d → ∃ x, xs[i]? = some x ∧ d = .tup [.int ((k + i : Nat) : Int), x]
  | [], _, _, _, h => by simp [enumD] at h
  | x :: r, k, 0, d, h => by simp [enumD] at h; exact ⟨x, rfl, by rw [← h]; rfl⟩
  | x :: r, k, i + 1, d, h => by
    obtain ⟨y, h1, h2⟩ := enumD_get (xs := r) (k := k + 1) (i := i) (by simpa [enumD] using h)
    exact ⟨y, by simpa using h1, by rw [h2]; congr 4; omega⟩
theorem Agr.id {Z : Addr → Prop} {H : Hp} {f : List Addr} : Agr Z H f Z H := ⟨fun _ z => z, fun _ _ _ => rfl, fun _ _ _ => rfl, fun _ _ => rfl⟩
theorem srcw_enum {K : PySem.W.Frag} {Z1 : Addr → Prop} {H1 : Hp} {gs : List Addr} {xs : List D} {v : V} {k : SK} {vs : List V} (hl : vs.length = xs.length)
    (q : ∀ (Z : Addr → Prop) (H : Hp), Agr Z1 H1 gs Z H → (∀ b, Z b → H b ≠ none) → SqK K k H v vs ∧ ∀ (i : Nat) (d : D) (x : V), xs[i]? = some d → vs[i]? = some x → Rel K Z H d x []) : SrcW K Z1 H1 gs (enumD 0 xs) (IteK K k v vs) := by
  refine ⟨fun H => SqK K k H v vs, fun i H y H' => ∃ T x, y = .ref T ∧ H T = none ∧ H' = upd H T (.tup [.int (i : Nat), x]) ∧ vs[i]? = some x, ?_, fun Z H ag zh => ⟨(q Z H ag zh).1, fun i x H' d e y => ?_⟩⟩
  · rw [enumD_len, ← hl]
    exact ⟨fun i H hi h => ⟨h, hi⟩, fun H h => ⟨h, rfl⟩, fun i H x H' _ _ y => y⟩
  · obtain ⟨T, w, rfl, hn, rfl, hw⟩ := y
    obtain ⟨xd, h1, rfl⟩ := enumD_get e
    have r := (q Z H ag zh).2 i xd w h1 hw
    have F : Fsh Z H Z (upd H T (.tup [.int (i : Nat), w])) [] := Fsh.one zh hn (.inl rfl)
    refine ⟨Z, F, T, [.int (i : Nat), w], rfl, SqT.of upd_same, .int i, [w], [], [], rfl, rfl, ⟨by simp, rfl⟩, w, [], [], [], rfl, rfl, Rel.agr _ _ _ r (F.agr fun b m => nomatch m), rfl, rfl⟩
theorem enum_ok {m : MI} {e : Expr} {elts : List Expr} {kk : Nat} {p pos tpos : Pos} (hg : Gl X "enumerate") (hm : X.mg "enumerate" = none) (h : SrcV X Γ Tk (evI C m) e) (hn : nstar e = true) : Src X Γ Tk (evI C (.enum m)) (.Tuple elts kk tpos) (.Call (.Name "enumerate" p) [e] [] pos) := by
  obtain ⟨te, pe, mo, rd⟩ := h.ex
  refine ⟨_, pi_enumK hg hm (pa_cons pe pa_nil (star_of hn [] _)) (star_of hn [] _), fun σ H R Z g ρ xs ρ1 rf S e q => ?_⟩
  simp only [evI] at e
  obtain ⟨⟨ys, ρ2, rf2⟩, e1, e2⟩ := Option.bind_eq_some_iff.mp e
  cases e2
  refine rd σ H _ Z g ρ ys ρ1 rf S e1 fun hrf v H1 Z1 gs g1 s1 o1 sv rr S1 => ?_
  obtain ⟨k, vs, hl, sq⟩ := sv
  exact ⟨v, k, vs, rfl, (sq Z1 H1 Agr.id o1.zh).1, q hrf _ H1 Z1 gs g1 s1 o1 (srcw_enum hl sq) rr S1⟩
theorem zipD_len : ∀ {xs ys : List D}, (zipD xs ys).length = min xs.length ys.length
  | [], _ => by simp [zipD]
  | x :: r, [] => by simp [zipD]
  | x :: r, y :: s => by simp [zipD, zipD_len (xs := r) (ys := s)]
theorem zipD_get : ∀ {xs ys : List D} {i : Nat} {d : D}, (zipD xs ys)[i]? = some d → ∃ x y, xs[i]? = some x ∧ ys[i]? = some y ∧ d = .tup [x, y]
  | [], _, _, _, h => by simp [zipD] at h
  | x :: r, [], _, _, h => by simp [zipD] at h
  | x :: r, y :: s, 0, d, h => by simp [zipD] at h; exact ⟨x, y, rfl, rfl, h.symm⟩
  | x :: r, y :: s, i + 1, d, h => by
    obtain ⟨x', y', h1, h2, h3⟩ := zipD_get (xs := r) (ys := s) (i := i) (by simpa [zipD] using h)
    exact ⟨x', y', by simpa using h1, by simpa using h2, h3⟩
theorem zip_ok {m1 m2 : MI} {e e2 : Expr} {elts : List Expr} {kk : Nat} {p pos tpos : Pos} (hg : Gl X "zip") (hm : X.mg "zip" = none) (h : SrcV X Γ Tk (evI C m1) e) (hn : nstar e = true) (h2 : SrcV X Γ Tk (evI C m2) e2) (hn2 : nstar e2 = true) :
    Src X Γ Tk (evI C (.zip m1 m2)) (.Tuple elts kk tpos) (.Call (.Name "zip" p) [e, e2] [] pos) := by
  obtain ⟨te, pe, mo, rd⟩ := h.ex
  obtain ⟨te2, pe2, mo2, rd2⟩ := h2.ex
  refine ⟨_, pi_zipK hg hm (pa_cons pe (pa_cons pe2 pa_nil (star_of hn2 [] _)) (star_of hn [e2] _)) (star_of hn [e2] _) (star_any _ _ _ (by simp [hn2])), fun σ H R Z g ρ xs ρ1 rf S e q => ?_⟩
  simp only [evI] at e
  obtain ⟨⟨ys, ρ2, rf2⟩, e1, e⟩ := Option.bind_eq_some_iff.mp e
  obtain ⟨⟨zs, ρ3, rf3⟩, e3, e4⟩ := Option.bind_eq_some_iff.mp e
  cases e4
  refine rd σ H _ Z g ρ ys ρ2 rf2 S e1 fun hrf v H1 Z1 gs g1 s1 o1 sv rr S1 => ?_
  refine rd2 σ H1 _ Z1 g1 ρ2 zs _ rf3 S1 e3 fun hrf2 v2 H2 Z2 gs2 g2 s2 o2 sv2 rr2 S2 => ?_
  obtain ⟨s3, o3⟩ := s2.part o1 o2
  have a2 := s2.agr o1
  rw [← List.append_assoc] at s3 o3
  obtain ⟨k, vs, hl, sq⟩ := sv.agr (gs2 := gs ++ gs2) a2 fun b m => List.mem_append.mpr (.inl m)
  obtain ⟨k2, vs2, hl2, sq2⟩ := sv2.agr (gs2 := gs ++ gs2) Agr.id fun b m => List.mem_append.mpr (.inr m)
  refine ⟨v, v2, k, k2, vs, vs2, rfl, (sq Z2 H2 Agr.id o3.zh).1, (sq2 Z2 H2 Agr.id o3.zh).1, q (fun q m => (List.mem_append.mp m).elim (hrf q) (hrf2 q)) _ H2 Z2 (gs ++ gs2) g2 (s1.trans s3) o3 ?_ ((rr.agr a2 fun _ _ => rfl).app rr2) S2⟩
  refine ⟨fun H => SqK X.K k H v vs ∧ SqK X.K k2 H v2 vs2, fun i H y H' => ∃ T x x2, y = .ref T ∧ H T = none ∧ H' = upd H T (.tup [x, x2]) ∧ vs[i]? = some x ∧ vs2[i]? = some x2, ?_, fun Z H ag zh => ⟨⟨(sq Z H ag zh).1, (sq2 Z H ag zh).1⟩, fun i x H' d e y => ?_⟩⟩
  · rw [zipD_len, ← hl, ← hl2]
    exact ⟨fun i H hi h => ⟨h.1, h.2, by omega, by omega⟩, fun H h => ⟨h.1, h.2, by omega, by omega, by omega⟩, fun i H x H' _ _ y => y⟩
  · obtain ⟨T, w, w2, rfl, hn, rfl, hw, hw2⟩ := y
    obtain ⟨xd, xd2, h1, h2, rfl⟩ := zipD_get e
    have r := (sq Z H ag zh).2 i xd w h1 hw
    have r2 := (sq2 Z H ag zh).2 i xd2 w2 h2 hw2
    have F : Fsh Z H Z (upd H T (.tup [w, w2])) [] := Fsh.one zh hn (.inl rfl)
    have A : Agr Z H [] Z (upd H T (.tup [w, w2])) := F.agr fun b m => nomatch m
    exact ⟨Z, F, T, [w, w2], rfl, SqT.of upd_same, w, [w2], [], [], rfl, rfl, Rel.agr _ _ _ r A, w2, [], [], [], rfl, rfl, Rel.agr _ _ _ r2 A, rfl, rfl⟩
end
end GN
end

section
set_option linter.all false
set_option maxRecDepth 100000
set_option maxHeartbeats 4000000
namespace GN
open PySem PySem.Spec PyProof.Rows L2
/-! zip of three -/
def ItzK3 (K : PySem.W.Frag) (k1 k2 k3 : SK) (v1 v2 v3 : V) (xs ys zs : List V) : It :=
  ⟨fun i H => (SqK K k1 H v1 xs ∧ SqK K k2 H v2 ys ∧ SqK K k3 H v3 zs) ∧ i < xs.length ∧ i < ys.length ∧ i < zs.length,
    fun i H v H' => ∃ T x y u, v = .ref T ∧ H T = none ∧ H' = upd H T (.tup [x, y, u]) ∧ xs[i]? = some x ∧ ys[i]? = some y ∧ zs[i]? = some u,
    fun i H => (SqK K k1 H v1 xs ∧ SqK K k2 H v2 ys ∧ SqK K k3 H v3 zs) ∧ i ≤ xs.length ∧ i ≤ ys.length ∧ i ≤ zs.length ∧ (i = xs.length ∨ i = ys.length ∨ i = zs.length)⟩
theorem turn_zipK3 {P : Program} {w : World} {K : PySem.W.Frag} {elts : List Expr} {kk : Nat} {tpos : Pos} {k1 k2 k3 : SK} {v1 v2 v3 : V} {u1 u2 u3 : Value} {xs ys zs : List V} {z TI TO i1 i2 i3 : Addr} (r1 : RelV v1 u1) (r2 : RelV v2 u2) (r3 : RelV v3 u3) (n1 : i1 ∉ adrs u1) (n2 : i2 ∉ adrs u2) (n3 : i3 ∉ adrs u3)
    (D : ZipSep3 z TI TO i1 i2 i3 (i1 :: adrs u1) (i2 :: adrs u2) (i3 :: adrs u3)) :
    Turn P w K (.Tuple elts kk tpos) (ItzK3 K k1 k2 k3 v1 v2 v3 xs ys zs) [z, TI, TO, i1, i2, i3] z (fun i h => IsZip h z TI TO .none ∧ IsTupOf3 h TI (.ref i1) (.ref i2) (.ref i3) ∧ (∃ x y u, IsTupOf3 h TO x y u) ∧ IterK k1 u1 i1 i h ∧ IterK k2 u2 i2 i h ∧ IterK k3 u3 i3 i h) where
  mem := by simp
  obj := fun i h st c hc => by
    obtain ⟨hz, hTI, ⟨x, y, u, hTO⟩, h1, h2, h3⟩ := st
    have e' : c = z ∨ c = TI ∨ c = TO ∨ c = i1 ∨ c = i2 ∨ c = i3 := by simpa using hc
    rcases e' with q | q | q | q | q | q
    · rw [q]; exact ⟨_, hz, fun v q => nomatch q⟩
    · rw [q]; exact ⟨_, hTI, fun v q => nomatch q⟩
    · rw [q]; exact ⟨_, hTO, fun v q => nomatch q⟩
    · rw [q]; exact h1.obj
    · rw [q]; exact h2.obj
    · rw [q]; exact h3.obj
  keep := fun i h h' st k => by
    obtain ⟨hz, hTI, ⟨x, y, u, hTO⟩, h1, h2, h3⟩ := st
    exact ⟨k z (by simp) _ hz, k TI (by simp) _ hTI, ⟨x, y, u, k TO (by simp) _ hTO⟩, h1.at fun o q => k i1 (by simp) o q, h2.at fun o q => k i2 (by simp) o q, h3.at fun o q => k i3 (by simp) o q⟩
  item := by
    intro X hP hw hK hc i pins s σ H E I hf st hg
    subst hP hw hK
    obtain ⟨hz, hTI, ⟨x0, y0, z0, hTO⟩, h1, h2, h3⟩ := st
    obtain ⟨⟨hqx, hqy, hqz⟩, hx, hy, hu⟩ := hg
    obtain ⟨St1, D1, d1, e1⟩ := draws_K (prog := X.prog) (w := X.w) (A := X.A.in1) (I.ok.hd hc) (SrcK.of I hqx r1) i1 n1
    obtain ⟨St2, D2, d2, e2⟩ := draws_K (prog := X.prog) (w := X.w) (A := X.A.in1) (I.ok.hd hc) (SrcK.of I hqy r2) i2 n2
    obtain ⟨St3, D3, d3, e3⟩ := draws_K (prog := X.prog) (w := X.w) (A := X.A.in1) (I.ok.hd hc) (SrcK.of I hqz r3) i3 n3
    have hzl : z < s.heap.objs.size := Heap.lt_size hz
    refine wpAny_pyNext_zipD3_item D D1 D2 D3 hz hTI hTO (d1 i h1) (d2 i h2) (d3 i h3) hx hy hu fun x1 x2 x3 h' tk p1 p2 p3 z' TO' h1' h2' h3' hT hsz hk => ?_
    obtain ⟨xv, hxv, rx⟩ := p1
    obtain ⟨yv, hyv, ry⟩ := p2
    obtain ⟨zv, hzv, rz⟩ := p3
    refine ⟨_, rfl, wpAny_letOwnedTupleGo_zip (s := { s with heap := h', toks := tk }) z' fun h'' z'' sb => ?_⟩
    have hT2 : h''.get? s.heap.objs.size = some { cls := .type "tuple", data := .seq #[x1, x2, x3] } := (sb.2 _ (Nat.ne_of_gt hzl)).trans hT
    have new : ObjOk X.prog X.w (upd H s.heap.objs.size (.tup [xv, yv, zv])) h'' s.heap.objs.size (.tup [xv, yv, zv]) :=
      ⟨by show 3 ≤ sizeLine; decide, [x1, x2, x3], .cons rx (.cons ry (.cons rz .nil)), ⟨_, hT2, rfl, _, rfl⟩⟩
    have I1 : Inv X pins σ (upd H s.heap.objs.size (.tup [xv, yv, zv])) { s with heap := h'', toks := tk } :=
      I.turnedNew (t' := tk) (ch := [z, TI, TO, i1, i2, i3]) (fun c o hb q => (sb.2 c (fun q' => hb (by simp [q']))).trans (hk c o (fun q' => hb (by simp [q'])) (fun q' => hb (by simp [q'])) (fun q' => hb (by simp [q'])) (fun q' => hb (by simp [q'])) (fun q' => hb (by simp [q'])) q)) hf (Nat.le_refl _) new
    refine ⟨.ref s.heap.objs.size, _, I1, rfl, ⟨_, xv, yv, zv, rfl, I.hok.fresh (Nat.le_refl _), rfl, hxv, hyv, hzv⟩, ⟨z'', ?_, ⟨x1, x2, x3, ?_⟩, ?_, ?_, ?_⟩, fun c hcm => ?_⟩
    · exact (sb.2 _ D.TIz).trans (hk _ _ D.TIz D.TITO D.TIi1 D.TIi2 D.TIi3 hTI)
    · exact (sb.2 _ D.TOz).trans TO'
    · exact (e1 _ _ h1').at fun o q => (sb.2 _ fun e => D.zf1 (by simp [e])).trans q
    · exact (e2 _ _ h2').at fun o q => (sb.2 _ fun e => D.zf2 (by simp [e])).trans q
    · exact (e3 _ _ h3').at fun o q => (sb.2 _ fun e => D.zf3 (by simp [e])).trans q
    · have hlt : c < s.heap.objs.size := by
        have e' : c = z ∨ c = TI ∨ c = TO ∨ c = i1 ∨ c = i2 ∨ c = i3 := by simpa using hcm
        rcases e' with q | q | q | q | q | q
        · rw [q]; exact hzl
        · rw [q]; exact Heap.lt_size hTI
        · rw [q]; exact Heap.lt_size hTO
        · rw [q]; obtain ⟨_, e1, _⟩ := h1.obj; exact Heap.lt_size e1
        · rw [q]; obtain ⟨_, e2, _⟩ := h2.obj; exact Heap.lt_size e2
        · rw [q]; obtain ⟨_, e3, _⟩ := h3.obj; exact Heap.lt_size e3
      rw [upd_ne (Nat.ne_of_lt hlt)]
      exact (hf c hcm).1
  done := by
    intro X hP hw hK hc i pins s σ H E I hf st hg
    subst hP hw hK
    obtain ⟨hz, hTI, ⟨x0, y0, z0, hTO⟩, h1, h2, h3⟩ := st
    obtain ⟨⟨hqx, hqy, hqz⟩, l1, l2, l3, hend⟩ := hg
    obtain ⟨St1, D1, d1, e1⟩ := draws_K (prog := X.prog) (w := X.w) (A := X.A.in1) (I.ok.hd hc) (SrcK.of I hqx r1) i1 n1
    obtain ⟨St2, D2, d2, e2⟩ := draws_K (prog := X.prog) (w := X.w) (A := X.A.in1) (I.ok.hd hc) (SrcK.of I hqy r2) i2 n2
    obtain ⟨St3, D3, d3, e3⟩ := draws_K (prog := X.prog) (w := X.w) (A := X.A.in1) (I.ok.hd hc) (SrcK.of I hqz r3) i3 n3
    exact wpAny_pyNext_zipD3_end D D1 D2 D3 hz hTI hTO (d1 i h1) (d2 i h2) (d3 i h3) l1 l2 l3 hend fun h' tk hk => ⟨rfl, I.turnedL (t' := tk) (ch := [z, TI, TO, i1, i2, i3]) (fun c o hb q =>
      hk c o (fun q' => hb (by simp [q'])) (fun q' => hb (by simp [q'])) (fun q' => hb (by simp [q'])) (fun q' => hb (by simp [q'])) (fun q' => hb (by simp [q'])) q) hf⟩
  self := fun A i s Q E st h => wpAny_pyIter_zip st.1 h
def iZipK3 (K : PySem.W.Frag) (ta : TA) : TI := fun σ H R => ta σ H fun vs H1 => ∃ v1 v2 v3 k1 k2 k3 xs ys zs, vs = [v1, v2, v3] ∧ SqK K k1 H1 v1 xs ∧ SqK K k2 H1 v2 ys ∧ SqK K k3 H1 v3 zs ∧ R (ItzK3 K k1 k2 k3 v1 v2 v3 xs ys zs) H1
set_option maxHeartbeats 400000 in
theorem pi_zipK3 {X : Cx} {e e2 e3 : Expr} {ta : TA} {p pos tpos : Pos} {elts : List Expr} {kk : Nat} (hg : Gl X "zip") (hm : X.mg "zip" = none) (ha : PA X [e, e2, e3] ta)
    (hs : starEach [e, e2, e3] X.env = (false, eval e X.env) :: starEach [e2, e3] X.env := by rfl) (hpl : (backTo pos (starEach [e2, e3] X.env)).any (·.1) = false := by rfl) :
    PI X (.Tuple elts kk tpos) (.Call (.Name "zip" p) [e, e2, e3] [] pos) (iZipK3 X.K ta) := by
  refine ⟨fun pins s σ H R I h => ?_⟩
  refine Call_ (ld_blt I hg hm PyProof.Rows.boot_zip (PyProof.Rows.callWith_type1 (thn (ha.run pos pins s σ H _ I h) fun us s1 ⟨vs, H1, I1, r1, q1⟩ => ?_) hs hpl))
  obtain ⟨v1, v2, v3, k1, k2, k3, xs, ys, zs, rfl, hqx, hqy, hqz, q⟩ := q1
  cases r1 with
  | cons r rr =>
    cases rr with
    | cons r' rr =>
     cases rr with
     | cons r'' rr =>
      cases rr
      have s1' := SrcK.of I1 hqx r
      have s2' := SrcK.of I1 hqy r'
      have s3' := SrcK.of I1 hqz r''
      obtain ⟨o1, Hc1, B1, b1, it1⟩ := begins_K s1'
      obtain ⟨o2, Hc2, B2, b2, it2⟩ := begins_K s2'
      obtain ⟨o3, Hc3, B3, b3, it3⟩ := begins_K s3'
      refine zip_begins3 B1 B2 B3 b1 b2 b3 fun h' hz hTI hTO h1 h2 h3 hsz hk => wpAny_pyIter_zip hz ?_
      have I2 : Inv X pins σ H1 { s1 with heap := h' } := I1.kept (t' := s1.toks) hk
      have n1 : s1.heap.objs.size ∉ adrs _ := notIn_adrs s1' 0
      have n2 : s1.heap.objs.size + 1 ∉ adrs _ := notIn_adrs s2' 1
      have n3 : s1.heap.objs.size + 2 ∉ adrs _ := notIn_adrs s3' 2
      exact ⟨s1.heap.objs.size + 5, [s1.heap.objs.size + 5, s1.heap.objs.size + 3, s1.heap.objs.size + 4, s1.heap.objs.size, s1.heap.objs.size + 1, s1.heap.objs.size + 2], _, _, H1, rfl, I2,
        turn_zipK3 r r' r'' n1 n2 n3 (zip_sep3 (adrs_lt s1') (adrs_lt s2') (adrs_lt s3')), ⟨hz, hTI, ⟨_, _, _, hTO⟩, it1 _ _ h1 n1, it2 _ _ h2 n2, it3 _ _ h3 n3⟩, fun c hcm => by
          have e' : c = s1.heap.objs.size + 5 ∨ c = s1.heap.objs.size + 3 ∨ c = s1.heap.objs.size + 4 ∨ c = s1.heap.objs.size ∨ c = s1.heap.objs.size + 1 ∨ c = s1.heap.objs.size + 2 := by simpa using hcm
          have hle : s1.heap.objs.size ≤ c := by
            rcases e' with z | z | z | z | z | z
            · rw [z]; exact Nat.le_add_right _ _
            · rw [z]; exact Nat.le_add_right _ _
            · rw [z]; exact Nat.le_add_right _ _
            · rw [z]; exact Nat.le_refl _
            · rw [z]; exact Nat.le_add_right _ _
            · rw [z]; exact Nat.le_add_right _ _
          exact I1.fpOk hle (I1.hok.fresh hle), q⟩
section
variable {X : Cx} {C : Cfg} {Γ : Al} {Tk : List Nat}
theorem zip3D_len : ∀ {xs ys zs : List D}, (zip3D xs ys zs).length = min xs.length (min ys.length zs.length)
  | [], _, _ => by simp [zip3D]
  | x :: r, [], _ => by simp [zip3D]
  | x :: r, y :: s, [] => by simp [zip3D]
  | x :: r, y :: s, z :: u => by simp only [zip3D, List.length_cons, zip3D_len (xs := r) (ys := s) (zs := u)]; omega
theorem zip3D_get : ∀ {xs ys zs : List D} {i : Nat} {d : D}, (zip3D xs ys zs)[i]? = some d → ∃ x y z, xs[i]? = some x ∧ ys[i]? = some y ∧ zs[i]? = some z ∧ d = .tup [x, y, z]
  | [], _, _, _, _, h => by simp [zip3D] at h
  | x :: r, [], _, _, _, h => by simp [zip3D] at h
  | x :: r, y :: s, [], _, _, h => by simp [zip3D] at h
  | x :: r, y :: s, z :: u, 0, d, h => by simp [zip3D] at h; exact ⟨x, y, z, rfl, rfl, rfl, h.symm⟩
  | x :: r, y :: s, z :: u, i + 1, d, h => by
    obtain ⟨x', y', z', h1, h2, h3, h4⟩ := zip3D_get (xs := r) (ys := s) (zs := u) (i := i) (by simpa [zip3D] using h)
    exact ⟨x', y', z', by simpa using h1, by simpa using h2, by simpa using h3, h4⟩
theorem zip3_ok {m1 m2 m3 : MI} {e e2 e3 : Expr} {elts : List Expr} {kk : Nat} {p pos tpos : Pos} (hg : Gl X "zip") (hm : X.mg "zip" = none) (h : SrcV X Γ Tk (evI C m1) e) (hn : nstar e = true) (h2 : SrcV X Γ Tk (evI C m2) e2) (hn2 : nstar e2 = true) (h3 : SrcV X Γ Tk (evI C m3) e3) (hn3 : nstar e3 = true) :
    Src X Γ Tk (evI C (.zip3 m1 m2 m3)) (.Tuple elts kk tpos) (.Call (.Name "zip" p) [e, e2, e3] [] pos) := by
  obtain ⟨te, pe, mo, rd⟩ := h.ex
  obtain ⟨te2, pe2, mo2, rd2⟩ := h2.ex
  obtain ⟨te3, pe3, mo3, rd3⟩ := h3.ex
  refine ⟨_, pi_zipK3 hg hm (pa_cons pe (pa_cons pe2 (pa_cons pe3 pa_nil (star_of hn3 [] _)) (star_of hn2 [e3] _)) (star_of hn [e2, e3] _)) (star_of hn [e2, e3] _) (star_any _ _ _ (by simp [hn2, hn3])), fun σ H R Z g ρ xs ρ1 rf S e q => ?_⟩
  simp only [evI] at e
  obtain ⟨⟨ys, ρ2, rf2⟩, e1, e⟩ := Option.bind_eq_some_iff.mp e
  obtain ⟨⟨zs, ρ3, rf3⟩, e3, e⟩ := Option.bind_eq_some_iff.mp e
  obtain ⟨⟨us, ρ4, rf4⟩, e5, e4⟩ := Option.bind_eq_some_iff.mp e
  cases e4
  refine rd σ H _ Z g ρ ys ρ2 rf2 S e1 fun hrf v H1 Z1 gs g1 s1 o1 sv rr S1 => ?_
  refine rd2 σ H1 _ Z1 g1 ρ2 zs _ rf3 S1 e3 fun hrf2 v2 H2 Z2 gs2 g2 s2 o2 sv2 rr2 S2 => ?_
  refine rd3 σ H2 _ Z2 g2 ρ3 us _ rf4 S2 e5 fun hrf3 v3 H3 Z3 gs3 g3 s3 o3 sv3 rr3 S3 => ?_
  obtain ⟨s2', o2'⟩ := s2.part o1 o2
  have a2 := s2.agr o1
  rw [← List.append_assoc] at s2' o2'
  obtain ⟨s3', o3'⟩ := s3.part o2' o3
  have a3 := s3.agr o2'
  rw [← List.append_assoc] at s3' o3'
  have m1 : ∀ b ∈ gs, b ∈ gs ++ gs2 := fun b m => List.mem_append.mpr (.inl m)
  have m2 : ∀ b ∈ gs2, b ∈ gs ++ gs2 := fun b m => List.mem_append.mpr (.inr m)
  have m3 : ∀ b ∈ gs ++ gs2, b ∈ gs ++ gs2 ++ gs3 := fun b m => List.mem_append.mpr (.inl m)
  have m4 : ∀ b ∈ gs3, b ∈ gs ++ gs2 ++ gs3 := fun b m => List.mem_append.mpr (.inr m)
  obtain ⟨k, vs, hl, sq⟩ := (sv.agr (gs2 := gs ++ gs2) a2 m1).agr (gs2 := gs ++ gs2 ++ gs3) a3 m3
  obtain ⟨k2, vs2, hl2, sq2⟩ := (sv2.agr (gs2 := gs ++ gs2) Agr.id m2).agr (gs2 := gs ++ gs2 ++ gs3) a3 m3
  obtain ⟨k3, vs3, hl3, sq3⟩ := sv3.agr (gs2 := gs ++ gs2 ++ gs3) Agr.id m4
  refine ⟨v, v2, v3, k, k2, k3, vs, vs2, vs3, rfl, (sq Z3 H3 Agr.id o3'.zh).1, (sq2 Z3 H3 Agr.id o3'.zh).1, (sq3 Z3 H3 Agr.id o3'.zh).1,
    q (fun q m => (List.mem_append.mp m).elim (hrf q) fun m => (List.mem_append.mp m).elim (hrf2 q) (hrf3 q)) _ H3 Z3 (gs ++ gs2 ++ gs3) g3 (s1.trans (s2'.trans s3')) o3' ?_ ?_ S3⟩
  · refine ⟨fun H => SqK X.K k H v vs ∧ SqK X.K k2 H v2 vs2 ∧ SqK X.K k3 H v3 vs3, fun i H y H' => ∃ T x x2 x3, y = .ref T ∧ H T = none ∧ H' = upd H T (.tup [x, x2, x3]) ∧ vs[i]? = some x ∧ vs2[i]? = some x2 ∧ vs3[i]? = some x3, ?_, fun Z H ag zh => ⟨⟨(sq Z H ag zh).1, (sq2 Z H ag zh).1, (sq3 Z H ag zh).1⟩, fun i x H' d e y => ?_⟩⟩
    · rw [zip3D_len, ← hl, ← hl2, ← hl3]
      exact ⟨fun i H hi h => ⟨h, by omega, by omega, by omega⟩, fun H h => ⟨h, by omega, by omega, by omega, by omega⟩, fun i H x H' _ _ y => y⟩
    · obtain ⟨T, w, w2, w3, rfl, hn, rfl, hw, hw2, hw3⟩ := y
      obtain ⟨xd, xd2, xd3, h1, h2, h3, rfl⟩ := zip3D_get e
      have r := (sq Z H ag zh).2 i xd w h1 hw
      have r2 := (sq2 Z H ag zh).2 i xd2 w2 h2 hw2
      have r3 := (sq3 Z H ag zh).2 i xd3 w3 h3 hw3
      have F : Fsh Z H Z (upd H T (.tup [w, w2, w3])) [] := Fsh.one zh hn (.inl rfl)
      have A : Agr Z H [] Z (upd H T (.tup [w, w2, w3])) := F.agr fun b m => nomatch m
      exact ⟨Z, F, T, [w, w2, w3], rfl, SqT.of upd_same, w, [w2, w3], [], [], rfl, rfl, Rel.agr _ _ _ r A, w2, [w3], [], [], rfl, rfl, Rel.agr _ _ _ r2 A, w3, [], [], [], rfl, rfl, Rel.agr _ _ _ r3 A, rfl, rfl⟩
  · have ra := (((rr.agr a2 fun _ _ => rfl).app rr2).agr a3 fun _ _ => rfl).app rr3
    rwa [List.append_assoc] at ra
end
end GN
end

section
set_option linter.all false
set_option maxRecDepth 100000
set_option maxHeartbeats 400000
namespace GN
open PySem PySem.Spec PyProof.Rows L2 RT
section
variable {K : PySem.W.Frag} {Z Z1 : Addr → Prop} {H H1 : Hp}
theorem rev_get {α : Type} {xs : List α} {i : Nat} (h : i < xs.length) : xs.reverse[i]? = xs[xs.length - 1 - i]? := by
  rw [List.getElem?_reverse h]
theorem srcw_rlist {o : Ow} {xs : List D} {v : V} {f : List Addr} (r : Rel K Z1 H1 (.lst o xs) v f) (p : D.plainL xs = true) (zh : ∀ b, Z1 b → H1 b ≠ none) : ∃ a us, v = .ref a ∧ us.length = xs.length ∧ SqL K H1 a us ∧ SrcW K Z1 H1 f xs.reverse (Itv K a us.length) := by
  obtain ⟨a, vs, e, hl, h⟩ := lst_sql r
  have ag0 : Agr Z1 H1 f Z1 H1 := ⟨fun _ z => z, fun _ _ _ => rfl, fun _ _ _ => rfl, fun _ _ => rfl⟩
  refine ⟨a, vs, e, hl, (h Z1 H1 ag0).1, fun H => SqL K H a vs, fun i H x H' => H' = H ∧ vs[vs.length - 1 - i]? = some x, by rw [List.length_reverse, ← hl]; exact walk_rev, fun Z H ag zh => ⟨(h Z H ag).1, fun i x H' d e y => ?_⟩⟩
  obtain ⟨rfl, y⟩ := y
  obtain ⟨f', r'⟩ := (h Z H' ag).2
  have hi : i < xs.length := by have := (List.getElem?_eq_some_iff.mp e).1; simpa using this
  rw [rev_get hi] at e
  rw [hl] at y
  exact item_ok zh r' p e y
theorem walk_revT {K : PySem.W.Frag} {a : Addr} {xs : List V} : Walk (ItvT K a xs.length) xs.length (fun H => SqT K H a xs) (fun i H x H' => H' = H ∧ xs[xs.length - 1 - i]? = some x) :=
  ⟨fun i H hi h => ⟨hi, xs, xs[xs.length - 1 - i]'(by omega), h, by simp⟩, fun H h => Nat.le_refl _, fun i H x H' hi h y => ⟨y.1, y.2 xs h⟩⟩
theorem srcw_rtup {xs : List D} {v : V} {f : List Addr} (r : Rel K Z1 H1 (.tup xs) v f) (p : D.plainL xs = true) (zh : ∀ b, Z1 b → H1 b ≠ none) : ∃ a us, v = .ref a ∧ us.length = xs.length ∧ SqT K H1 a us ∧ SrcW K Z1 H1 f xs.reverse (ItvT K a us.length) := by
  obtain ⟨a, vs, e, s, r⟩ := r
  refine ⟨a, vs, e, r.len, s, fun H => SqT K H a vs, fun i H x H' => H' = H ∧ vs[vs.length - 1 - i]? = some x, by rw [List.length_reverse, ← r.len]; exact walk_revT, fun Z H ag zh => ⟨ag.sqT s, fun i x H' d e y => ?_⟩⟩
  obtain ⟨rfl, y⟩ := y
  have hi : i < xs.length := by have := (List.getElem?_eq_some_iff.mp e).1; simpa using this
  rw [rev_get hi] at e
  rw [r.len] at y
  exact item_ok zh (RelL.agr _ _ _ r ag) p e y
theorem srcw_rrange {gs : List Addr} {b : Int} : SrcW K Z1 H1 gs (rangeD 0 b.toNat).reverse (Itc (0 + (((b - 0).toNat : Nat) : Int) - 1) (-1) (b - 0).toNat) := by
  refine ⟨fun _ => True, YFn fun i => .int (0 + (((b - 0).toNat : Nat) : Int) - 1 + (i : Nat) * (-1)), by rw [List.length_reverse, rangeD_len, show b - 0 = b by omega]; exact walk_rangeC, fun Z H ag zh => ⟨trivial, fun i x H' d e y => ?_⟩⟩
  obtain ⟨rfl, y⟩ := y
  have hi : i < (rangeD 0 b.toNat).length := by have := (List.getElem?_eq_some_iff.mp e).1; simpa using this
  rw [rev_get hi] at e
  rw [rangeD_get e]
  rw [rangeD_len] at hi ⊢
  refine ⟨Z, Fsh.refl zh, ?_, rfl⟩
  have e9 : (0 : Int) + (((b - 0).toNat : Nat) : Int) - 1 + (i : Nat) * (-1) = 0 + ((b.toNat - 1 - i : Nat) : Int) := by
    have : (b - 0).toNat = b.toNat := by omega
    rw [this]; omega
  rw [y]; show V.int _ = _; rw [e9]
end
section
variable {X : Cx} {C : Cfg} {Γ : Al} {Tk : List Nat}
theorem rev_ok {a : ME} {tg e : Expr} {p pos : Pos} (hg : Gl X "reversed") (hm : X.mg "reversed" = none) (h : Exp X Γ (ev C a) e) (hn : nstar e = true) : Src X Γ Tk (evI C (.rev a)) tg (.Call (.Name "reversed" p) [e] [] pos) := by
  refine ⟨_, pi_revA hg hm h.1 (star_of hn [] _), fun σ H R Z g ρ xs ρ1 rf S e q => ?_⟩
  simp only [evI] at e
  obtain ⟨⟨d, ρ2⟩, e1, e2⟩ := Option.bind_eq_some_iff.mp e
  obtain ⟨ys, e3, e4⟩ := Option.bind_eq_some_iff.mp e2
  cases e4
  have q := q (fun q m => nomatch m)
  refine tM_of S e1 fun v H1 Z1 f g1 s1 o1 r1 S1 => ?_
  cases d with
  | lst o zs =>
    simp only [seqOf] at e3
    obtain ⟨pl, e3⟩ := ite_some e3
    cases e3
    obtain ⟨a, us, ea, hl, es, sw⟩ := srcw_rlist r1 pl o1.zh
    exact ⟨a, us, ea, .inl ⟨es, q _ H1 Z1 f g1 s1 o1 sw trivial S1⟩⟩
  | tup zs =>
    simp only [seqOf] at e3
    obtain ⟨pl, e3⟩ := ite_some e3
    cases e3
    obtain ⟨a, us, ea, hl, es, sw⟩ := srcw_rtup r1 pl o1.zh
    exact ⟨a, us, ea, .inr ⟨es, q _ H1 Z1 f g1 s1 o1 sw trivial S1⟩⟩
  | _ => simp [seqOf] at e3
theorem revT_ok {i : Nat} {x : Str} {pos p pos2 : Pos} {tg : Expr} (hg : Gl X "reversed") (hm : X.mg "reversed" = none) (hN : X.N[i]? = some x) (hv : visB X.env.scope x = true) (hn : nameB x = true) (hf : freeB Γ i = true) (hi : i ∈ Tk) : Src X Γ Tk (evI C (.revT i)) tg (.Call (.Name "reversed" p) [.Name x pos] [] pos2) := by
  refine ⟨_, pi_revA hg hm (visName hN hv hn) rfl, fun σ H R Z g ρ xs ρ1 rf S e q => ?_⟩
  simp only [evI] at e
  split at e
  · rename_i o zs hg
    obtain ⟨pl, e⟩ := ite_some e
    cases e
    obtain ⟨v, f, g', t1, t2, t3, t4⟩ := S.sta.env.take hg
    have ok1 := S.sta.ok.perm t4
    obtain ⟨a, us, ea, hl, es, sw⟩ := srcw_rlist t2 pl ok1.zh
    refine ⟨v, t1, a, us, ea, .inl ⟨es, q (fun q m => by simp at m; subst m; exact hi) _ H Z f g' (Sp0.refl.perm t4) ok1 sw ⟨v, f, [], by simp, t1, t2, trivial⟩ ⟨⟨t3, ok1.right, S.sta.al⟩, fun j i' k m => ?_⟩⟩⟩
    obtain ⟨dc, q1, q2⟩ := S.alv j i' k m
    exact ⟨dc, by rw [get_put_ne (freeB_ne hf m)]; exact q1, q2⟩
  · cases e
theorem revR_ok {a : ME} {e tg : Expr} {p pos p2 pos2 : Pos} (hg : Gl X "reversed") (hm : X.mg "reversed" = none) (hg2 : Gl X "range") (hm2 : X.mg "range" = none) (h : Exp X Γ (ev C a) e) (hn : nstar e = true) :
    Src X Γ Tk (evI C (.revR a)) tg (.Call (.Name "reversed" p) [.Call (.Name "range" p2) [e] [] pos2] [] pos) := by
  refine ⟨_, pi_revR hg hm (prg_1 hg2 hm2 h.1 (star_of hn [] _)) rfl, fun σ H R Z g ρ xs ρ1 rf S e q => ?_⟩
  simp only [evI] at e
  obtain ⟨⟨d, ρ2⟩, e1, e2⟩ := Option.bind_eq_some_iff.mp e
  obtain ⟨ys, e3, e4⟩ := Option.bind_eq_some_iff.mp e2
  cases e4
  have q := q (fun q m => nomatch m)
  refine tM_of S e1 fun v H1 Z1 f g1 s1 o1 r1 S1 => ?_
  cases d with
  | int b =>
    simp only [rngOf] at e3
    obtain ⟨hb, e3⟩ := ite_some e3
    cases e3
    obtain ⟨rfl, rfl⟩ := r1
    refine ⟨b, rfl, by decide, by decide, by omega, by omega, q _ H1 Z1 [] g1 s1 o1 srcw_rrange trivial S1⟩
  | _ => simp [rngOf] at e3
end
end GN
end

section
set_option linter.all false
set_option maxRecDepth 100000
set_option maxHeartbeats 4000000
namespace GN
open PySem PySem.Spec PyProof.Rows L2
theorem meets_enumerate_newS {v : Value} {H : Heap → Prop} (B : ∀ (prog : Program) (w : World) (A : Around) (E : Value → Shared → Prop) (s : Shared) (Q : Value → Shared → Prop), H s.heap → Q v s → wpAny (model prog w) A (pyIter v) Q E s) :
    Meets (Builtin.«enumerate.__new__» ⟨[.type "enumerate", v], []⟩) (fun _ R s => H s.heap ∧
      R (.ok (.ret (.ref s.heap.objs.size))) { s with heap := s.heap.push { cls := .type "enumerate", data := .fields #[.none, .bool false, v, rawInt 0, .none, .none] } }) :=
  .of_wp fun prog w A R s h => by
    obtain ⟨hp, g, d, tk, os⟩ := s; obtain ⟨h1, h⟩ := h
    have hsub := sub_enumerate
    have q1 : ∀ {A' : Around} {E : Value → Shared → Prop} {Q : Value → Shared → Prop}, Q v ⟨hp, g, d, tk, os⟩ → wpAny (model prog w) A' (pyIter v) Q E ⟨hp, g, d, tk, os⟩ :=
      fun q => B prog w _ _ ⟨hp, g, d, tk, os⟩ _ h1 q
    wp_walk using q1
    refine wpAny_stack_any fun st => wpAny_pure ?_
    split
    · rename_i c _ _ _ _ _
      cases (c == Value.type "enumerate")
      · wp_walk using q1
        exact ⟨_, rfl, h⟩
      · wp_walk using q1
        exact ⟨_, rfl, h⟩
    · wp_walk using q1
      exact ⟨_, rfl, h⟩
theorem call_enumerateS {prog : Program} {w : World} {A : Around} {E : Value → Shared → Prop} {s : Shared} {z : Addr} {H : Heap → Prop} {Q : Value → Shared → Prop} (B : ∀ (prog : Program) (w : World) (A : Around) (E : Value → Shared → Prop) (s : Shared) (Q : Value → Shared → Prop), H s.heap → Q (.ref z) s → wpAny (model prog w) A (pyIter (.ref z)) Q E s) (h1 : H s.heap)
    (h : ∀ h', IsEnum h' s.heap.objs.size z 0 .none → h'.objs.size = s.heap.objs.size + 1 → (∀ b o, s.heap.get? b = some o → h'.get? b = some o) → Q (.ref s.heap.objs.size) { s with heap := h' }) :
    wpAny (model prog w) A (call (.type "enumerate") [.ref z]) Q E s := by
  refine callType_new F.called_enumerate (by decide) (F.typeCall_enumerate_1 _) (F.newCall_enumerate_1 _) (fun obj => F.args_object_init_2 obj _) F.entry_enumerate_new
    (meets_enumerate_newS B) ⟨h1, ?_⟩
  have he : IsEnum (s.heap.push { cls := .type "enumerate", data := .fields #[.none, .bool false, .ref z, rawInt 0, .none, .none] }) s.heap.objs.size z 0 .none := Heap.get?_push_size _ rfl
  exact ⟨⟨_, he, rfl⟩, h _ he (by rw [Heap.size_push]) fun b o x => Heap.get?_push_of_some _ x⟩
abbrev szT (h : Heap) (o1 : Obj) (z : Addr) : Heap := (h.push o1).push { cls := .type "tuple", data := .seq #[.ref h.objs.size, .ref z] }
abbrev szO (h : Heap) (o1 : Obj) (z : Addr) : Heap := (szT h o1 z).push { cls := .type "tuple", data := .seq #[.none, .none] }
abbrev szZ (h : Heap) (o1 : Obj) (z : Addr) : Heap := (szO h o1 z).push { cls := .type "zip", data := .fields #[.none, .bool false, .bool false, .ref (h.push o1).objs.size, .ref (szT h o1 z).objs.size] }
theorem meets_zip_newS {v1 : Value} {o1 : Obj} {z : Addr} {H1 H2 : Heap → Prop} (B1 : Begins v1 o1 H1) (K2 : ∀ h h', H2 h → (∀ b o', h.get? b = some o' → h'.get? b = some o') → H2 h') (B2 : ∀ (prog : Program) (w : World) (A : Around) (E : Value → Shared → Prop) (s : Shared) (Q : Value → Shared → Prop), H2 s.heap → Q (.ref z) s → wpAny (model prog w) A (pyIter (.ref z)) Q E s) :
    Meets (Builtin.«zip.__new__» ⟨[.type "zip", v1, .ref z], []⟩) (fun _ R s => (H1 s.heap ∧ H2 s.heap) ∧
      R (.ok (.ret (.ref (szO s.heap o1 z).objs.size))) { s with heap := szZ s.heap o1 z }) :=
  .of_wp fun prog w A R s h => by
    obtain ⟨hp, g, d, tk, os⟩ := s; obtain ⟨⟨h1, h2⟩, h⟩ := h
    have hsub := sub_zip
    have q1 : ∀ {A' : Around} {E : Value → Shared → Prop} {Q : Value → Shared → Prop}, Q (.ref hp.objs.size) ⟨(hp.push o1), g, d, tk, os⟩ → wpAny (model prog w) A' (pyIter v1) Q E ⟨hp, g, d, tk, os⟩ :=
      fun q => B1.iter prog w _ _ ⟨hp, g, d, tk, os⟩ _ (B1.keeps _ _ h1 fun b o' e => e) q
    have q2 : ∀ {A' : Around} {E : Value → Shared → Prop} {Q : Value → Shared → Prop}, Q (.ref z) ⟨(hp.push o1), g, d, tk, os⟩ → wpAny (model prog w) A' (pyIter (.ref z)) Q E ⟨(hp.push o1), g, d, tk, os⟩ :=
      fun q => B2 prog w _ _ ⟨(hp.push o1), g, d, tk, os⟩ _ (K2 _ _ h2 fun b o' e => (Heap.get?_push_of_some _ e)) q
    wp_walk using q1, q2
    exact ⟨_, rfl, h⟩
theorem zip_beginsS {prog : Program} {w : World} {A : Around} {E : Value → Shared → Prop} {s : Shared} {v1 : Value} {o1 : Obj} {z : Addr} {H1 H2 : Heap → Prop} {Q : Value → Shared → Prop} (B1 : Begins v1 o1 H1) (K2 : ∀ h h', H2 h → (∀ b o', h.get? b = some o' → h'.get? b = some o') → H2 h') (B2 : ∀ (prog : Program) (w : World) (A : Around) (E : Value → Shared → Prop) (s : Shared) (Q : Value → Shared → Prop), H2 s.heap → Q (.ref z) s → wpAny (model prog w) A (pyIter (.ref z)) Q E s) (h1 : H1 s.heap) (h2 : H2 s.heap)
    (h : ∀ h', IsZip h' (s.heap.objs.size + 3) (s.heap.objs.size + 1) (s.heap.objs.size + 2) .none → IsTupOf2 h' (s.heap.objs.size + 1) (.ref s.heap.objs.size) (.ref z) →
      IsTupOf2 h' (s.heap.objs.size + 2) .none .none → h'.get? s.heap.objs.size = some o1 → h'.objs.size = s.heap.objs.size + 4 →
      (∀ c o, s.heap.get? c = some o → h'.get? c = some o) → Q (.ref (s.heap.objs.size + 3)) { s with heap := h' }) :
    wpAny (model prog w) A (call (.type "zip") [v1, .ref z]) Q E s := by
  refine callType_new F.called_zip (by decide) (F.typeCall_zip_2 _ _) (F.newCall_zip_2 _ _) (fun obj => F.args_object_init_3 obj _ _) F.entry_zip_new
    (meets_zip_newS B1 K2 B2) ⟨⟨h1, h2⟩, ?_⟩
  have z1 : (s.heap.push o1).objs.size = s.heap.objs.size + 1 := by rw [Heap.size_push]
  have zT : (szT s.heap o1 z).objs.size = s.heap.objs.size + 2 := by rw [Heap.size_push, z1]
  have zO : (szO s.heap o1 z).objs.size = s.heap.objs.size + 3 := by rw [Heap.size_push, zT]
  have zZ : (szZ s.heap o1 z).objs.size = s.heap.objs.size + 4 := by rw [Heap.size_push, zO]
  have gZ : (szZ s.heap o1 z).get? (szO s.heap o1 z).objs.size = some { cls := .type "zip", data := .fields #[.none, .bool false, .bool false, .ref (s.heap.push o1).objs.size, .ref (szT s.heap o1 z).objs.size] } := Heap.get?_push_size _ rfl
  have gO : (szZ s.heap o1 z).get? (szT s.heap o1 z).objs.size = some { cls := .type "tuple", data := .seq #[.none, .none] } := Heap.get?_push_of_some _ (Heap.get?_push_size _ rfl)
  have gT : (szZ s.heap o1 z).get? (s.heap.push o1).objs.size = some { cls := .type "tuple", data := .seq #[.ref s.heap.objs.size, .ref z] } := Heap.get?_push_of_some _ (Heap.get?_push_of_some _ (Heap.get?_push_size _ rfl))
  have g1 : (szZ s.heap o1 z).get? s.heap.objs.size = some o1 := Heap.get?_push_of_some _ (Heap.get?_push_of_some _ (Heap.get?_push_of_some _ (Heap.get?_push_size _ B1.free)))
  rw [zO, zT, z1] at gZ
  rw [zT] at gO
  rw [z1] at gT
  show _ ∧ _
  rw [zO]
  exact ⟨⟨_, gZ, rfl⟩, h _ gZ gT gO g1 zZ fun c o e => Heap.get?_push_of_some _ (Heap.get?_push_of_some _ (Heap.get?_push_of_some _ (Heap.get?_push_of_some _ e)))⟩
/-- zip(a, b) as a value: where its cells lie -/
def Zq (X : Cx) (pins : List (Addr × Obj)) (σ : L2.St) (Q : Value → Shared → Prop) (v1 v2 : V) (H2 : Hp) : Prop := ∃ k1 k2 xs ys, SqK X.K k1 H2 v1 xs ∧ SqK X.K k2 H2 v2 ys ∧ ∀ (N : Addr) (u1 u2 : Value) (s' : Shared), Inv X pins σ H2 s' → RelV v1 u1 → RelV v2 u2 → N + 5 = s'.heap.objs.size → X.s_0.heap.objs.size ≤ N → i1nc N u1 → i1nc N u2 → (∀ b, N ≤ b → FpOk X pins H2 b) →
      IsZip s'.heap (N + 4) (N + 2) (N + 3) .none → IsTupOf2 s'.heap (N + 2) (.ref N) (.ref (N + 1)) → IsTupOf2 s'.heap (N + 3) .none .none → IterK k1 u1 N 0 s'.heap → IterK k2 u2 (N + 1) 0 s'.heap → Q (.ref (N + 4)) s'
where i1nc (N : Addr) (u : Value) : Prop := ∀ b ∈ adrs u, b < N
theorem zip_value {X : Cx} {e e2 : Expr} {t1 t2 : TE} {p pos : Pos} (hg : Gl X "zip") (hm : X.mg "zip" = none) (h1 : PE X e t1) (m1 : Mono t1) (h2 : PE X e2 t2) (m2 : Mono t2)
    (hs : starEach [e, e2] X.env = (false, eval e X.env) :: starEach [e2] X.env) (hs2 : starEach [e2] X.env = [(false, eval e2 X.env)]) (hpl : (backTo pos (starEach [e2] X.env)).any (·.1) = false) {pins : List (Addr × Obj)} {s : Shared} {σ : L2.St} {H : Hp} {Q : Value → Shared → Prop} (I : Inv X pins σ H s)
    (h : t1 σ H fun v1 H1 => t2 σ H1 fun v2 H2 => Zq X pins σ Q v1 v2 H2) :
    wpAny (model X.prog X.w) X.A (eval (.Call (.Name "zip" p) [e, e2] [] pos) X.env) Q X.xe s := by
  have ha : PA X [e, e2] (tCons t1 (tCons t2 tNil)) := pa_cons h1 (pa_cons h2 pa_nil (by rw [hs2]; rfl)) hs
  refine Call_ (ld_blt I hg hm PyProof.Rows.boot_zip (PyProof.Rows.callWith_type1 (thn (ha.run pos pins s σ H (fun vs H2 => ∃ v1 v2, vs = [v1, v2] ∧ Zq X pins σ Q v1 v2 H2) I ?_) fun us s1 ⟨vs, H1, I1, r1, q1⟩ => ?_) hs hpl))
  · exact m1 σ H _ _ (fun v1 H1 q => m2 σ H1 _ _ (fun v2 H2 q => ⟨v1, v2, rfl, q⟩) q) h
  · obtain ⟨v1, v2, rfl, k1, k2, xs, ys, hqx, hqy, q⟩ := q1
    cases r1 with
    | cons r rr =>
      cases rr with
      | cons r' rr =>
        cases rr
        have s1' := SrcK.of I1 hqx r
        have s2' := SrcK.of I1 hqy r'
        obtain ⟨o1, Hc1, B1, b1, it1⟩ := begins_K s1'
        obtain ⟨o2, Hc2, B2, b2, it2⟩ := begins_K s2'
        refine zip_begins2 B1 B2 b1 b2 fun h' hz hTI hTO h1 h2 hsz hk => ?_
        have I2 : Inv X pins σ H1 { s1 with heap := h' } := I1.kept (t' := s1.toks) hk
        have n1 : s1.heap.objs.size ∉ adrs _ := notIn_adrs s1' 0
        have n2 : s1.heap.objs.size + 1 ∉ adrs _ := notIn_adrs s2' 1
        exact q s1.heap.objs.size _ _ _ I2 r r' hsz.symm I1.sz (adrs_lt s1') (adrs_lt s2') (fun b hb => I1.fpOk hb (I1.hok.fresh hb)) hz hTI hTO (it1 _ _ h1 n1) (it2 _ _ h2 n2)
def iEnumZ (K : PySem.W.Frag) (t1 t2 : TE) : TI := fun σ H R => t1 σ H fun v1 H1 => t2 σ H1 fun v2 H2 => ∃ k1 k2 xs ys, SqK K k1 H2 v1 xs ∧ SqK K k2 H2 v2 ys ∧ R (ItEZ K k1 k2 v1 v2 xs ys) H2
theorem add_ne {N a b : Nat} (h : a ≠ b) : N + a ≠ N + b := fun q => h (Nat.add_left_cancel q)
theorem notIn_ge {u : Value} {N m : Addr} (h : ∀ b ∈ adrs u, b < N) (hm : N ≤ m) : m ∉ adrs u := fun q => absurd (h m q) (Nat.not_lt.mpr hm)
theorem pi_enumZ {X : Cx} {e e2 : Expr} {t1 t2 : TE} {p p2 pos pos2 tpos : Pos} {elts : List Expr} {kk : Nat} (hg : Gl X "zip") (hm : X.mg "zip" = none) (hg2 : Gl X "enumerate") (hm2 : X.mg "enumerate" = none) (h1 : PE X e t1) (m1 : Mono t1) (h2 : PE X e2 t2) (m2 : Mono t2)
    (hs : starEach [e, e2] X.env = (false, eval e X.env) :: starEach [e2] X.env) (hs2 : starEach [e2] X.env = [(false, eval e2 X.env)]) (hpl : (backTo pos (starEach [e2] X.env)).any (·.1) = false) :
    PI X (.Tuple elts kk tpos) (.Call (.Name "enumerate" p2) [.Call (.Name "zip" p) [e, e2] [] pos] [] pos2) (iEnumZ X.K t1 t2) := by
  refine ⟨fun pins s σ H R I h => ?_⟩
  refine Call_ (ld_blt I hg2 hm2 boot_enumerate (PyProof.Rows.callWith_type1 (Calls.spliced_cons (zip_value (pos := pos) hg hm h1 m1 h2 m2 hs hs2 hpl I ?_)) rfl rfl))
  refine m1 σ H _ _ (fun v1 H1 q => m2 σ H1 _ _ (fun v2 H2 q => ?_) q) h
  obtain ⟨k1, k2, xs, ys, q1, q2, q3⟩ := q
  refine ⟨k1, k2, xs, ys, q1, q2, fun N u1 u2 s' I' r1 r2 hN hlo a1 a2 fp hz hTI hTO i1 i2 => Calls.spliced_nil ?_⟩
  refine call_enumerateS (z := N + 4) (H := fun h => IsZip h (N + 4) (N + 2) (N + 3) .none) (fun prog w A E s Q hz q => wpAny_pyIter_zip hz q) hz fun h' he hsz hk => wpAny_pyIter_enum he ?_
  have I2 : Inv X pins σ H2 { s' with heap := h' } := I'.kept (t' := s'.toks) hk
  rw [← hN] at he hsz ⊢
  have a1' : ∀ b ∈ adrs u1, b < N := a1
  have a2' : ∀ b ∈ adrs u2, b < N := a2
  refine ⟨N + 5, [N + 5, N + 4, N + 2, N + 3, N, N + 1], _, _, H2, rfl, I2, turn_enumZ (xs := xs) (ys := ys) r1 r2 (notIn_ge a1' (Nat.le_refl _)) (notIn_ge a2' (Nat.le_succ _)) (zip_sep2 a1' a2') ?_, ⟨⟨_, he⟩, ⟨_, _, hk _ _ hz, .inl rfl⟩, hk _ _ hTI, ⟨_, _, hk _ _ hTO⟩, i1.at fun o q => hk _ o q, i2.at fun o q => hk _ o q⟩, fun b hb => fp b ?_, q3⟩
  · intro m
    simp only [List.mem_cons, List.mem_append] at m
    have z1 := notIn_ge a1' (show N ≤ N + 5 from Nat.le_add_right _ _)
    have z2 := notIn_ge a2' (show N ≤ N + 5 from Nat.le_add_right _ _)
    rcases m with m | m | m | (m | m) | (m | m)
    · exact absurd m (add_ne (N := N) (a := 5) (b := 4) (by decide))
    · exact absurd m (add_ne (N := N) (a := 5) (b := 2) (by decide))
    · exact absurd m (add_ne (N := N) (a := 5) (b := 3) (by decide))
    · exact absurd m (add_ne (N := N) (a := 5) (b := 0) (by decide))
    · exact z1 m
    · exact absurd m (add_ne (N := N) (a := 5) (b := 1) (by decide))
    · exact z2 m
  · have e' : b = N + 5 ∨ b = N + 4 ∨ b = N + 2 ∨ b = N + 3 ∨ b = N ∨ b = N + 1 := by simpa using hb
    rcases e' with z | z | z | z | z | z <;> rw [z] <;> first | exact Nat.le_add_right _ _ | exact Nat.le_refl _

def iZipZ (K : PySem.W.Frag) (t0 t1 t2 : TE) : TI := fun σ H R => t0 σ H fun v0 H0 => t1 σ H0 fun v1 H1 => t2 σ H1 fun v2 H2 => ∃ k0 k1 k2 ws xs ys, SqK K k0 H2 v0 ws ∧ SqK K k1 H2 v1 xs ∧ SqK K k2 H2 v2 ys ∧ R (ItZZ K k0 k1 k2 v0 v1 v2 ws xs ys) H2
theorem adrs_of {X : Cx} {pins : List (Addr × Obj)} {σ : L2.St} {H : Hp} {s : Shared} (I : Inv X pins σ H s) {k : SK} {v : V} {u : Value} {vs : List V} (h : SqK X.K k H v vs) (r : RelV v u) : ∀ b ∈ adrs u, b < s.heap.objs.size := adrs_lt (SrcK.of I h r)
theorem adrs_off {X : Cx} {pins : List (Addr × Obj)} {σ : L2.St} {H : Hp} {s : Shared} (I : Inv X pins σ H s) {k : SK} {v : V} {u : Value} {vs : List V} (h : SqK X.K k H v vs) (r : RelV v u) {m : Addr} (hm : X.s_0.heap.objs.size ≤ m) (hn : H m = none) : m ∉ adrs u := fun q => by
  have lo : ∀ {o : Obj}, X.K.lookup m = some o → False := fun e => Nat.lt_irrefl _ (Nat.lt_of_lt_of_le (Heap.lt_size (I.ok.mod.kin _ _ e)) (Nat.le_trans I.ok.bsz hm))
  have rd : ∀ {o : HO}, Rd H m o → False := fun h => by
    rcases h with h | ⟨_, h⟩ <;> (rw [hn] at h; cases h)
  cases k with
  | l =>
    obtain ⟨a, rfl, h⟩ := h
    cases r
    have e : m = a := by simpa [adrs] using q
    subst e
    rcases h with h | ⟨o, _, _, e, _⟩
    · exact rd h
    · exact lo e
  | t =>
    obtain ⟨a, rfl, h⟩ := h
    cases r
    have e : m = a := by simpa [adrs] using q
    subst e
    rcases h with h | ⟨o, _, _, e, _⟩
    · exact rd h
    · exact lo e
  | s =>
    obtain ⟨x, rfl, _⟩ := h
    obtain ⟨t, rfl⟩ := r
    cases q
theorem pi_zipZ {X : Cx} {e0 e e2 : Expr} {t0 t1 t2 : TE} {p p2 pos pos2 tpos : Pos} {elts : List Expr} {kk : Nat} (hg : Gl X "zip") (hm : X.mg "zip" = none) (h0 : PE X e0 t0) (m0 : Mono t0) (h1 : PE X e t1) (m1 : Mono t1) (h2 : PE X e2 t2) (m2 : Mono t2)
    (hs0 : starEach [e0, .Call (.Name "zip" p) [e, e2] [] pos] X.env = [(false, eval e0 X.env), (false, eval (.Call (.Name "zip" p) [e, e2] [] pos) X.env)]) (hs : starEach [e, e2] X.env = (false, eval e X.env) :: starEach [e2] X.env) (hs2 : starEach [e2] X.env = [(false, eval e2 X.env)]) (hpl : (backTo pos (starEach [e2] X.env)).any (·.1) = false) :
    PI X (.Tuple elts kk tpos) (.Call (.Name "zip" p2) [e0, .Call (.Name "zip" p) [e, e2] [] pos] [] pos2) (iZipZ X.K t0 t1 t2) := by
  refine ⟨fun pins s σ H R I h => ?_⟩
  have key : wpAny (model X.prog X.w) X.A (spliced (backTo pos2 (starEach [e0, .Call (.Name "zip" p) [e, e2] [] pos] X.env))) (fun us s1 => wpAny (model X.prog X.w) X.A (call (.type "zip") us) (fun v s1 => wpAny (model X.prog X.w) X.A (pyIter v) (PIE X pins σ (.Tuple elts kk tpos) R) X.xe s1) X.xe s1) X.xe s := by
    rw [hs0]
    refine Calls.spliced_cons (thn (h0.run pins s σ H _ I h) fun u0 s0 ⟨v0, H0, I0, r0, q0⟩ => ?_)
    refine Calls.spliced_cons (zip_value (pos := pos) hg hm h1 m1 h2 m2 hs hs2 hpl I0 ?_)
    refine m1 σ H0 _ _ (fun v1 H1 q => m2 σ H1 _ _ (fun v2 H2 q => ?_) q) q0
    obtain ⟨k0, k1, k2, ws, xs, ys, qw, q1, q2, q3⟩ := q
    refine ⟨k1, k2, xs, ys, q1, q2, fun N u1 u2 s' I' r1 r2 hN hlo a1 a2 fp hz hTI hTO i1 i2 => Calls.spliced_nil ?_⟩
    have sw := SrcK.of I' qw r0
    have a0 := adrs_lt sw
    obtain ⟨o0, Hc0, B0, b0, it0⟩ := begins_K sw
    refine zip_beginsS (z := N + 4) (H2 := fun h => IsZip h (N + 4) (N + 2) (N + 3) .none) B0 (fun h h' hz k => k _ _ hz) (fun prog w A E s Q hz q => wpAny_pyIter_zip hz q) b0 hz fun h' hz' hTI' hTO' ho hsz hk => wpAny_pyIter_zip hz' ?_
    have I2 : Inv X pins σ H2 { s' with heap := h' } := I'.kept (t' := s'.toks) hk
    rw [← hN] at hz' hTI' hTO' ho hsz a0 ⊢
    have a1' : ∀ b ∈ adrs u1, b < N := a1
    have a2' : ∀ b ∈ adrs u2, b < N := a2
    have ne0 : N + 5 ∉ adrs u0 := notIn_ge a0 (Nat.le_refl _)
    refine ⟨N + 8, [N + 8, N + 6, N + 7, N + 5, N + 4, N + 2, N + 3, N, N + 1], _, _, H2, rfl, I2, turn_zipZ (ws := ws) (xs := xs) (ys := ys) r0 r1 r2 ne0 (notIn_ge a1' (Nat.le_refl _)) (notIn_ge a2' (Nat.le_succ _)) (zip_sep2 a1' a2') ?_, ⟨⟨⟨_, _, hz', .inl rfl⟩, hTI', ⟨_, _, hTO'⟩, it0 _ _ ho ne0⟩, ⟨_, _, hk _ _ hz, .inl rfl⟩, hk _ _ hTI, ⟨_, _, hk _ _ hTO⟩, i1.at fun o q => hk _ o q, i2.at fun o q => hk _ o q⟩, fun b hb => fp b ?_, q3⟩
    · have out : ∀ m, 5 ≤ m → (N + m : Nat) ∉ (N + 4) :: (N + 2) :: (N + 3) :: ((N :: adrs u1) ++ ((N + 1) :: adrs u2)) := fun m hm q => by
        simp only [List.mem_cons, List.mem_append] at q
        rcases q with q | q | q | (q | q) | (q | q)
        · exact add_ne (N := N) (a := m) (b := 4) (by omega) q
        · exact add_ne (N := N) (a := m) (b := 2) (by omega) q
        · exact add_ne (N := N) (a := m) (b := 3) (by omega) q
        · exact add_ne (N := N) (a := m) (b := 0) (by omega) q
        · exact notIn_ge a1' (Nat.le_add_right _ _) q
        · exact add_ne (N := N) (a := m) (b := 1) (by omega) q
        · exact notIn_ge a2' (Nat.le_add_right _ _) q
      have out2 : ∀ m, 5 ≤ m → (N + m : Nat) ∉ (N + 4) :: (N + 3) :: ([N] ++ [N + 1]) := fun m hm q => by
        have q : N + m = N + 4 ∨ N + m = N + 3 ∨ N + m = N ∨ N + m = N + 1 := by simpa using q
        rcases q with q | q | q | q
        · exact add_ne (N := N) (a := m) (b := 4) (by omega) q
        · exact add_ne (N := N) (a := m) (b := 3) (by omega) q
        · exact add_ne (N := N) (a := m) (b := 0) (by omega) q
        · exact add_ne (N := N) (a := m) (b := 1) (by omega) q
      have out0 : ∀ m, 6 ≤ m → (N + m : Nat) ∉ (N + 5) :: adrs u0 := fun m hm q => by
        rcases List.mem_cons.mp q with q | q
        · exact add_ne (N := N) (a := m) (b := 5) (by omega) q
        · exact notIn_ge a0 (Nat.add_le_add_left (by omega) N) q
      have out1 : ∀ m, 6 ≤ m → (N + m : Nat) ∉ [N + 5] := fun m hm q => add_ne (N := N) (a := m) (b := 5) (by omega) (by simpa using q)
      refine { TIz := add_ne (N := N) (a := 6) (b := 8) (by decide), TOz := add_ne (N := N) (a := 7) (b := 8) (by decide), TITO := add_ne (N := N) (a := 6) (b := 7) (by decide), zf1 := out0 8 (by decide), zf2 := out 8 (by decide), Tf1 := out0 7 (by decide), Tf2 := out 7 (by decide), zc1 := out1 8 (by decide), zc2 := out2 8 (by decide), Tc1 := out1 7 (by decide), Tc2 := out2 7 (by decide), Ic1 := out1 6 (by decide), Ic2 := out2 6 (by decide), sep12 := fun b hb => ?_, sep21 := fun b hb => ?_ }
      · have : b = N + 5 := by simpa using hb
        rw [this]; exact out 5 (by decide)
      · have low : ∀ m, m ≤ 4 → (N + m : Nat) ∉ (N + 5) :: adrs u0 := fun m hm q => by
          rcases List.mem_cons.mp q with q | q
          · exact add_ne (N := N) (a := m) (b := 5) (by omega) q
          · exact adrs_off I' qw r0 (Nat.le_trans hlo (Nat.le_add_right _ _)) (fp (N + m) (Nat.le_add_right _ _)).1 q
        have e' : b = N + 4 ∨ b = N + 3 ∨ b = N ∨ b = N + 1 := by simpa using hb
        rcases e' with q | q | q | q <;> rw [q]
        · exact low 4 (by decide)
        · exact low 3 (by decide)
        · exact low 0 (by decide)
        · exact low 1 (by decide)
    · have e' : b = N + 8 ∨ b = N + 6 ∨ b = N + 7 ∨ b = N + 5 ∨ b = N + 4 ∨ b = N + 2 ∨ b = N + 3 ∨ b = N ∨ b = N + 1 := by simpa using hb
      rcases e' with z | z | z | z | z | z | z | z | z <;> rw [z] <;> first | exact Nat.le_add_right _ _ | exact Nat.le_refl _
  exact Call_ (ld_blt I hg hm PyProof.Rows.boot_zip (PyProof.Rows.callWith_type1 key hs0 (by rfl)))
end GN
namespace GN
open PySem PySem.Spec PyProof.Rows L2
section
variable {X : Cx} {C : Cfg} {Γ : Al} {Tk : List Nat}
theorem enumZ_ok {m1 m2 : MI} {e e2 : Expr} {elts : List Expr} {kk : Nat} {p p2 pos pos2 tpos : Pos} (hg : Gl X "zip") (hm : X.mg "zip" = none) (hg2 : Gl X "enumerate") (hm2 : X.mg "enumerate" = none) (h : SrcV X Γ Tk (evI C m1) e) (hn : nstar e = true) (h2 : SrcV X Γ Tk (evI C m2) e2) (hn2 : nstar e2 = true) :
    Src X Γ Tk (evI C (.enum (.zip m1 m2))) (.Tuple elts kk tpos) (.Call (.Name "enumerate" p2) [.Call (.Name "zip" p) [e, e2] [] pos] [] pos2) := by
  obtain ⟨te, pe, mo, rd⟩ := h.ex
  obtain ⟨te2, pe2, mo2, rd2⟩ := h2.ex
  refine ⟨_, pi_enumZ hg hm hg2 hm2 pe mo pe2 mo2 (star_of hn [e2] _) (star_of hn2 [] _) (star_any _ _ _ (by simp [hn2])), fun σ H R Z g ρ xs ρ1 rf S e q => ?_⟩
  simp only [evI] at e
  obtain ⟨⟨zs0, ρ0, rf0⟩, e, e9⟩ := Option.bind_eq_some_iff.mp e
  obtain ⟨⟨ys, ρ2, rf2⟩, e1, e⟩ := Option.bind_eq_some_iff.mp e
  obtain ⟨⟨zs, ρ3, rf3⟩, e3, e4⟩ := Option.bind_eq_some_iff.mp e
  cases e4
  cases e9
  refine rd σ H _ Z g ρ ys ρ2 rf2 S e1 fun hrf v H1 Z1 gs g1 s1 o1 sv rr S1 => ?_
  refine rd2 σ H1 _ Z1 g1 ρ2 zs _ rf3 S1 e3 fun hrf2 v2 H2 Z2 gs2 g2 s2 o2 sv2 rr2 S2 => ?_
  obtain ⟨s3, o3⟩ := s2.part o1 o2
  have a2 := s2.agr o1
  rw [← List.append_assoc] at s3 o3
  obtain ⟨k, vs, hl, sq⟩ := sv.agr (gs2 := gs ++ gs2) a2 fun b m => List.mem_append.mpr (.inl m)
  obtain ⟨k2, vs2, hl2, sq2⟩ := sv2.agr (gs2 := gs ++ gs2) Agr.id fun b m => List.mem_append.mpr (.inr m)
  refine ⟨k, k2, vs, vs2, (sq Z2 H2 Agr.id o3.zh).1, (sq2 Z2 H2 Agr.id o3.zh).1, q (fun q m => (List.mem_append.mp m).elim (hrf q) (hrf2 q)) _ H2 Z2 (gs ++ gs2) g2 (s1.trans s3) o3 ?_ ((rr.agr a2 fun _ _ => rfl).app rr2) S2⟩
  refine ⟨fun H => SqK X.K k H v vs ∧ SqK X.K k2 H v2 vs2, fun i H y H' => ∃ T U x x2, y = .ref U ∧ H T = none ∧ H U = none ∧ T ≠ U ∧ H' = upd (upd H T (.tup [x, x2])) U (.tup [.int (i : Nat), .ref T]) ∧ vs[i]? = some x ∧ vs2[i]? = some x2, ?_, fun Z H ag zh => ⟨⟨(sq Z H ag zh).1, (sq2 Z H ag zh).1⟩, fun i x H' d e y => ?_⟩⟩
  · rw [enumD_len, zipD_len, ← hl, ← hl2]
    exact ⟨fun i H hi h => ⟨h.1, h.2, by omega, by omega⟩, fun H h => ⟨h.1, h.2, by omega, by omega, by omega⟩, fun i H x H' _ _ y => y⟩
  · obtain ⟨T, U, w, w2, rfl, hn, hu, ne, rfl, hw, hw2⟩ := y
    obtain ⟨xd0, h0, rfl⟩ := enumD_get e
    obtain ⟨xd, xd2, h1, h2, rfl⟩ := zipD_get h0
    have r := (sq Z H ag zh).2 i xd w h1 hw
    have r2 := (sq2 Z H ag zh).2 i xd2 w2 h2 hw2
    have F1 : Fsh Z H Z (upd H T (.tup [w, w2])) [] := Fsh.one zh hn (.inl rfl)
    have F2 : Fsh Z (upd H T (.tup [w, w2])) Z (upd (upd H T (.tup [w, w2])) U (.tup [.int (i : Nat), .ref T])) [] := Fsh.one F1.ok.zh (by rw [upd_ne (Ne.symm ne)]; exact hu) (.inl rfl)
    have A : Agr Z H [] Z (upd (upd H T (.tup [w, w2])) U (.tup [.int (i : Nat), .ref T])) := (F1.trans F2).agr fun b m => nomatch m
    have hT : SqT X.K (upd (upd H T (.tup [w, w2])) U (.tup [.int (i : Nat), .ref T])) T [w, w2] := SqT.of (by rw [upd_ne ne]; exact upd_same)
    refine ⟨Z, F1.trans F2, U, [.int (i : Nat), .ref T], rfl, SqT.of upd_same, .int (i : Nat), [.ref T], [], [], rfl, rfl, ⟨by simp, rfl⟩, .ref T, [], [], [], rfl, rfl, ⟨T, [w, w2], rfl, hT, w, [w2], [], [], rfl, rfl, Rel.agr _ _ _ r A, w2, [], [], [], rfl, rfl, Rel.agr _ _ _ r2 A, rfl, rfl⟩, rfl, rfl⟩
theorem zipZ_ok {m0 m1 m2 : MI} {e0 e e2 : Expr} {elts : List Expr} {kk : Nat} {p p2 pos pos2 tpos : Pos} (hg : Gl X "zip") (hm : X.mg "zip" = none) (h0 : SrcV X Γ Tk (evI C m0) e0) (hn0 : nstar e0 = true) (h : SrcV X Γ Tk (evI C m1) e) (hn : nstar e = true) (h2 : SrcV X Γ Tk (evI C m2) e2) (hn2 : nstar e2 = true) :
    Src X Γ Tk (evI C (.zip m0 (.zip m1 m2))) (.Tuple elts kk tpos) (.Call (.Name "zip" p2) [e0, .Call (.Name "zip" p) [e, e2] [] pos] [] pos2) := by
  obtain ⟨te0, pe0, mo0, rd0⟩ := h0.ex
  obtain ⟨te, pe, mo, rd⟩ := h.ex
  obtain ⟨te2, pe2, mo2, rd2⟩ := h2.ex
  refine ⟨_, pi_zipZ hg hm pe0 mo0 pe mo pe2 mo2 (by rw [star_of hn0]; rfl) (star_of hn [e2] _) (star_of hn2 [] _) (star_any _ _ _ (by simp [hn2])), fun σ H R Z g ρ xs ρ1 rf S e q => ?_⟩
  simp only [evI] at e
  obtain ⟨⟨us, ρ9, rf9⟩, e8, e⟩ := Option.bind_eq_some_iff.mp e
  obtain ⟨⟨zs0, ρ0, rf0⟩, e, e9⟩ := Option.bind_eq_some_iff.mp e
  obtain ⟨⟨ys, ρ2, rf2⟩, e1, e⟩ := Option.bind_eq_some_iff.mp e
  obtain ⟨⟨zs, ρ3, rf3⟩, e3, e4⟩ := Option.bind_eq_some_iff.mp e
  cases e4
  cases e9
  refine rd0 σ H _ Z g ρ us ρ9 rf9 S e8 fun hrf0 v0 H0 Z0 gs0 g0 s0 o0 sv0 rr0 S0 => ?_
  refine rd σ H0 _ Z0 g0 ρ9 ys ρ2 rf2 S0 e1 fun hrf v H1 Z1 gs g1 s1 o1 sv rr S1 => ?_
  refine rd2 σ H1 _ Z1 g1 ρ2 zs _ rf3 S1 e3 fun hrf2 v2 H2 Z2 gs2 g2 s2 o2 sv2 rr2 S2 => ?_
  obtain ⟨t1, p1⟩ := s1.part o0 o1
  have a1 := s1.agr o0
  rw [← List.append_assoc] at t1 p1
  obtain ⟨t2, p2⟩ := s2.part p1 o2
  have a2 := s2.agr p1
  rw [← List.append_assoc] at t2 p2
  have sv0' := (sv0.agr (gs2 := gs0 ++ gs) a1 fun b m => List.mem_append.mpr (.inl m)).agr (gs2 := gs0 ++ gs ++ gs2) a2 fun b m => List.mem_append.mpr (.inl m)
  have sv' := (sv.agr (gs2 := gs0 ++ gs) Agr.id fun b m => List.mem_append.mpr (.inr m)).agr (gs2 := gs0 ++ gs ++ gs2) a2 fun b m => List.mem_append.mpr (.inl m)
  obtain ⟨k0, ws, hl0, sq0⟩ := sv0'
  obtain ⟨k, vs, hl, sq⟩ := sv'
  obtain ⟨k2, vs2, hl2, sq2⟩ := sv2.agr (gs2 := gs0 ++ gs ++ gs2) Agr.id fun b m => List.mem_append.mpr (.inr m)
  refine ⟨k0, k, k2, ws, vs, vs2, (sq0 Z2 H2 Agr.id p2.zh).1, (sq Z2 H2 Agr.id p2.zh).1, (sq2 Z2 H2 Agr.id p2.zh).1, q (fun q m => ?_) _ H2 Z2 (gs0 ++ gs ++ gs2) g2 ((s0.trans t1).trans t2) p2 ?_ ?_ S2⟩
  · rcases List.mem_append.mp m with m | m
    · exact hrf0 q m
    · exact (List.mem_append.mp m).elim (hrf q) (hrf2 q)
  · refine ⟨fun H => SqK X.K k0 H v0 ws ∧ SqK X.K k H v vs ∧ SqK X.K k2 H v2 vs2, fun i H y H' => ∃ T U w x x2, y = .ref U ∧ H T = none ∧ H U = none ∧ T ≠ U ∧ H' = upd (upd H T (.tup [x, x2])) U (.tup [w, .ref T]) ∧ ws[i]? = some w ∧ vs[i]? = some x ∧ vs2[i]? = some x2, ?_, fun Z H ag zh => ⟨⟨(sq0 Z H ag zh).1, (sq Z H ag zh).1, (sq2 Z H ag zh).1⟩, fun i x H' d e y => ?_⟩⟩
    · rw [zipD_len, zipD_len, ← hl0, ← hl, ← hl2]
      exact ⟨fun i H hi h => ⟨h, by omega, by omega, by omega⟩, fun H h => ⟨h, by omega, by omega, by omega⟩, fun i H x H' _ _ y => y⟩
    · obtain ⟨T, U, w0, w, w2, rfl, hn, hu, ne, rfl, hw0, hw, hw2⟩ := y
      obtain ⟨xd0, xz, h0, h9, rfl⟩ := zipD_get e
      obtain ⟨xd, xd2, h1, h2, rfl⟩ := zipD_get h9
      have r0 := (sq0 Z H ag zh).2 i xd0 w0 h0 hw0
      have r := (sq Z H ag zh).2 i xd w h1 hw
      have r2 := (sq2 Z H ag zh).2 i xd2 w2 h2 hw2
      have F1 : Fsh Z H Z (upd H T (.tup [w, w2])) [] := Fsh.one zh hn (.inl rfl)
      have F2 : Fsh Z (upd H T (.tup [w, w2])) Z (upd (upd H T (.tup [w, w2])) U (.tup [w0, .ref T])) [] := Fsh.one F1.ok.zh (by rw [upd_ne (Ne.symm ne)]; exact hu) (.inl rfl)
      have A : Agr Z H [] Z (upd (upd H T (.tup [w, w2])) U (.tup [w0, .ref T])) := (F1.trans F2).agr fun b m => nomatch m
      have hT : SqT X.K (upd (upd H T (.tup [w, w2])) U (.tup [w0, .ref T])) T [w, w2] := SqT.of (by rw [upd_ne ne]; exact upd_same)
      exact ⟨Z, F1.trans F2, U, [w0, .ref T], rfl, SqT.of upd_same, w0, [.ref T], [], [], rfl, rfl, Rel.agr _ _ _ r0 A, .ref T, [], [], [], rfl, rfl, ⟨T, [w, w2], rfl, hT, w, [w2], [], [], rfl, rfl, Rel.agr _ _ _ r A, w2, [], [], [], rfl, rfl, Rel.agr _ _ _ r2 A, rfl, rfl⟩, rfl, rfl⟩
  · have := ((rr0.agr a1 fun _ _ => rfl).app rr).agr a2 fun _ _ => rfl
    have := this.app rr2
    rw [List.append_assoc] at this
    exact this
end
end GN
end

section
set_option linter.all false
set_option maxRecDepth 100000
set_option maxHeartbeats 4000000
namespace GN
open PySem PySem.Spec PyProof.Rows L2
/-! methods that change nothing -/
def GoodM (K : PySem.W.Frag) (m : Mt) (x : V) (xs : List V) (H : Hp) (Q : VK) : Prop := ∃ Z d ds r, (∀ b, Z b → H b ≠ none) ∧ Bor K Z H d x ∧ BorL K Z H ds xs ∧ evMt m d ds = some r ∧ ∀ v H1 Z1 f, Fsh Z H Z1 H1 f → Rel K Z1 H1 r v f → Q v H1
def mtT : Mt → String
  | .lcount => "list" | .scount => "str" | .lindex => "list" | .tindex => "tuple" | .dget => "dict" | .ssplit => "str" | .sends => "str" | .dget1 => "dict"
def mtN : Mt → String
  | .lcount => "count" | .scount => "count" | .lindex => "index" | .tindex => "index" | .dget => "get" | .ssplit => "split" | .sends => "endswith" | .dget1 => "get"
section
variable {X : Cx}
theorem MtR.imp {id : String} {r r' : V → List V → Hp → VK → Prop} (h : MtR X id r) (i : ∀ x xs H Q, r' x xs H Q → r x xs H Q) : MtR X id r' := fun pins s σ H x xs v us Q I rx rs q => h pins s σ H x xs v us Q I rx rs (i _ _ _ _ q)
theorem mg_lcount : MtR X "list.count" (GoodM X.K .lcount) := MtR.imp mt_lcount fun x xs H Q q => by
  obtain ⟨Z, d, ds, r, zh, bd, b, e, q⟩ := q
  unfold evMt at e
  split at e <;> simp_all
  rename_i o ys k
  obtain ⟨l, e1, rfl⟩ := e
  obtain ⟨a, vs, f, rfl, sq, rl, _⟩ := bd.lst
  obtain ⟨rfl, _⟩ := rl.ints e1
  obtain ⟨v, r', rfl, b1, b2⟩ := b
  cases b2
  exact ⟨a, l, k, rfl, by rw [b1.int], sq, q _ _ _ [] (Fsh.refl zh) rel_int⟩
theorem count_cnt (c : Nat) : ∀ s : List Nat, PyProof.Rows.cnt c s = (s.count c : Nat)
  | [] => by rw [PyProof.Rows.cnt_nil]; rfl
  | x :: r => by
    rw [PyProof.Rows.cnt_cons, count_cnt c r, List.count_cons]
    by_cases h : x = c
    · simp [h]; omega
    · simp [h]
theorem mg_scount : MtR X "str.count" (GoodM X.K .scount) := MtR.imp mt_count fun x xs H Q q => by
  obtain ⟨Z, d, ds, r, zh, bd, b, e, q⟩ := q
  unfold evMt at e
  split at e <;> simp only [reduceCtorEq] at *
  rename_i s c _
  cases e
  obtain ⟨v, r', rfl, b1, b2⟩ := b
  cases b2
  refine ⟨toS s, toS [c], bd.str, by rw [b1.str], ?_⟩
  rw [show toS [c] = ⟨#[c]⟩ from rfl, PyProof.Rows.count_cnt, toS_cps, count_cnt]
  exact q _ _ _ [] (Fsh.refl zh) rel_int
theorem ixD_spec {a : D} : ∀ {xs : List D} {j : Nat}, ixD a xs = some j → ∃ z, xs[j]? = some z ∧ z.eqv a = true ∧ ∀ m z', m < j → xs[m]? = some z' → z'.eqv a = false
  | [], j, h => by simp [ixD] at h
  | x :: r, j, h => by
    simp only [ixD] at h
    split at h
    · cases h
      rename_i h
      exact ⟨x, rfl, h, fun m z' hm => absurd hm (Nat.not_lt_zero _)⟩
    · rename_i h2
      obtain ⟨j', e, rfl⟩ := Option.map_eq_some_iff.mp h
      obtain ⟨z, e1, e2, e3⟩ := ixD_spec e
      refine ⟨z, by simpa using e1, e2, fun m z' hm he => ?_⟩
      cases m with
      | zero => simp at he; subst he; simpa using h2
      | succ m => exact e3 m z' (by omega) (by simpa using he)
theorem erL_get : ∀ {xs : List D} {j : Nat}, (erL xs)[j]? = (xs[j]?).map er
  | [], j => by simp [erL]
  | x :: r, 0 => rfl
  | x :: r, j + 1 => by simpa [erL] using erL_get (xs := r) (j := j)
theorem mg_lindex (hu : X.A.units + 64 < cLine) : MtR X "list.index" (GoodM X.K .lindex) := by
  intro pins s σ H x xs v us Q I rx rs q0
  obtain ⟨Z, d, ds0, r, zh, bd, b, e, q⟩ := q0
  unfold evMt at e
  split at e <;> simp only [reduceCtorEq] at *
  rename_i o ys a _
  obtain ⟨⟨h1, h2⟩, e⟩ := ite_some' e
  obtain ⟨j, e1, rfl⟩ := Option.map_eq_some_iff.mp e
  obtain ⟨z, z1, z2, z3⟩ := ixD_spec e1
  obtain ⟨p, vs, f, rfl, sq, rl, _⟩ := bd.lst
  obtain ⟨va, r', rfl, b1, b2⟩ := b
  cases b2
  cases rx
  cases rs with
  | cons ry rt =>
    rename_i uy ut
    cases rt
    obtain ⟨bs, r1⟩ := Dp.reads I _ va uy (b1.dp (by omega)) ry
    obtain ⟨p1, l1⟩ := er_ok a 60 h1 (by omega)
    obtain ⟨p2, l2⟩ := erL_ok ys 59 h2 (by omega)
    obtain ⟨its, rv, ⟨⟨cls, dd, data, sls⟩, n, ho, hc, hdn, hdt⟩, hlen⟩ := I.list sq
    simp only at hc hdt
    subst hc hdt
    obtain ⟨as, h4⟩ := Dp.readsAll I _ _ its (RelL.dp ys vs f rl (by omega)) rv
    have hn : its.length = (erL ys).length := SeqAt.ReadsAll.length _ its as h4
    have hmap : its.map (SeqAt.readOf s.heap) = erL ys := SeqAt.readsAll_map_plain _ its as p2 h4
    have hvl := rv.length
    have hsl := sizeLine_eq
    have zz : (erL ys)[j]? = some (er z) := by rw [erL_get, z1]; rfl
    obtain ⟨hjd, _⟩ := List.getElem?_eq_some_iff.mp zz
    have hjl : j < its.length := by omega
    have hj : j < its.toArray.size := by simpa using hjl
    have at_ : ∀ (m : Nat) (hm : m < its.toArray.size) (z' : PyData), (erL ys)[m]? = some z' → SeqAt.readOf s.heap its.toArray[m] = z' := by
      intro m hm z' hz'
      have hml : m < its.length := by simpa using hm
      rw [← hmap, List.getElem?_map, List.getElem?_eq_getElem hml] at hz'
      have e1 : SeqAt.readOf s.heap its[m] = z' := Option.some.inj (show some (SeqAt.readOf s.heap its[m]) = some z' from hz')
      simpa using e1
    refine call_meets PySem.F.slot_list_index ⟨_, ho, rfl⟩ PySem.F.entry_list_index (PySem.F.args_list_index_2 _ _)
      (SeqAt.list_indexAt p its.toArray n dd sls uy (fun u => PyData.eqv (SeqAt.readOf s.heap u) (er a)) j hj (by omega) ?_ ?_) ⟨ho, SeqAt.items_plain (vs := its.toArray) (show ReadsAll s.heap its.toArray.toList (erL ys) as from h4) r1 p2 p1 (by omega), ?_⟩
    · show PyData.eqv (SeqAt.readOf s.heap its.toArray[j]) (er a) = true
      rw [at_ j hj _ zz, eqv_er]
      exact z2
    · intro m hm hmj
      have hmd : m < ys.length := by
        have := (List.getElem?_eq_some_iff.mp z1).1
        omega
      have hz' : (erL ys)[m]? = some (er ys[m]) := by rw [erL_get, List.getElem?_eq_getElem hmd]; rfl
      show PyData.eqv (SeqAt.readOf s.heap its.toArray[m]) (er a) = false
      rw [at_ m hm _ hz', eqv_er]
      exact z3 m _ hmj (List.getElem?_eq_getElem hmd)
    · exact ⟨.int (j : Nat), H, I.tok _, ⟨_, rfl⟩, q _ _ _ [] (Fsh.refl zh) rel_int⟩
theorem mg_dget (hu : X.A.units + 64 < cLine) : MtR X "dict.get" (GoodM X.K .dget) := by
  intro pins s σ H x xs v us Q I rx rs q
  obtain ⟨Z, d, ds, r, zh, bd, b, e, q⟩ := q
  unfold evMt at e
  split at e <;> simp only [reduceCtorEq] at *
  rename_i o ks vs k dx _
  split at e
  · cases e
  rename_i ho
  obtain ⟨kx, e1, e2⟩ := Option.bind_eq_some_iff.mp e
  obtain ⟨p, kvs, f', rfl, hH, hky, rl⟩ : ∃ p kvs f', x = V.ref p ∧ H p = some (.dK kvs) ∧ kyOk ks (kvs.map (·.1)) ∧ RelL X.K Z H vs (kvs.map (·.2)) f' := by
    obtain ⟨f, b⟩ := bd
    cases o with
    | own => obtain ⟨p, kvs, f', e1, e2, e3, _, e4⟩ := b; exact ⟨p, kvs, f', e1, e2, e3, e4⟩
    | shr => obtain ⟨p, kvs, e1, e2, _, e3, e4, _⟩ := b; exact ⟨p, kvs, [], e1, e2, e3, e4⟩
    | ext => exact absurd rfl ho
  obtain ⟨vk, r', rfl, b1, b2⟩ := b
  obtain ⟨vx, r'', rfl, b3, b4⟩ := b2
  cases b4
  have evk : vk = kV (kxK kx) := by
    cases k <;> simp [kxOf] at e1
    · subst e1; exact b1.int
    · subst e1; exact b1.str
  subst evk
  cases rx
  cases rs with
  | cons r1 rs => cases rs with
    | cons r2 rs =>
      cases rs
      refine d_get2 (by omega) I (DGet.k hH) r1 r2 fun w' s' I' rw' => ?_
      cases hk : kAt ks kx with
      | none =>
        rw [hk] at e2
        have hn : valV kvs (kxK kx) = none := by
          cases hv : valV kvs (kxK kx) with
          | none => rfl
          | some w =>
            have h1 := valV_any (kvs := kvs) (k := kxK kx)
            rw [hv] at h1
            obtain ⟨kv, hm, he⟩ := List.any_eq_true.mp h1
            exact absurd (List.mem_map.mpr ⟨kv, hm, by simpa using he⟩) (kAt_none hky hk)
        rw [hn] at rw'
        unfold plO at e2
        obtain ⟨pl, e3⟩ := ite_some e2
        subst e3
        obtain ⟨fx, rx⟩ := b3
        have := Rel.plain _ _ _ rx pl
        subst this
        exact ⟨vx, H, I', rw', q _ _ _ [] (Fsh.refl zh) rx⟩
      | some n =>
        rw [hk] at e2
        obtain ⟨w, w1, w2⟩ := kAt_val hky hk
        rw [w2] at rw'
        obtain ⟨dv, e3, e4⟩ := Option.bind_eq_some_iff.mp e2
        unfold plO at e4
        obtain ⟨pl, e5⟩ := ite_some e4
        subst e5
        obtain ⟨v2, f2, g1, g2, _⟩ := rl.get e3
        rw [w1] at g1; cases g1
        have := Rel.plain _ _ _ g2 pl
        subst this
        exact ⟨w, H, I', rw', q _ _ _ [] (Fsh.refl zh) g2⟩

theorem ixS_at {a : List Nat} : ∀ {l : List (List Nat)} {n : Nat}, ixS a l = some n → l[n]? = some a ∧ ∀ m, m < n → l[m]? ≠ some a
  | [], _, h => by simp [ixS] at h
  | x :: r, n, h => by
    simp only [ixS] at h
    split at h
    · rename_i c
      cases h
      exact ⟨by rw [c]; rfl, fun m hm => absurd hm (Nat.not_lt_zero _)⟩
    · rename_i c
      obtain ⟨k, e, rfl⟩ := Option.map_eq_some_iff.mp h
      obtain ⟨h1, h2⟩ := ixS_at e
      refine ⟨by simpa using h1, fun m hm => ?_⟩
      cases m with
      | zero => simpa using c
      | succ m => simpa using h2 m (by omega)
theorem mg_tindex : MtR X "tuple.index" (GoodM X.K .tindex) := MtR.imp mt_tup_index fun x xs H Q q => by
  obtain ⟨Z, d, ds, r, zh, bd, b, e, q⟩ := q
  unfold evMt at e
  split at e <;> simp only [reduceCtorEq] at *
  rename_i ys a _
  obtain ⟨l, e1, e2⟩ := Option.bind_eq_some_iff.mp e
  obtain ⟨n, e3, rfl⟩ := Option.map_eq_some_iff.mp e2
  obtain ⟨p, vs, f, rfl, sq, rl⟩ := bd.tup
  obtain ⟨rfl, _⟩ := rl.strs e1
  obtain ⟨v, r', rfl, b1, b2⟩ := b
  cases b2
  obtain ⟨h1, h2⟩ := ixS_at e3
  refine ⟨p, l.map toS, toS a, n, rfl, by rw [b1.str], sq, by rw [List.getElem?_map, h1]; rfl, fun m hm he => ?_, q _ _ _ [] (Fsh.refl zh) rel_int⟩
  rw [List.getElem?_map] at he
  obtain ⟨y, e4, e5⟩ := Option.map_eq_some_iff.mp he
  have : y = a := by have := congrArg (fun s => s.cps.toList) e5; simpa [toS_cps] using this
  rw [this] at e4
  exact h2 m hm e4
/-! split -/
def prepH (p : List Nat) : List (List Nat) → List (List Nat)
  | w :: ws => (p ++ w) :: ws
  | [] => [p]
theorem splitY_ne (y : List Nat) : ∀ (k : Nat) (l : List Nat), splitY y k l ≠ []
  | k, [] => by simp [splitY]
  | 0, c :: r => by
    rw [splitY]
    split
    · simp
    · cases splitY y 0 r <;> simp [consH]
  | k + 1, c :: r => by rw [splitY]; exact splitY_ne y k r
theorem splitY_skip (y : List Nat) : ∀ (k : Nat) (l : List Nat), splitY y k l = splitY y 0 (l.drop k)
  | 0, l => by rw [List.drop_zero]
  | k + 1, [] => by simp [splitY]
  | k + 1, c :: r => by rw [splitY, List.drop_succ_cons]; exact splitY_skip y k r
theorem splitY_hit {y : List Nat} {c : Nat} {r : List Nat} (hy : y ≠ []) (h : (c :: r).take y.length = y) : splitY y 0 (c :: r) = [] :: splitY y 0 ((c :: r).drop y.length) := by
  rw [splitY, if_pos h, splitY_skip]
  cases y with
  | nil => exact absurd rfl hy
  | cons d t => rfl
theorem splitY_copy {y L : List Nat} : ∀ (n a : Nat), (∀ k, a ≤ k → k < a + n → ¬ (L.drop k).take y.length = y) → a + n ≤ L.length → splitY y 0 (L.drop a) = prepH ((L.drop a).take n) (splitY y 0 (L.drop (a + n)))
  | 0, a, _, _ => by
    rw [List.take_zero, Nat.add_zero]
    have := splitY_ne y 0 (L.drop a)
    cases h : splitY y 0 (L.drop a) with
    | nil => exact absurd h this
    | cons w ws => rfl
  | n + 1, a, h, hl => by
    have ha : a < L.length := by omega
    have e : L.drop a = L[a] :: L.drop (a + 1) := List.drop_eq_getElem_cons ha
    have hm := h a (Nat.le_refl a) (by omega)
    rw [e] at hm
    have ih := splitY_copy (y := y) (L := L) n (a + 1) (fun k h1 h2 => h k (by omega) (by omega)) (by omega)
    rw [e, splitY, if_neg hm, ih, List.take_succ_cons, show a + 1 + n = a + (n + 1) by omega]
    have := splitY_ne y 0 (L.drop (a + (n + 1)))
    cases h : splitY y 0 (L.drop (a + (n + 1))) with
    | nil => exact absurd h this
    | cons w ws => rfl
theorem splitY_none {y L : List Nat} {a : Nat} (ha : a ≤ L.length) (h : ∀ k, a ≤ k → ¬ (L.drop k).take y.length = y) : splitY y 0 (L.drop a) = [L.drop a] := by
  have e := splitY_copy (y := y) (L := L) (L.length - a) a (fun k h1 _ => h k h1) (by omega)
  rw [e, show a + (L.length - a) = L.length by omega, List.drop_length, List.take_of_length_le (by rw [List.length_drop]; omega)]
  simp [splitY, prepH]
theorem split_chain {x y : Str} (hy : 1 ≤ y.length) : ∀ (cuts : List Nat) (a f : Nat), StrLaws.ChainG x y x.length a cuts f → (∀ k, f ≤ k → ¬ StrLaws.At x y x.length k) → a ≤ x.length →
    (StrLaws.partsFrom x y.length a cuts).map (fun s => s.cps.toList) = splitY y.cps.toList 0 (x.cps.toList.drop a)
  | [], a, f, h, hn, ha => by
    have e : f = a := h
    subst e
    have ex : x.cps.toList.length = x.length := by simp [Str.length]
    rw [splitY_none (by omega) fun k hk hh => hn k hk (StrLaws.take_at hy hh)]
    show [(Builtin.Str.strSub x f x.length).cps.toList] = _
    rw [StrLaws.strSub_toList, List.take_of_length_le (by rw [List.length_drop]; omega)]
  | c :: r, a, f, h, hn, ha => by
    obtain ⟨hac, hA, hno, hr⟩ := h
    have hb := hA.1
    have ex : x.cps.toList.length = x.length := by simp [Str.length]
    have ey : y.cps.toList.length = y.length := by simp [Str.length]
    have ih := split_chain hy r (c + y.length) f hr hn hb
    have cp := splitY_copy (y := y.cps.toList) (L := x.cps.toList) (c - a) a (fun k h1 h2 hh => hno k h1 (by omega) (StrLaws.take_at hy hh)) (by omega)
    have hc : c < x.cps.toList.length := by omega
    have ed : x.cps.toList.drop c = x.cps.toList[c] :: x.cps.toList.drop (c + 1) := List.drop_eq_getElem_cons hc
    have ht := StrLaws.at_take hA
    have hne : y.cps.toList ≠ [] := fun w => by
      rw [w] at ey
      have : (0 : Nat) = y.length := ey
      omega
    have hit : splitY y.cps.toList 0 (x.cps.toList.drop c) = [] :: splitY y.cps.toList 0 (x.cps.toList.drop (c + y.length)) := by
      have h3 := ht
      rw [ed] at h3
      rw [ed, splitY_hit hne h3, ← ed, List.drop_drop, ey]
    show (Builtin.Str.strSub x a c).cps.toList :: (StrLaws.partsFrom x y.length (c + y.length) r).map (fun s => s.cps.toList) = _
    rw [ih, cp, show a + (c - a) = c by omega, hit, StrLaws.strSub_toList]
    simp [prepH]
theorem split_list {x y : Str} (hy : 1 ≤ y.length) (hk : Builtin.Str.strKind y = 1) : (Txt.split x y).map (fun s => s.cps.toList) = splitY y.cps.toList 0 x.cps.toList := by
  obtain ⟨f, hc, hn⟩ := StrLaws.occ_tight x y hy
  have h := split_chain hy _ 0 f hc hn (Nat.zero_le _)
  rw [List.drop_zero] at h
  rw [← h]
  have kx : ¬ Builtin.Str.strKind x < Builtin.Str.strKind y := by
    rw [hk]; unfold Builtin.Str.strKind; split <;> (try split) <;> omega
  unfold Txt.split
  cases e : Builtin.Str.occurrences x y 0 x.length (x.length + 1) with
  | nil =>
    have : StrLaws.partsFrom x y.length 0 [] = [x] := by
      show [Builtin.Str.strSub x 0 x.length] = _
      rw [StrLaws.sub_whole]
    rw [this]
    split
    · rfl
    · rfl
  | cons i r =>
    rw [e] at hc
    have hA := hc.2.1.1
    rw [if_neg (by simp [kx]; omega), if_neg (by simp), StrLaws.partsBetween_eq]
theorem toS_of (x : Str) : toS x.cps.toList = x := by cases x; simp [toS]
theorem split_toS {s y : List Nat} (hy : y ≠ []) (ha : (y.all fun c => decide (c < 256)) = true) : Txt.split (toS s) (toS y) = (splitY y 0 s).map toS := by
  have hl : 1 ≤ (toS y).length := by rw [toS_len]; cases y with
    | nil => exact absurd rfl hy
    | cons a r => simp
  have hk : Builtin.Str.strKind (toS y) = 1 := by
    unfold Builtin.Str.strKind
    rw [if_pos]
    simpa [toS] using ha
  have h := congrArg (List.map toS) (split_list (x := toS s) (y := toS y) hl hk)
  rw [List.map_map, toS_cps, toS_cps] at h
  rw [← h]
  conv => lhs; rw [← List.map_id (Txt.split (toS s) (toS y))]
  exact List.map_congr_left fun x _ => (toS_of x).symm
theorem rel_strs {K : PySem.W.Frag} {Z : Addr → Prop} {H : Hp} : ∀ l : List (List Nat), RelL K Z H (l.map D.str) ((l.map toS).map V.str) []
  | [] => ⟨rfl, rfl⟩
  | s :: r => ⟨_, _, [], [], rfl, rfl, ⟨rfl, rfl⟩, rel_strs r⟩
theorem mg_ssplit : MtR X "str.split" (GoodM X.K .ssplit) := MtR.imp mt_split fun x xs H Q q => by
  obtain ⟨Z, d, ds, r, zh, bd, b, e, q⟩ := q
  unfold evMt at e
  split at e <;> simp only [reduceCtorEq] at *
  rename_i s y _
  obtain ⟨⟨⟨hy, ha⟩, hl⟩, e⟩ := ite_some e
  cases e
  obtain ⟨v, r', rfl, b1, b2⟩ := b
  cases b2
  refine ⟨toS s, toS y, bd.str, by rw [b1.str], ?_, by rw [toS_len, ← line_eq]; exact hl, fun p hp => ?_⟩
  · rw [toS_len]
    cases y with
    | nil => exact absurd rfl hy
    | cons a r => rfl
  · rw [split_toS hy ha]
    have F : Fsh Z H Z (upd H p (.lst (((splitY y 0 s).map toS).map V.str))) [p] := Fsh.one zh hp (.inr ⟨rfl, trivial⟩)
    exact q _ _ _ [p] F ⟨p, _, [], rfl, upd_same, rfl, rel_strs _⟩
theorem endsW_toS {s t : List Nat} : Txt.endswith (toS s) (toS t) = endsW s t := by
  unfold Txt.endswith endsW
  rw [StrLaws.subAt_eq, toS_cps, toS_cps, toS_len, toS_len, Nat.zero_add]
  by_cases h : t.length ≤ s.length
  · rw [decide_eq_true h, Bool.true_and, Bool.true_and, List.take_of_length_le (by rw [List.length_drop]; omega)]
    rw [Bool.eq_iff_iff]; simp
  · rw [decide_eq_false h, Bool.false_and, Bool.false_and]
theorem mg_sends : MtR X "str.endswith" (GoodM X.K .sends) := MtR.imp mt_endswith fun x xs H Q q => by
  obtain ⟨Z, d, ds, r, zh, bd, b, e, q⟩ := q
  unfold evMt at e
  split at e <;> simp only [reduceCtorEq] at *
  rename_i s t _
  cases e
  obtain ⟨v, r', rfl, b1, b2⟩ := b
  cases b2
  refine ⟨toS s, toS t, bd.str, by rw [b1.str], ?_⟩
  rw [endsW_toS]
  exact q _ _ _ [] (Fsh.refl zh) rel_bl
theorem mg_dget1 (hu : X.A.units + 64 < cLine) : MtR X "dict.get" (GoodM X.K .dget1) := by
  intro pins s σ H x xs v us Q I rx rs q
  obtain ⟨Z, d, ds, r, zh, bd, b, e, q⟩ := q
  unfold evMt at e
  split at e <;> simp only [reduceCtorEq] at *
  rename_i o ks vs k _
  split at e
  · cases e
  rename_i ho
  obtain ⟨kx, e1, e2⟩ := Option.bind_eq_some_iff.mp e
  obtain ⟨p, kvs, f', rfl, hH, hky, rl⟩ : ∃ p kvs f', x = V.ref p ∧ H p = some (.dK kvs) ∧ kyOk ks (kvs.map (·.1)) ∧ RelL X.K Z H vs (kvs.map (·.2)) f' := by
    obtain ⟨f, b⟩ := bd
    cases o with
    | own => obtain ⟨p, kvs, f', e1, e2, e3, _, e4⟩ := b; exact ⟨p, kvs, f', e1, e2, e3, e4⟩
    | shr => obtain ⟨p, kvs, e1, e2, _, e3, e4, _⟩ := b; exact ⟨p, kvs, [], e1, e2, e3, e4⟩
    | ext => exact absurd rfl ho
  obtain ⟨vk, r', rfl, b1, b2⟩ := b
  cases b2
  have evk : vk = kV (kxK kx) := kx_bor e1 b1
  subst evk
  cases rx
  cases rs with
  | cons r1 rs =>
      cases rs
      refine d_get1 (by omega) I (DGet.k hH) r1 fun w' s' I' rw' => ?_
      cases hk : kAt ks kx with
      | none =>
        rw [hk] at e2
        cases e2
        have hn : valV kvs (kxK kx) = none := by
          cases hv : valV kvs (kxK kx) with
          | none => rfl
          | some w =>
            have h1 := valV_any (kvs := kvs) (k := kxK kx)
            rw [hv] at h1
            obtain ⟨kv, hm, he⟩ := List.any_eq_true.mp h1
            exact absurd (List.mem_map.mpr ⟨kv, hm, by simpa using he⟩) (kAt_none hky hk)
        rw [hn] at rw'
        exact ⟨.non, H, I', rw', q _ _ _ [] (Fsh.refl zh) ⟨rfl, rfl⟩⟩
      | some n =>
        rw [hk] at e2
        obtain ⟨w, w1, w2⟩ := kAt_val hky hk
        rw [w2] at rw'
        obtain ⟨dv, e3, e4⟩ := Option.bind_eq_some_iff.mp e2
        unfold plO at e4
        obtain ⟨pl, e5⟩ := ite_some e4
        subst e5
        obtain ⟨v2, f2, g1, g2, _⟩ := rl.get e3
        rw [w1] at g1; cases g1
        have := Rel.plain _ _ _ g2 pl
        subst this
        exact ⟨w, H, I', rw', q _ _ _ [] (Fsh.refl zh) g2⟩
/-- the method's look-up -/
structure MtF (X : Cx) (T : String) (nm : Str) (r : V → List V → Hp → VK → Prop) : Prop where
  ex : ∃ id : String, PlainAttrs T ∧ Slot T nm id ∧ typeOf (.builtin id) = pure (.type "method_descriptor") ∧ MtR X id r
theorem mt_all (hu : X.A.units + 64 < cLine) (m : Mt) (hm : m ≠ .tindex) : MtF X (mtT m) (mtN m) (GoodM X.K m) := by
  cases m with
  | lcount => exact ⟨_, PySem.F.plainAttrs_list, PySem.F.slot_list_count, PySem.F.type_list_count, mg_lcount⟩
  | scount => exact ⟨_, PySem.F.plainAttrs_str, PySem.F.slot_str_count, PySem.F.type_str_count, mg_scount⟩
  | lindex => exact ⟨_, PySem.F.plainAttrs_list, PySem.F.slot_list_index, PySem.F.type_list_index, mg_lindex hu⟩
  | tindex => exact absurd rfl hm
  | dget => exact ⟨_, PySem.F.plainAttrs_dict, PySem.F.slot_dict_get, PySem.F.type_dict_get, mg_dget hu⟩
  | ssplit => exact ⟨_, PySem.F.plainAttrs_str, PySem.F.slot_str_split, PySem.F.type_str_split, mg_ssplit⟩
  | sends => exact ⟨_, PySem.F.plainAttrs_str, PySem.F.slot_str_endswith, PySem.F.type_str_endswith, mg_sends⟩
  | dget1 => exact ⟨_, PySem.F.plainAttrs_dict, PySem.F.slot_dict_get, PySem.F.type_dict_get, mg_dget1 hu⟩
end
theorem mtTy_of {m : Mt} {d r : D} {ds : List D} (hm : m ≠ .tindex) (e : evMt m d ds = some r) : mtTy m d = true := by
  unfold evMt at e
  split at e <;> first | rfl | (cases e; done) | skip
  · exact absurd rfl hm
  all_goals
    split at e
    · cases e
    · rename_i h; simpa [mtTy] using h
theorem mtTy_ty {K : PySem.W.Frag} {Z : Addr → Prop} {H : Hp} {m : Mt} {d : D} {v : V} {f : List Addr} (h : mtTy m d = true) (r : Rel K Z H d v f) : tyV K (mtT m) v H := by
  cases m <;> cases d <;> simp only [mtTy] at h <;> try (cases h; done)
  case lcount.lst o xs => obtain ⟨a, vs, f', rfl, sq, _⟩ := Bor.lst ⟨f, r⟩; exact .inl ⟨rfl, vs, sq⟩
  case lindex.lst o xs => obtain ⟨a, vs, f', rfl, sq, _⟩ := Bor.lst ⟨f, r⟩; exact .inl ⟨rfl, vs, sq⟩
  case scount.str s => obtain ⟨rfl, _⟩ := r; rfl
  case ssplit.str s => obtain ⟨rfl, _⟩ := r; rfl
  case sends.str s => obtain ⟨rfl, _⟩ := r; rfl
  case dget1.dct o ks vs =>
    cases o with
    | own => obtain ⟨p, kvs, f', rfl, e2, _⟩ := r; exact .inr (.inr (.inl ⟨rfl, .inl ⟨kvs, e2⟩⟩))
    | shr => obtain ⟨p, kvs, rfl, e2, _⟩ := r; exact .inr (.inr (.inl ⟨rfl, .inl ⟨kvs, e2⟩⟩))
    | ext => exact r.elim
  case dget.dct o ks vs =>
    cases o with
    | own => obtain ⟨p, kvs, f', rfl, e2, _⟩ := r; exact .inr (.inr (.inl ⟨rfl, .inl ⟨kvs, e2⟩⟩))
    | shr => obtain ⟨p, kvs, rfl, e2, _⟩ := r; exact .inr (.inr (.inl ⟨rfl, .inl ⟨kvs, e2⟩⟩))
    | ext => exact r.elim
def ownBase2 : Expr → Bool
  | .Name _ _ => true
  | .Subscript _ _ _ => true
  | .List _ _ => true
  | .Dict _ _ _ => true
  | .Constant _ _ _ => true
  | .BinOp _ _ _ _ => true
  | _ => false
theorem base2_of {o : Expr} {name : Str} {env : PySem.Env} (h : ownBase2 o = true) : attributeBase o name env (eval o env) = eval o env := by
  cases o <;> first | rfl | cases h
section
variable {X : Cx} {C : Cfg} {Γ : Al}
theorem mt_fin {m : Mt} {as : MOs} {es : List Expr} {σ : L2.St} {Z Z1 : Addr → Prop} {H H1 : Hp} {f g g1 : List Addr} {ρ1 ρ2 : Env} {d r : D} {v : V} {ds : List D} {Q : VK} (h : OsE X C Γ as es) (s1 : Sp0 Z H g Z1 H1 (f ++ g1)) (o1 : Ok Z1 H1 (f ++ g1)) (r1 : Rel X.K Z1 H1 d v f) (S1 : Stb X.K Γ Z1 H1 ρ1 σ g1)
    (e : evOs C as ρ1 = some (ds, ρ2)) (em : evMt m d ds = some r) (q : ∀ v H1 Z1 f g1, Sp0 Z H g Z1 H1 (f ++ g1) → Ok Z1 H1 (f ++ g1) → Rel X.K Z1 H1 r v f → Stb X.K Γ Z1 H1 ρ2 σ g1 → Q v H1) :
    tSeq (tos X.K C Γ as) σ H1 fun xs H2 => GoodM X.K m v xs H2 Q := by
  refine os_ok h S1 e fun vs H2 Z2 f2 g2 s2 o2 r2 S2 => ?_
  obtain ⟨s3, o3⟩ := s2.part o1 o2
  have a2 : Agr Z1 H1 f Z2 H2 := s2.agr o1
  have r1' := Rel.agr d v f r1 a2
  refine ⟨Z2, d, ds, r, o2.zh, ⟨f, r1'⟩, r2.bor S2.sta.env, em, fun w H3 Z3 f3 F R => ?_⟩
  obtain ⟨s4, o4⟩ := F.sp0 S2.sta.ok
  have s5 : Sp0 Z H g Z2 H2 g2 := Stp.drop (Stp.drop (s1.trans s3))
  exact q w H3 Z3 f3 g2 (s5.trans s4) o4 R (S2.fsh F)
theorem mt_ow {m : Mt} {a : ME} {as : MOs} {nm : Str} {o e0 : Expr} {es : List Expr} {apos cpos : Pos} (hm : MtF X (mtT m) nm (GoodM X.K m)) (ho : Exp X Γ (ev C a) o) (hb : ownBase2 o = true) (h : OsE X C Γ as (e0 :: es)) (hn : (e0 :: es).all nstar = true) (hl : (e0 :: es).length < 30) (hline : (apos.endLine == cpos.line) = true) (hne : m ≠ .tindex) :
    Exp X Γ (ev C (.mt m a as)) (.Call (.Attribute o nm apos) (e0 :: es) [] cpos) := by
  obtain ⟨id, p1, p2, p3, p4⟩ := hm.ex
  have hn' := hn
  simp only [List.all_cons, Bool.and_eq_true] at hn'
  refine Exp.of (pv_plain (pe_bm p1 p2 p3 p4 ho.1 (pa_of h.pes hn) (base2_of hb) (few_of hn hl) hline (star_of hn'.1 _ _) (star_any _ _ _ hn'.2)) fun _ => rfl) (fun _ _ _ e => nomatch e) fun σ H Q ⟨Z, g, ρ, d, ρ', S, e, q⟩ => ?_
  simp only [ev] at e
  obtain ⟨⟨x, ρ1⟩, e3, e4⟩ := Option.bind_eq_some_iff.mp e
  obtain ⟨⟨ds, ρ2⟩, e5, e6⟩ := Option.bind_eq_some_iff.mp e4
  simp only at e6
  obtain ⟨r, e7, e8⟩ := Option.bind_eq_some_iff.mp e6
  cases e8
  exact tM_of S e3 fun v H1 Z1 f g1 s1 o1 r1 S1 => ⟨mtTy_ty (mtTy_of hne e7) r1, mt_fin h s1 o1 r1 S1 e5 e7 q⟩
theorem mt_pl {m : Mt} {i : Nat} {as : MOs} {nm x : Str} {e0 : Expr} {es : List Expr} {apos cpos px : Pos} (hm : MtF X (mtT m) nm (GoodM X.K m)) (ho : PE X (.Name x px) (tVar i)) (h : OsE X C Γ as (e0 :: es)) (hn : (e0 :: es).all nstar = true) (hl : (e0 :: es).length < 30) (hline : (apos.endLine == cpos.line) = true) :
    Exp X Γ (ev C (.mtp m i as)) (.Call (.Attribute (.Name x px) nm apos) (e0 :: es) [] cpos) := by
  obtain ⟨id, p1, p2, p3, p4⟩ := hm.ex
  have hn' := hn
  simp only [List.all_cons, Bool.and_eq_true] at hn'
  refine Exp.of (pv_plain (pe_bm p1 p2 p3 p4 ho (pa_of h.pes hn) (base2_of rfl) (few_of hn hl) hline (star_of hn'.1 _ _) (star_any _ _ _ hn'.2)) fun _ => rfl) (fun _ _ _ e => nomatch e) fun σ H Q ⟨Z, g, ρ, d9, ρ', S, e, q⟩ => ?_
  simp only [ev] at e
  obtain ⟨d0, e0, e⟩ := Option.bind_eq_some_iff.mp e
  obtain ⟨ht, e⟩ := ite_some' e
  obtain ⟨⟨ds, ρ2⟩, e1, e⟩ := Option.bind_eq_some_iff.mp e
  obtain ⟨d, e2, e⟩ := Option.bind_eq_some_iff.mp e
  obtain ⟨r, e3, e4⟩ := Option.bind_eq_some_iff.mp e
  simp only [Option.some.injEq, Prod.mk.injEq] at e4
  obtain ⟨rfl, rfl⟩ := e4
  obtain ⟨v, f, t1, t2, _⟩ := S.sta.env.get e0
  refine ⟨v, t1, mtTy_ty ht t2, ?_⟩
  refine os_ok h S e1 fun vs H2 Z2 f2 g2 s2 o2 r2 S2 => ?_
  obtain ⟨v', f', u1, u2, _⟩ := S2.sta.env.get e2
  rw [t1] at u1; cases u1
  refine ⟨Z2, d, ds, r, o2.zh, ⟨f', u2⟩, r2.bor S2.sta.env, e3, fun w H3 Z3 f3 F R => ?_⟩
  obtain ⟨s4, o4⟩ := F.sp0 S2.sta.ok
  exact q w H3 Z3 f3 g2 ((Stp.drop s2).trans s4) o4 R (S2.fsh F)
theorem mt_gi {G : List Str} {j : Nat} {as : MOs} {x : Str} {e0 : Expr} {es : List Expr} {apos cpos px : Pos} (B : Base X C G) (h1 : G[j]? = some x) (h2 : glB X.env.scope x = true) (h3 : nameB x = true) (h : OsE X C Γ as (e0 :: es)) (hn : (e0 :: es).all nstar = true) (hl : (e0 :: es).length < 30) (hline : (apos.endLine == cpos.line) = true) :
    Exp X Γ (ev C (.mt .tindex (.at_ (.gbl j)) as)) (.Call (.Attribute (.Name x px) "index" apos) (e0 :: es) [] cpos) := by
  obtain ⟨dg, v, u, e1, e2, r0, hr, ht⟩ := B.gbl j x h1
  unfold nameB at h3
  simp only [Bool.and_eq_true, Bool.not_eq_true'] at h3
  have hn' := hn
  simp only [List.all_cons, Bool.and_eq_true] at hn'
  refine Exp.of (pv_plain (pe_bm PySem.F.plainAttrs_tuple PySem.F.slot_tuple_index PySem.F.type_tuple_index mg_tindex (pe_glob (v := v) (gl_of h2) e2 r0 h3.1) (pa_of h.pes hn) (base2_of rfl) (few_of hn hl) hline (star_of hn'.1 _ _) (star_any _ _ _ hn'.2)) fun _ => rfl) (fun _ _ _ e => nomatch e) fun σ H Q ⟨Z, g, ρ, d, ρ', S, e, q⟩ => ?_
  simp only [ev, evA] at e
  rw [e1] at e
  simp only [Option.bind_some] at e
  split at e
  rotate_left
  · simp at e
  simp only [Option.bind_some] at e
  obtain ⟨⟨ds, ρ2⟩, e5, e6⟩ := Option.bind_eq_some_iff.mp e
  simp only at e6
  obtain ⟨r, e7, e8⟩ := Option.bind_eq_some_iff.mp e6
  cases e8
  have hd : ∃ xs, dg = .tup xs := by
    unfold evMt at e7
    split at e7 <;> simp_all
  obtain ⟨xs, rfl⟩ := hd
  obtain ⟨p, o, rfl, k1, k2, k3⟩ := ht xs rfl
  exact ⟨.inr (.inl ⟨rfl, o, k1, k2, k3⟩), mt_fin (f := []) h Sp0.refl S.sta.ok (hr Z H) S e5 e7 q⟩
end
end GN
end

section
set_option linter.all false
set_option maxRecDepth 100000
set_option maxHeartbeats 4000000
namespace GN
open PySem PySem.Spec PyProof.Rows L2
/-! the look at a def's text: that ML says what it says -/
structure Sy where
  sc : Scope
  N : List Str
  G : List Str
  F : List (Str × Nat)
  fn : Str → Bool
def blkSy (y : Sy) (scope : Scope) : Sy := { y with sc := relS scope y.sc, fn := fun x => scope.names.lookup x == some .cell }
structure At (X : Cx) (C : Cfg) (y : Sy) : Prop where
  hN : X.N = y.N
  hs : X.env.scope = y.sc
  kd : X.env.scope.kind = .function
  hf : ∀ x, y.fn x = true → X.fn x = true
  base : Base X C y.G
  pass : PassesOwn (model X.prog X.w) X.A X.env X.xe
  defs : ∀ j x np, y.F[j]? = some (x, np) → ∃ k, CalG X.prog X.w X.K X.mg X.base k x (spF X.K (C.call j) np) ∧ Room k X.A
theorem blk_scope {X : Cx} {scope : Scope} {cl : List (Str × Addr)} {Ca : Addr} : (compEnvC scope cl Ca X.env).scope = relS scope X.env.scope := rfl
theorem At.blk {X : Cx} {C : Cfg} {y : Sy} (A : At X C y) (scope : Scope) (hk : scope.kind = .function) (s : Shared) (H : Hp) (Ca : Addr) (cl : List (Str × Addr)) (fp : List Addr) : At (X.blk s H scope (compEnvC scope cl Ca X.env) fp) C (blkSy y scope) where
  hN := A.hN
  hs := by show relS scope X.env.scope = relS scope y.sc; rw [A.hs]
  kd := hk
  hf := fun x h => h
  base := ⟨A.base.calm, A.base.nd, A.base.blt, A.base.un, A.base.gd, A.base.gbl⟩
  pass := PassesOwn.never
  defs := A.defs
def noSetE : Expr → Bool
  | .Set .. => false
  | _ => true
theorem folded_ok {e : Expr} (h : noSetE e = true) (env : PySem.Env) (x : Value) : foldedSetIterable e env x = pure x := by
  cases e <;> first | rfl | cases h
theorem assignEach_cons {e : Expr} {es : List Expr} {env : PySem.Env} (h : nstar e = true) : assignEach (e :: es) env = (false, assign e env) :: assignEach es env := by
  cases e <;> first | rfl | cases h
theorem assignEach_facts {env : PySem.Env} : ∀ {es : List Expr}, es.all nstar = true → (assignEach es env).length = es.length ∧ (assignEach es env).findIdx? (·.1) = none
  | [], _ => ⟨rfl, rfl⟩
  | e :: es, h => by
    simp only [List.all_cons, Bool.and_eq_true] at h
    obtain ⟨h1, h2⟩ := assignEach_facts (env := env) h.2
    rw [assignEach_cons h.1]
    exact ⟨by simp [h1], by simp [List.findIdx?_cons, h2]⟩
def locB (y : Sy) (x : Str) : Bool := match y.sc.names.lookup x with
  | some .local => true
  | some .cell => y.fn x
  | _ => false
def gblM : ME → Bool
  | .at_ (.gbl _) => true
  | _ => false
mutual
def okT (y : Sy) (Γ : Al) (Kp : List Nat) : MT → Expr → Bool
  | .v i, e => match e with
    | .Name x _ => decide (y.N[i]? = some x) && locB y x && setB Γ Kp i
    | _ => false
  | .t ts, e => match e with
    | .Tuple es _ _ => decide (ts.length = es.length) && es.all nstar && okTs y Γ Kp ts es
    | _ => false
def okTs (y : Sy) (Γ : Al) (Kp : List Nat) : List MT → List Expr → Bool
  | [], es => es.isEmpty
  | t :: ts, es => match es with
    | e :: es => nstar e && okT y Γ Kp t e && okTs y Γ Kp ts es
    | [] => false
end
section
variable {X : Cx} {C : Cfg} {y : Sy} {Γ : Al} {Kp : List Nat}
theorem tv_ok2 {i : Nat} {x : Str} {pos : Pos} (hN : X.N.Nodup) (hi : X.N[i]? = some x) (hx : L2.Loc X.env.scope x) (hf : X.fn x = true ∨ X.env.scope.names.lookup x = some .local) (hb : setB Γ Kp i = true) : PG X (.Name x pos) (gM X.K Γ Kp (bindT (.v i))) :=
  PG.imp (pg_name hN hi hx hf) fun v σ H Q ⟨Z, f, g, ρ, d, ρ', S, ok, r, e, q⟩ => by
    simp only [bindT] at e
    obtain ⟨hl, e⟩ := ite_some e
    cases e
    obtain ⟨g', s, S1, k⟩ := set_step hb S ok r hl
    exact q _ g' s S1 k
theorem locB_of (A : At X C y) {x : Str} (h : locB y x = true) : L2.Loc X.env.scope x ∧ (X.fn x = true ∨ X.env.scope.names.lookup x = some .local) := by
  unfold locB at h
  unfold L2.Loc
  rw [A.hs]
  split at h
  · rename_i e; exact ⟨.inl e, .inr e⟩
  · rename_i e; exact ⟨.inr e, .inl (A.hf _ h)⟩
  · cases h
mutual
theorem okT_ok (A : At X C y) : ∀ (t : MT) (e : Expr), okT y Γ Kp t e = true → PG X e (gM X.K Γ Kp (bindT t))
  | .v i, e, h => by
    simp only [okT] at h
    split at h <;> try (cases h; done)
    simp only [Bool.and_eq_true, decide_eq_true_eq] at h
    have l := locB_of A h.1.2
    exact tv_ok2 A.base.nd (by rw [A.hN]; exact h.1.1) l.1 l.2 h.2
  | .t ts, e, h => by
    simp only [okT] at h
    split at h <;> try (cases h; done)
    simp only [Bool.and_eq_true, decide_eq_true_eq] at h
    have f := assignEach_facts (env := X.env) h.1.2
    exact ttup_ok A.base.calm (okTs_ok A ts _ h.2) rfl (by rw [f.1]; exact h.1.1) f.2
theorem okTs_ok (A : At X C y) : ∀ (ts : List MT) (es : List Expr), okTs y Γ Kp ts es = true → PGs X es (gMs X.K Γ Kp (bindTs ts))
  | [], es, h => by
    simp only [okTs, List.isEmpty_iff] at h
    subst h; exact tnil_ok
  | t :: ts, es, h => by
    simp only [okTs] at h
    split at h <;> try (cases h; done)
    simp only [Bool.and_eq_true] at h
    exact tcons_ok (okT_ok A t _ h.1.2) (okTs_ok A ts _ h.2) (by rw [assignEach_cons h.1.1]; rfl)
end
end
def nmB (y : Sy) (i : Nat) (x : Str) : Bool := decide (y.N[i]? = some x) && visB y.sc x && nameB x
def okP (y : Sy) (Γ : Al) : MP → Expr → Bool
  | .v i, e => match e with
    | .Name x _ => nmB y i x
    | _ => false
  | .s i k, e => match e with
    | .Subscript (.Name x _) ke _ => nmB y i x && isHead ke && okA y.sc y.N y.G Γ k ke
    | .Name z _ => match k with
      | .cst (.int (.ofNat n)) => (Γ.any fun q => decide (y.N[q.1]? = some z) && q.2.1 == i && akB q.2.2 n) && visB y.sc z && nameB z
      | .cst (.str l) => alkB y.N Γ i l z && visB y.sc z && nameB z
      | _ => false
    | _ => false
def freeP (Γ : Al) : MP → Bool
  | .v i => freeB Γ i
  | .s _ _ => true
section
variable {X : Cx} {C : Cfg} {y : Sy} {Γ : Al} {Kp : List Nat}
theorem nmB_of (A : At X C y) {i : Nat} {x : Str} (h : nmB y i x = true) : X.N[i]? = some x ∧ visB X.env.scope x = true ∧ nameB x = true := by
  unfold nmB at h
  simp only [Bool.and_eq_true, decide_eq_true_eq] at h
  rw [A.hN, A.hs]
  exact ⟨h.1.1, h.1.2, h.2⟩
theorem okA_ok (A : At X C y) {a : MA} {e : Expr} (h : okA y.sc y.N y.G Γ a e = true) : Atm X Γ (evA C a) e := atom_ok A.base a e (by rw [A.hs, A.hN]; exact h)
theorem okP_ok (A : At X C y) {p : MP} {e : Expr} (h : okP y Γ p e = true) : PE X e (tPl X.K Γ C p) := by
  cases p with
  | v i =>
    simp only [okP] at h
    split at h <;> try (cases h; done)
    have n := nmB_of A h
    exact pl_v n.1 n.2.1 n.2.2
  | s i k =>
    simp only [okP] at h
    split at h <;> try (cases h; done)
    · simp only [Bool.and_eq_true] at h
      have n := nmB_of A h.1.1
      exact pl_s A.base.un n.1 n.2.1 n.2.2 (okA_ok A h.2) h.1.2
    · split at h <;> try (cases h; done)
      · simp only [Bool.and_eq_true, List.any_eq_true, decide_eq_true_eq, beq_iff_eq] at h
        obtain ⟨⟨⟨q, hq, ⟨h1, h2⟩, h3⟩, h4⟩, h5⟩ := h
        obtain ⟨j, i', k⟩ := q
        simp only at h1 h2 h3
        subst h2
        cases k with
        | s l => simp [akB] at h3
        | i m =>
          simp only [akB, beq_iff_eq] at h3
          subst h3
          exact pl_a (by rw [A.hN]; exact h1) (by rw [A.hs]; exact h4) h5 hq
      · unfold alkB at h
        simp only [Bool.and_eq_true, List.any_eq_true, decide_eq_true_eq, beq_iff_eq] at h
        obtain ⟨⟨⟨q, hq, ⟨h1, h2⟩, h3⟩, h4⟩, h5⟩ := h
        obtain ⟨j, i', k⟩ := q
        simp only at h1 h2 h3
        subst h2
        cases k with
        | i l => cases h3
        | s x =>
          have h3 := of_decide_eq_true h3
          subst h3
          exact pl_k (by rw [A.hN]; exact h1) (by rw [A.hs]; exact h4) h5 hq
theorem freeP_of {p : MP} (h : freeP Γ p = true) : ∀ i, p = .v i → freeB Γ i = true := fun i e => by subst e; exact h
end
def takes : MI → List Nat
  | .take i => [i]
  | .own _ => [] | .rng _ => []
  | .enum x => takes x
  | .zip x z => takes x ++ takes z
  | .zip3 x z u => takes x ++ takes z ++ takes u
  | .rev _ => [] | .revT i => [i] | .revR _ => []
def isTrueM : ME → Bool
  | .at_ (.cst (.bl true)) => true
  | _ => false
def isTupE : Expr → Bool
  | .Tuple .. => true
  | _ => false
def ownp (y : Sy) (own : List Nat) : List (Str × Nat) := own.map fun i => ((y.N[i]?).getD "", i)
def strIs (x : Str) (z : String) : Bool := decide (x = (z : Str))
/-- of a list within a list an item is taken by a plain place -/
def popB : MP → MOs → Bool
  | _, .nil => true
  | .v _, .ow _ .nil => true
  | .s _ _, .ow (.at_ _) .nil => true
  | _, _ => false
mutual
def okM (y : Sy) (Γ : Al) : ME → Expr → Bool
  | .at_ a, e => okA y.sc y.N y.G Γ a e
  | .frz a, e => notBoolOp e && okM y Γ a e
  | .fz i, e => match e with
    | .Name x _ => nmB y i x && freeB Γ i
    | _ => false
  | .mv i, e => match e with
    | .Name x _ => nmB y i x && freeB Γ i
    | _ => false
  | .po p as, e => match argsOf y.sc p e with
    | some es => okOs y Γ as es
    | none => false
  | .tup as, e => match e with
    | .Tuple es _ _ => nopl as && es.all nstar && okOs y Γ as es
    | _ => false
  | .lst as, e => match e with
    | .List es _ => nopl as && es.all nstar && okOs y Γ as es
    | _ => false
  | .call f as, e => match e with
    | .Call (.Name x _) (a :: es) [] _ => (match y.F[f]? with
        | some (x', np) => decide (x' = x) && decide ((a :: es).length = np)
        | none => false) && glB y.sc x && !strIs x "__debug__" && (a :: es).all nstar && okOs y Γ as (a :: es)
    | _ => false
  | .and a b, e => match e with
    | .BoolOp .And (x :: z :: r) pos => notIf x && okM y Γ a x && (if r.isEmpty then notIf z && okM y Γ b z else okM y Γ b (.BoolOp .And (z :: r) pos))
    | _ => false
  | .or a b, e => match e with
    | .BoolOp .Or (x :: z :: r) pos => notIf x && okM y Γ a x && (if r.isEmpty then notIf z && okM y Γ b z else okM y Γ b (.BoolOp .Or (z :: r) pos))
    | _ => false
  | .not a, e => match e with
    | .UnaryOp .Not x _ => notIf x && okM y Γ a x
    | _ => false
  | .ite c a b, e => match e with
    | .IfExp z x w _ => notIf z && okM y Γ c z && okM y Γ a x && okM y Γ b w
    | _ => false
  | .comp own t it c el, e => match e with
    | .ListComp elt [⟨tg, iter, ifs, 0⟩] scope _ => blkC y.N y.sc scope (ownp y own) && noSetE iter && (Γ.all fun q => !own.contains q.1 && !own.contains q.2.1) && ((takes it).all fun i => freeB Γ i) && okI y Γ (takes it) it tg iter &&
        okT (blkSy y scope) Γ (others y.N.length own) t tg && (match ifs with
          | [] => isTrueM c
          | [ce] => notIf ce && okM (blkSy y scope) Γ c ce
          | _ => false) && okM (blkSy y scope) Γ el elt
    | _ => false
  | .pop p as, e => match e with
    | .Call (.Attribute o m apos) args [] cpos => strIs m "pop" && ownBase o && okP y Γ p o && freeP Γ p && (apos.endLine == cpos.line) && args.all nstar && okOs y Γ as args && popB p as
    | _ => false
  | .dct ks as, e => match e with
    | .Dict keys es _ => if keys.isEmpty && es.isEmpty && ks.isEmpty then (match as with | .nil => true | _ => false) else nopl as && kxsE ks keys && (ks.length == es.length) && !keys.isEmpty && (keys.length == es.length) && decide (keys.length ≤ 15) && okOs y Γ as es
    | _ => false
  | .dctK as, e => match e with
    | .Dict [some ke] [ve] _ => nopl as && okOs y Γ as [ke, ve]
    | _ => false
  | .mt m a as, e => match e with
    | .Call (.Attribute o nm apos) args [] cpos => (decide (m ≠ .tindex) || gblM a) && strIs nm (mtN m) && ownBase2 o && (apos.endLine == cpos.line) && args.all nstar && decide (args.length < 30) && !args.isEmpty && okM y Γ a o && okOs y Γ as args
    | _ => false
  | .mtp m i as, e => match e with
    | .Call (.Attribute (.Name x px) nm apos) args [] cpos => decide (m ≠ .tindex) && strIs nm (mtN m) && nmB y i x && (apos.endLine == cpos.line) && args.all nstar && decide (args.length < 30) && !args.isEmpty && okOs y Γ as args
    | _ => false
def okOs (y : Sy) (Γ : Al) : MOs → List Expr → Bool
  | .nil, es => es.isEmpty
  | .ow a r, es => match es with
    | e :: es => okM y Γ a e && okOs y Γ r es
    | [] => false
  | .pl i r, es => match es with
    | .Name x _ :: es => nmB y i x && freeB Γ i && !(lates r).contains i && okOs y Γ r es
    | _ => false
  | .fl i r, es => match es with
    | .Name x _ :: es => nmB y i x && freeB Γ i && !(lates r).contains i && okOs y Γ r es
    | _ => false
  | .ml i r, es => match es with
    | .Name x _ :: es => nmB y i x && freeB Γ i && !(lates r).contains i && okOs y Γ r es
    | _ => false
def okI (y : Sy) (Γ : Al) (Tk : List Nat) : MI → Expr → Expr → Bool
  | .own a, tg, e => okM y Γ a e
  | .take i, tg, e => match e with
    | .Name x _ => nmB y i x && freeB Γ i && Tk.contains i
    | _ => false
  | .rng as, tg, e => match e with
    | .Call (.Name r _) args [] _ => strIs r "range" && glB y.sc r && args.all nstar && (args.length == 1 || args.length == 2 || args.length == 3) && okOs y Γ as args
    | _ => false
  | .enum (.zip m n), tg, e => match e with
    | .Call (.Name r _) [.Call (.Name r2 _) [a, b] [] _] [] _ => isTupE tg && strIs r "enumerate" && glB y.sc r && strIs r2 "zip" && glB y.sc r2 && nstar a && nstar b && okV y Γ Tk m a && okV y Γ Tk n b
    | _ => false
  | .enum m, tg, e => match e with
    | .Call (.Name r _) [a] [] _ => isTupE tg && strIs r "enumerate" && glB y.sc r && nstar a && okV y Γ Tk m a
    | _ => false
  | .zip q (.zip m n), tg, e => match e with
    | .Call (.Name r _) [c, .Call (.Name r2 _) [a, b] [] _] [] _ => isTupE tg && strIs r "zip" && glB y.sc r && strIs r2 "zip" && glB y.sc r2 && nstar c && nstar a && nstar b && okV y Γ Tk q c && okV y Γ Tk m a && okV y Γ Tk n b
    | _ => false
  | .zip m n, tg, e => match e with
    | .Call (.Name r _) [a, b] [] _ => isTupE tg && strIs r "zip" && glB y.sc r && nstar a && nstar b && okV y Γ Tk m a && okV y Γ Tk n b
    | _ => false
  | .zip3 m n q, tg, e => match e with
    | .Call (.Name r _) [a, b, c] [] _ => isTupE tg && strIs r "zip" && glB y.sc r && nstar a && nstar b && nstar c && okV y Γ Tk m a && okV y Γ Tk n b && okV y Γ Tk q c
    | _ => false
  | .rev a, tg, e => match e with
    | .Call (.Name r _) [x] [] _ => strIs r "reversed" && glB y.sc r && nstar x && okM y Γ a x
    | _ => false
  | .revT i, tg, e => match e with
    | .Call (.Name r _) [.Name x p] [] _ => strIs r "reversed" && glB y.sc r && nmB y i x && freeB Γ i && Tk.contains i
    | _ => false
  | .revR a, tg, e => match e with
    | .Call (.Name r _) [.Call (.Name r2 _) [x] [] _] [] _ => strIs r "reversed" && glB y.sc r && strIs r2 "range" && glB y.sc r2 && nstar x && okM y Γ a x
    | _ => false
def okV (y : Sy) (Γ : Al) (Tk : List Nat) : MI → Expr → Bool
  | .own a, e => okM y Γ a e
  | .take i, e => match e with
    | .Name x _ => nmB y i x && freeB Γ i && Tk.contains i
    | _ => false
  | .rng _, _ => false
  | .enum _, _ => false
  | .zip _ _, _ => false
  | .zip3 _ _ _, _ => false
  | .rev _, _ => false
  | .revT _, _ => false
  | .revR _, _ => false
end
end GN
end

section
set_option linter.all false
set_option maxRecDepth 100000
set_option maxHeartbeats 4000000
namespace GN
open PySem PySem.Spec PyProof.Rows L2
section
variable {X : Cx} {C : Cfg} {y : Sy} {Γ : Al} {Kp : List Nat}
theorem PE.impL {e : Expr} {t t' : TE} (h : PE X e t) (i : ∀ σ H Q, σ.length = X.N.length → t' σ H Q → t σ H Q) : PE X e t' := ⟨fun p s σ H Q I q => h.run p s σ H Q I (i σ H Q I.len q)⟩
theorem PT.impL {e : Expr} {t t' : TT} (h : PT X e t) (i : ∀ σ H Q, σ.length = X.N.length → t' σ H Q → t σ H Q) : PT X e t' := ⟨fun p s σ H Q I q => h.run p s σ H Q I (i σ H Q I.len q)⟩
theorem PS.impL {e : Stmt} {t t' : TS} (h : PS X e t) (i : ∀ D σ H, σ.length = X.N.length → t' D σ H → t D σ H) : PS X e t' := ⟨fun p s σ H D I q => h.run p s σ H D I (i D σ H I.len q)⟩
theorem PTs.imp {e : List Expr} {t t' : TT} (h : PTs X e t) (i : ∀ σ H Q, t' σ H Q → t σ H Q) : PTs X e t' := ⟨fun p s σ H Q I q => h.run p s σ H Q I (i σ H Q q)⟩
theorem Exp.ofL {F : Env → Option (D × Env)} {e : Expr} {t : TE} (h : PV X e t) (hb : ∀ op vs pos, e ≠ .BoolOp op vs pos) (i : ∀ σ H Q, σ.length = X.N.length → tM X.K Γ F σ H Q → t σ H Q) : Exp X Γ F e :=
  ⟨PE.impL h.pe i, fun _ => PT.impL h.pt fun σ H Q l q => i σ H _ l q, fun op vs pos e => absurd e (hb op vs pos)⟩
theorem isTrueM_of {c : ME} (h : isTrueM c = true) : c = .at_ (.cst (.bl true)) := by
  unfold isTrueM at h
  split at h
  · rfl
  · cases h
theorem pts_true {K : PySem.W.Frag} (hK : X.K = K) : PTs X [] (tTest (tM K Γ (ev C (.at_ (.cst (.bl true)))))) := PTs.imp pts_nil fun σ H Q ⟨Z, g, ρ, d, ρ', S, e, q⟩ => by
  simp only [ev, evA, Option.bind_some] at e
  obtain ⟨pl, e⟩ := ite_some e
  cases e
  obtain ⟨c, hc, q⟩ := q (.bl true) H Z [] g Sp0.refl S.sta.ok ⟨rfl, rfl⟩ S
  cases hc
  exact q
theorem ownp_snd {own : List Nat} : (ownp y own).map (·.2) = own := by
  unfold ownp
  rw [List.map_map]
  simp [Function.comp_def]
/-- what a comprehension's text must be -/
structure CompT (X : Cx) (C : Cfg) (y : Sy) (Γ : Al) (own : List Nat) (t : MT) (it : MI) (c el : ME) (elt tg iter : Expr) (ifs : List Expr) (scope : Scope) : Prop where
  blk : BlkOk X.N X.env.scope scope (ownp y own)
  set : noSetE iter = true
  al : ∀ q ∈ Γ, q.1 ∉ own ∧ q.2.1 ∉ own
  tk : ∀ i ∈ takes it, freeB Γ i = true
  src : Src X Γ (takes it) (evI C it) tg iter
  tgt : ∀ (s : Shared) (H : Hp) (Ca : Addr) (cl : List (Str × Addr)) (fp : List Addr), PG (X.blk s H scope (compEnvC scope cl Ca X.env) fp) tg (gM X.K Γ (others X.N.length own) (bindT t))
  tst : ∀ (s : Shared) (H : Hp) (Ca : Addr) (cl : List (Str × Addr)) (fp : List Addr), PTs (X.blk s H scope (compEnvC scope cl Ca X.env) fp) ifs (tTest (tM X.K Γ (ev C c)))
  elm : ∀ (s : Shared) (H : Hp) (Ca : Addr) (cl : List (Str × Addr)) (fp : List Addr), PE (X.blk s H scope (compEnvC scope cl Ca X.env) fp) elt (tM X.K Γ (ev C el))
theorem comp_ok (B : Base X C y.G) {own : List Nat} {t : MT} {it : MI} {c el : ME} {elt tg iter : Expr} {ifs : List Expr} {scope : Scope} {pos : Pos} (T : CompT X C y Γ own t it c el elt tg iter ifs scope) :
    Exp X Γ (ev C (.comp own t it c el)) (.ListComp elt [⟨tg, iter, ifs, 0⟩] scope pos) := by
  obtain ⟨wi, pi, hw⟩ := T.src.ex
  have p := pe_lc (pos := pos) B.calm B.nd pi T.blk T.tgt T.tst T.elm (folded_ok T.set _)
  rw [ownp_snd] at p
  refine Exp.ofL (pv_plain p fun _ => rfl) (fun _ _ _ e => nomatch e) fun σ H Q hl q => ?_
  rw [← hl]
  exact comp_read T.al T.tk hw q
theorem setLc_ok (B : Base X C y.G) {own : List Nat} {t : MT} {it : MI} {c el : ME} {elt tg iter : Expr} {ifs : List Expr} {scope : Scope} {pos spos py : Pos} {i : Nat} {x : Str} (T : CompT X C y Γ own t it c el elt tg iter ifs scope)
    (hi : X.N[i]? = some x) (hx : X.env.scope.names.lookup x = some .local) (hb : setB Γ Kp i = true) (hsw : swapsWith (.ListComp elt [⟨tg, iter, ifs, 0⟩] scope pos) (some (.Name x py)) spos.line X.env = pure true) :
    PS X (.Assign [.Name x py] (.ListComp elt [⟨tg, iter, ifs, 0⟩] scope pos) spos) (tS X.K Γ Kp (ex C (.asg (.v i) (.comp own t it c el)))) := by
  obtain ⟨wi, pi, hw⟩ := T.src.ex
  have p := ps_setLc B.calm B.nd hi hx hsw pi T.blk T.tgt T.tst T.elm (folded_ok T.set _)
  rw [ownp_snd] at p
  refine PS.impL p fun D σ H hl ⟨Z, g, ρ, fl, S, e, w⟩ => ?_
  simp only [ex] at e
  obtain ⟨⟨u, ρ1⟩, e1, e2⟩ := Option.bind_eq_some_iff.mp e
  obtain ⟨ρ2, e3, e4⟩ := Option.bind_eq_some_iff.mp e2
  cases e4
  show tLc wi _ _ _ own σ H fun v H1 => gName i v σ H1 D.nx
  rw [← hl]
  refine comp_read T.al T.tk hw (tM_of S e1 fun v H1 Z1 f g1 s1 o1 r1 S1 => ?_)
  simp only [bindT] at e3
  obtain ⟨hlt, e3⟩ := ite_some e3
  cases e3
  obtain ⟨g', s, S2, k⟩ := set_step hb S1 o1 r1 hlt
  exact w _ H1 Z1 g' (s1.trans s) S2 k
theorem rng_ok (A : At X C y) {as : MOs} {args : List Expr} {r : Str} {tg : Expr} {p pos : Pos} {Tk : List Nat} (h1 : strIs r "range" = true) (h2 : glB y.sc r = true) (h3 : args.all nstar = true) (h4 : (args.length == 1 || args.length == 2 || args.length == 3) = true) (h : OsE X C Γ as args) :
    Src X Γ Tk (evI C (.rng as)) tg (.Call (.Name r p) args [] pos) := by
  have e : r = ("range" : Str) := by simpa [strIs] using h1
  subst e
  have g : Gl X "range" := gl_of (by rw [A.hs]; exact h2)
  have m : X.mg "range" = none := A.base.blt _ (by decide)
  match args, h4 with
  | [a], _ =>
    simp only [List.all_cons, List.all_nil, Bool.and_true] at h3
    exact rng1_ok g m h h3
  | [a, b], _ =>
    simp only [List.all_cons, List.all_nil, Bool.and_true, Bool.and_eq_true] at h3
    exact rng2_ok g m h h3.1 h3.2
  | [a, b, c], _ =>
    simp only [List.all_cons, List.all_nil, Bool.and_true, Bool.and_eq_true] at h3
    exact rng3_ok g m h h3.1 h3.2.1 h3.2.2
theorem isTupE_of {e : Expr} (h : isTupE e = true) : ∃ es k pos, e = .Tuple es k pos := by
  cases e <;> first | exact ⟨_, _, _, rfl⟩ | cases h
end
mutual
theorem okM_ok : ∀ (m : ME) {X : Cx} {C : Cfg} {y : Sy} {Γ : Al} (A : At X C y) (e : Expr), okM y Γ m e = true → Exp X Γ (ev C m) e
  | .at_ a, X, C, y, Γ, A, e, h => by
    simp only [okM] at h
    exact at_ok (okA_ok A h)
  | .frz a, X, C, y, Γ, A, e, h => by
    simp only [okM, Bool.and_eq_true] at h
    exact frz_ok h.1 (okM_ok a A _ h.2)
  | .fz i, X, C, y, Γ, A, e, h => by
    simp only [okM] at h
    split at h <;> try (cases h; done)
    simp only [Bool.and_eq_true] at h
    have n := nmB_of A h.1
    exact fz_ok n.1 n.2.1 n.2.2 h.2
  | .mv i, X, C, y, Γ, A, e, h => by
    simp only [okM] at h
    split at h <;> try (cases h; done)
    simp only [Bool.and_eq_true] at h
    have n := nmB_of A h.1
    exact mv_ok n.1 n.2.1 n.2.2 h.2
  | .po p as, X, C, y, Γ, A, e, h => by
    simp only [okM] at h
    split at h <;> try (cases h; done)
    rename_i es he
    exact po_ok A.base (by rw [A.hs]; exact he) (okOs_ok as A es h)
  | .tup as, X, C, y, Γ, A, e, h => by
    simp only [okM] at h
    split at h <;> try (cases h; done)
    simp only [Bool.and_eq_true] at h
    exact mtup_ok (okOs_ok as A _ h.2) h.1.1 h.1.2
  | .lst as, X, C, y, Γ, A, e, h => by
    simp only [okM] at h
    split at h <;> try (cases h; done)
    simp only [Bool.and_eq_true] at h
    exact mlst_ok (okOs_ok as A _ h.2) h.1.1 h.1.2
  | .call f as, X, C, y, Γ, A, e, h => by
    simp only [okM] at h
    split at h <;> try (cases h; done)
    simp only [Bool.and_eq_true, Bool.not_eq_true'] at h
    obtain ⟨⟨⟨⟨h1, h2⟩, h3⟩, h4⟩, h5⟩ := h
    split at h1 <;> try (cases h1; done)
    rename_i x' np hF
    simp only [Bool.and_eq_true, decide_eq_true_eq] at h1
    obtain ⟨e1, e2⟩ := h1
    subst e1
    obtain ⟨k, c, hr⟩ := A.defs f _ np hF
    refine call_ok c A.base.gd hr (Nat.le_refl _) (gl_of (by rw [A.hs]; exact h2)) (okOs_ok as A _ h5) h4 e2 ?_
    unfold strIs at h3
    simpa using h3
  | .and a b, X, C, y, Γ, A, e, h => by
    simp only [okM] at h
    split at h <;> try (cases h; done)
    simp only [Bool.and_eq_true] at h
    obtain ⟨⟨h1, h2⟩, h3⟩ := h
    have A1 := okM_ok a A _ h2
    split at h3
    · rename_i x z r pos hr
      simp only [Bool.and_eq_true] at h3
      have hr' : r = [] := List.isEmpty_iff.mp hr
      subst hr'
      have A2 := mlast_ok (op := .And) (pos := pos) (okM_ok b A _ h3.2) h3.1
      exact mand_ok A1 h1 A2.1 A2.2
    · have A2 := okM_ok b A _ h3
      exact mand_ok A1 h1 A2.1 (A2.2.2 _ _ _ rfl)
  | .or a b, X, C, y, Γ, A, e, h => by
    simp only [okM] at h
    split at h <;> try (cases h; done)
    simp only [Bool.and_eq_true] at h
    obtain ⟨⟨h1, h2⟩, h3⟩ := h
    have A1 := okM_ok a A _ h2
    split at h3
    · rename_i x z r pos hr
      simp only [Bool.and_eq_true] at h3
      have hr' : r = [] := List.isEmpty_iff.mp hr
      subst hr'
      have A2 := mlast_ok (op := .Or) (pos := pos) (okM_ok b A _ h3.2) h3.1
      exact mor_ok A1 h1 A2.1 A2.2
    · have A2 := okM_ok b A _ h3
      exact mor_ok A1 h1 A2.1 (A2.2.2 _ _ _ rfl)
  | .not a, X, C, y, Γ, A, e, h => by
    simp only [okM] at h
    split at h <;> try (cases h; done)
    simp only [Bool.and_eq_true] at h
    exact mnot_ok (okM_ok a A _ h.2) h.1
  | .ite c a b, X, C, y, Γ, A, e, h => by
    simp only [okM] at h
    split at h <;> try (cases h; done)
    simp only [Bool.and_eq_true] at h
    obtain ⟨⟨⟨h1, h2⟩, h3⟩, h4⟩ := h
    exact mite_ok (okM_ok c A _ h2) h1 (okM_ok a A _ h3) (okM_ok b A _ h4)
  | .comp own t it c el, X, C, y, Γ, A, e, h => by
    simp only [okM] at h
    split at h <;> try (cases h; done)
    rename_i elt tg iter ifs scope pos
    simp only [Bool.and_eq_true, List.all_eq_true, Bool.not_eq_true', List.contains_eq_mem, decide_eq_false_iff_not] at h
    obtain ⟨⟨⟨⟨⟨⟨⟨h1, h2⟩, h3⟩, h4⟩, h5⟩, h6⟩, h7⟩, h8⟩ := h
    have bo := blkOk_by h1
    refine comp_ok A.base ⟨by rw [A.hN, A.hs]; exact bo, h2, h3, h4, okI_ok it A _ _ h5, fun s H Ca cl fp => ?_, fun s H Ca cl fp => ?_, fun s H Ca cl fp => ?_⟩
    · rw [A.hN]
      exact okT_ok (A.blk scope bo.kind s H Ca cl fp) t tg h6
    · split at h7 <;> try (cases h7; done)
      · rw [isTrueM_of h7]; exact pts_true rfl
      · simp only [Bool.and_eq_true] at h7
        exact pts_one ((okM_ok c (A.blk scope bo.kind s H Ca cl fp) _ h7.2).2.1 h7.1)
    · exact (okM_ok el (A.blk scope bo.kind s H Ca cl fp) _ h8).1
  | .pop p as, X, C, y, Γ, A, e, h => by
    simp only [okM] at h
    split at h <;> try (cases h; done)
    simp only [Bool.and_eq_true] at h
    obtain ⟨⟨⟨⟨⟨⟨⟨h1, h2⟩, h3⟩, h4⟩, h5⟩, h6⟩, h7⟩, h8⟩ := h
    have e := of_decide_eq_true h1
    subst e
    have P := okP_ok A h3
    have O := okOs_ok as A _ h7
    unfold popB at h8
    split at h8 <;> try (cases h8; done)
    · cases O
      exact pop0_ok P h2 (freeP_of h4) h5
    · cases O with
      | ow h hs =>
        cases hs
        simp only [List.all_cons, List.all_nil, Bool.and_true] at h6
        exact pop1_v P h2 (freeP_of h4 _ rfl) h h6 h5
    · cases O with
      | ow h hs =>
        cases hs
        simp only [List.all_cons, List.all_nil, Bool.and_true] at h6
        simp only [okOs, okM, Bool.and_eq_true] at h7
        exact pop1_ok P h2 (freeP_of h4) (okA_ok A h7.1) h6 h5
  | .dct ks as, X, C, y, Γ, A, e, h => by
    simp only [okM] at h
    split at h <;> try (cases h; done)
    split at h
    · rename_i hh
      simp only [Bool.and_eq_true, List.isEmpty_iff] at hh
      obtain ⟨⟨rfl, rfl⟩, rfl⟩ := hh
      split at h
      · exact dnew_ok
      · cases h
    · simp only [Bool.and_eq_true, beq_iff_eq, Bool.not_eq_true', decide_eq_true_eq] at h
      obtain ⟨⟨⟨⟨⟨⟨h1, h2⟩, h3⟩, h4⟩, h5⟩, h6⟩, h7⟩ := h
      exact dct_ok (okOs_ok as A _ h7) h1 h2 h3 (by intro e; rw [e] at h4; cases h4) h5 h6
  | .dctK as, X, C, y, Γ, A, e, h => by
    simp only [okM] at h
    split at h <;> try (cases h; done)
    simp only [Bool.and_eq_true] at h
    exact dctK_ok (okOs_ok as A _ h.2) h.1
  | .mt m a as, X, C, y, Γ, A, e, h => by
    simp only [okM] at h
    split at h <;> try (cases h; done)
    rename_i o nm apos args cpos
    simp only [Bool.and_eq_true, decide_eq_true_eq, Bool.not_eq_true'] at h
    obtain ⟨⟨⟨⟨⟨⟨⟨⟨h1, h2⟩, h3⟩, h4⟩, h5⟩, h6⟩, h7⟩, h8⟩, h9⟩ := h
    have en := of_decide_eq_true h2
    subst en
    cases args with
    | nil => cases h7
    | cons e0 es =>
      by_cases hm : m = .tindex
      · subst hm
        simp only [ne_eq, not_true_eq_false, decide_false, Bool.false_or] at h1
        unfold gblM at h1
        split at h1 <;> try (cases h1; done)
        simp only [okM, okA] at h8
        split at h8 <;> try (cases h8; done)
        simp only [Bool.and_eq_true, decide_eq_true_eq] at h8
        exact mt_gi A.base h8.1.1 (by rw [A.hs]; exact h8.1.2) h8.2 (okOs_ok as A _ h9) h5 h6 h4
      · exact mt_ow (mt_all A.base.un m hm) (okM_ok a A _ h8) h3 (okOs_ok as A _ h9) h5 h6 h4 hm
  | .mtp m i as, X, C, y, Γ, A, e, h => by
    simp only [okM] at h
    split at h <;> try (cases h; done)
    rename_i x px nm apos args cpos
    simp only [Bool.and_eq_true, decide_eq_true_eq, Bool.not_eq_true'] at h
    obtain ⟨⟨⟨⟨⟨⟨⟨h1, h2⟩, h3⟩, h4⟩, h5⟩, h6⟩, h7⟩, h8⟩ := h
    have en := of_decide_eq_true h2
    subst en
    have n := nmB_of A h3
    cases args with
    | nil => cases h7
    | cons e0 es => exact mt_pl (mt_all A.base.un m h1) (visName n.1 n.2.1 n.2.2) (okOs_ok as A _ h8) h5 h6 h4
theorem okOs_ok : ∀ (as : MOs) {X : Cx} {C : Cfg} {y : Sy} {Γ : Al} (A : At X C y) (es : List Expr), okOs y Γ as es = true → OsE X C Γ as es
  | .nil, X, C, y, Γ, A, es, h => by
    simp only [okOs, List.isEmpty_iff] at h
    subst h; exact .nil
  | .ow a r, X, C, y, Γ, A, es, h => by
    simp only [okOs] at h
    split at h <;> try (cases h; done)
    simp only [Bool.and_eq_true] at h
    exact .ow (okM_ok a A _ h.1) (okOs_ok r A _ h.2)
  | .pl i r, X, C, y, Γ, A, es, h => by
    simp only [okOs] at h
    split at h <;> try (cases h; done)
    simp only [Bool.and_eq_true, Bool.not_eq_true', List.contains_eq_mem, decide_eq_false_iff_not] at h
    have n := nmB_of A h.1.1.1
    exact .pl (visName n.1 n.2.1 n.2.2) h.1.1.2 h.1.2 (okOs_ok r A _ h.2)
  | .fl i r, X, C, y, Γ, A, es, h => by
    simp only [okOs] at h
    split at h <;> try (cases h; done)
    simp only [Bool.and_eq_true, Bool.not_eq_true', List.contains_eq_mem, decide_eq_false_iff_not] at h
    have n := nmB_of A h.1.1.1
    exact .fl (visName n.1 n.2.1 n.2.2) h.1.1.2 h.1.2 (okOs_ok r A _ h.2)
  | .ml i r, X, C, y, Γ, A, es, h => by
    simp only [okOs] at h
    split at h <;> try (cases h; done)
    simp only [Bool.and_eq_true, Bool.not_eq_true', List.contains_eq_mem, decide_eq_false_iff_not] at h
    have n := nmB_of A h.1.1.1
    exact .ml (visName n.1 n.2.1 n.2.2) h.1.1.2 h.1.2 (okOs_ok r A _ h.2)
theorem okI_ok : ∀ (it : MI) {X : Cx} {C : Cfg} {y : Sy} {Γ : Al} {Tk : List Nat} (A : At X C y) (tg e : Expr), okI y Γ Tk it tg e = true → Src X Γ Tk (evI C it) tg e
  | .own a, X, C, y, Γ, Tk, A, tg, e, h => by
    simp only [okI] at h
    exact own_ok (okM_ok a A _ h)
  | .take i, X, C, y, Γ, Tk, A, tg, e, h => by
    simp only [okI] at h
    split at h <;> try (cases h; done)
    simp only [Bool.and_eq_true, List.contains_eq_mem, decide_eq_true_eq] at h
    have n := nmB_of A h.1.1
    exact take_ok n.1 n.2.1 n.2.2 h.1.2 h.2
  | .rng as, X, C, y, Γ, Tk, A, tg, e, h => by
    simp only [okI] at h
    split at h <;> try (cases h; done)
    simp only [Bool.and_eq_true] at h
    obtain ⟨⟨⟨⟨h1, h2⟩, h3⟩, h4⟩, h5⟩ := h
    exact rng_ok A h1 h2 h3 h4 (okOs_ok as A _ h5)
  | .enum (.zip m n), X, C, y, Γ, Tk, A, tg, e, h => by
    simp only [okI] at h
    split at h <;> try (cases h; done)
    simp only [Bool.and_eq_true] at h
    obtain ⟨⟨⟨⟨⟨⟨⟨⟨h1, h2⟩, h3⟩, h2'⟩, h3'⟩, h4⟩, h5⟩, h6⟩, h7⟩ := h
    obtain ⟨es, k, pos, rfl⟩ := isTupE_of h1
    have e := of_decide_eq_true h2
    subst e
    have e := of_decide_eq_true h2'
    subst e
    exact enumZ_ok (gl_of (by rw [A.hs]; exact h3')) (A.base.blt _ (by decide)) (gl_of (by rw [A.hs]; exact h3)) (A.base.blt _ (by decide)) (okV_ok m A _ h6) h4 (okV_ok n A _ h7) h5
  | .enum (.own z), X, C, y, Γ, Tk, A, tg, e, h => by
    simp only [okI] at h
    split at h <;> try (cases h; done)
    simp only [Bool.and_eq_true] at h
    obtain ⟨⟨⟨⟨h1, h2⟩, h3⟩, h4⟩, h5⟩ := h
    obtain ⟨es, k, pos, rfl⟩ := isTupE_of h1
    have e := of_decide_eq_true h2
    subst e
    exact enum_ok (gl_of (by rw [A.hs]; exact h3)) (A.base.blt _ (by decide)) (okV_ok (.own z) A _ h5) h4
  | .enum (.take z), X, C, y, Γ, Tk, A, tg, e, h => by
    simp only [okI] at h
    split at h <;> try (cases h; done)
    simp only [Bool.and_eq_true] at h
    obtain ⟨⟨⟨⟨h1, h2⟩, h3⟩, h4⟩, h5⟩ := h
    obtain ⟨es, k, pos, rfl⟩ := isTupE_of h1
    have e := of_decide_eq_true h2
    subst e
    exact enum_ok (gl_of (by rw [A.hs]; exact h3)) (A.base.blt _ (by decide)) (okV_ok (.take z) A _ h5) h4
  | .enum (.rng z), X, C, y, Γ, Tk, A, tg, e, h => by
    simp only [okI] at h
    split at h <;> try (cases h; done)
    simp only [Bool.and_eq_true] at h
    obtain ⟨⟨⟨⟨h1, h2⟩, h3⟩, h4⟩, h5⟩ := h
    obtain ⟨es, k, pos, rfl⟩ := isTupE_of h1
    have e := of_decide_eq_true h2
    subst e
    exact enum_ok (gl_of (by rw [A.hs]; exact h3)) (A.base.blt _ (by decide)) (okV_ok (.rng z) A _ h5) h4
  | .enum (.enum z), X, C, y, Γ, Tk, A, tg, e, h => by
    simp only [okI] at h
    split at h <;> try (cases h; done)
    simp only [Bool.and_eq_true] at h
    obtain ⟨⟨⟨⟨h1, h2⟩, h3⟩, h4⟩, h5⟩ := h
    obtain ⟨es, k, pos, rfl⟩ := isTupE_of h1
    have e := of_decide_eq_true h2
    subst e
    exact enum_ok (gl_of (by rw [A.hs]; exact h3)) (A.base.blt _ (by decide)) (okV_ok (.enum z) A _ h5) h4
  | .enum (.zip3 z z1 z2), X, C, y, Γ, Tk, A, tg, e, h => by
    simp only [okI] at h
    split at h <;> try (cases h; done)
    simp only [Bool.and_eq_true] at h
    obtain ⟨⟨⟨⟨h1, h2⟩, h3⟩, h4⟩, h5⟩ := h
    obtain ⟨es, k, pos, rfl⟩ := isTupE_of h1
    have e := of_decide_eq_true h2
    subst e
    exact enum_ok (gl_of (by rw [A.hs]; exact h3)) (A.base.blt _ (by decide)) (okV_ok (.zip3 z z1 z2) A _ h5) h4
  | .enum (.rev z), X, C, y, Γ, Tk, A, tg, e, h => by
    simp only [okI] at h
    split at h <;> try (cases h; done)
    simp only [Bool.and_eq_true] at h
    obtain ⟨⟨⟨⟨h1, h2⟩, h3⟩, h4⟩, h5⟩ := h
    obtain ⟨es, k, pos, rfl⟩ := isTupE_of h1
    have e := of_decide_eq_true h2
    subst e
    exact enum_ok (gl_of (by rw [A.hs]; exact h3)) (A.base.blt _ (by decide)) (okV_ok (.rev z) A _ h5) h4
  | .enum (.revT z), X, C, y, Γ, Tk, A, tg, e, h => by
    simp only [okI] at h
    split at h <;> try (cases h; done)
    simp only [Bool.and_eq_true] at h
    obtain ⟨⟨⟨⟨h1, h2⟩, h3⟩, h4⟩, h5⟩ := h
    obtain ⟨es, k, pos, rfl⟩ := isTupE_of h1
    have e := of_decide_eq_true h2
    subst e
    exact enum_ok (gl_of (by rw [A.hs]; exact h3)) (A.base.blt _ (by decide)) (okV_ok (.revT z) A _ h5) h4
  | .enum (.revR z), X, C, y, Γ, Tk, A, tg, e, h => by
    simp only [okI] at h
    split at h <;> try (cases h; done)
    simp only [Bool.and_eq_true] at h
    obtain ⟨⟨⟨⟨h1, h2⟩, h3⟩, h4⟩, h5⟩ := h
    obtain ⟨es, k, pos, rfl⟩ := isTupE_of h1
    have e := of_decide_eq_true h2
    subst e
    exact enum_ok (gl_of (by rw [A.hs]; exact h3)) (A.base.blt _ (by decide)) (okV_ok (.revR z) A _ h5) h4
  | .zip q (.zip m n), X, C, y, Γ, Tk, A, tg, e, h => by
    simp only [okI] at h
    split at h <;> try (cases h; done)
    simp only [Bool.and_eq_true] at h
    obtain ⟨⟨⟨⟨⟨⟨⟨⟨⟨⟨h1, h2⟩, h3⟩, h2'⟩, h3'⟩, h4'⟩, h4⟩, h5⟩, h5'⟩, h6⟩, h7⟩ := h
    obtain ⟨es, k, pos, rfl⟩ := isTupE_of h1
    have e := of_decide_eq_true h2
    subst e
    have e := of_decide_eq_true h2'
    subst e
    exact zipZ_ok (gl_of (by rw [A.hs]; exact h3)) (A.base.blt _ (by decide)) (okV_ok q A _ h5') h4' (okV_ok m A _ h6) h4 (okV_ok n A _ h7) h5
  | .zip m (.own z), X, C, y, Γ, Tk, A, tg, e, h => by
    simp only [okI] at h
    split at h <;> try (cases h; done)
    simp only [Bool.and_eq_true] at h
    obtain ⟨⟨⟨⟨⟨⟨h1, h2⟩, h3⟩, h4⟩, h5⟩, h6⟩, h7⟩ := h
    obtain ⟨es, k, pos, rfl⟩ := isTupE_of h1
    have e := of_decide_eq_true h2
    subst e
    exact zip_ok (gl_of (by rw [A.hs]; exact h3)) (A.base.blt _ (by decide)) (okV_ok m A _ h6) h4 (okV_ok (.own z) A _ h7) h5
  | .zip m (.take z), X, C, y, Γ, Tk, A, tg, e, h => by
    simp only [okI] at h
    split at h <;> try (cases h; done)
    simp only [Bool.and_eq_true] at h
    obtain ⟨⟨⟨⟨⟨⟨h1, h2⟩, h3⟩, h4⟩, h5⟩, h6⟩, h7⟩ := h
    obtain ⟨es, k, pos, rfl⟩ := isTupE_of h1
    have e := of_decide_eq_true h2
    subst e
    exact zip_ok (gl_of (by rw [A.hs]; exact h3)) (A.base.blt _ (by decide)) (okV_ok m A _ h6) h4 (okV_ok (.take z) A _ h7) h5
  | .zip m (.rng z), X, C, y, Γ, Tk, A, tg, e, h => by
    simp only [okI] at h
    split at h <;> try (cases h; done)
    simp only [Bool.and_eq_true] at h
    obtain ⟨⟨⟨⟨⟨⟨h1, h2⟩, h3⟩, h4⟩, h5⟩, h6⟩, h7⟩ := h
    obtain ⟨es, k, pos, rfl⟩ := isTupE_of h1
    have e := of_decide_eq_true h2
    subst e
    exact zip_ok (gl_of (by rw [A.hs]; exact h3)) (A.base.blt _ (by decide)) (okV_ok m A _ h6) h4 (okV_ok (.rng z) A _ h7) h5
  | .zip m (.enum z), X, C, y, Γ, Tk, A, tg, e, h => by
    simp only [okI] at h
    split at h <;> try (cases h; done)
    simp only [Bool.and_eq_true] at h
    obtain ⟨⟨⟨⟨⟨⟨h1, h2⟩, h3⟩, h4⟩, h5⟩, h6⟩, h7⟩ := h
    obtain ⟨es, k, pos, rfl⟩ := isTupE_of h1
    have e := of_decide_eq_true h2
    subst e
    exact zip_ok (gl_of (by rw [A.hs]; exact h3)) (A.base.blt _ (by decide)) (okV_ok m A _ h6) h4 (okV_ok (.enum z) A _ h7) h5
  | .zip m (.zip3 z z1 z2), X, C, y, Γ, Tk, A, tg, e, h => by
    simp only [okI] at h
    split at h <;> try (cases h; done)
    simp only [Bool.and_eq_true] at h
    obtain ⟨⟨⟨⟨⟨⟨h1, h2⟩, h3⟩, h4⟩, h5⟩, h6⟩, h7⟩ := h
    obtain ⟨es, k, pos, rfl⟩ := isTupE_of h1
    have e := of_decide_eq_true h2
    subst e
    exact zip_ok (gl_of (by rw [A.hs]; exact h3)) (A.base.blt _ (by decide)) (okV_ok m A _ h6) h4 (okV_ok (.zip3 z z1 z2) A _ h7) h5
  | .zip m (.rev z), X, C, y, Γ, Tk, A, tg, e, h => by
    simp only [okI] at h
    split at h <;> try (cases h; done)
    simp only [Bool.and_eq_true] at h
    obtain ⟨⟨⟨⟨⟨⟨h1, h2⟩, h3⟩, h4⟩, h5⟩, h6⟩, h7⟩ := h
    obtain ⟨es, k, pos, rfl⟩ := isTupE_of h1
    have e := of_decide_eq_true h2
    subst e
    exact zip_ok (gl_of (by rw [A.hs]; exact h3)) (A.base.blt _ (by decide)) (okV_ok m A _ h6) h4 (okV_ok (.rev z) A _ h7) h5
  | .zip m (.revT z), X, C, y, Γ, Tk, A, tg, e, h => by
    simp only [okI] at h
    split at h <;> try (cases h; done)
    simp only [Bool.and_eq_true] at h
    obtain ⟨⟨⟨⟨⟨⟨h1, h2⟩, h3⟩, h4⟩, h5⟩, h6⟩, h7⟩ := h
    obtain ⟨es, k, pos, rfl⟩ := isTupE_of h1
    have e := of_decide_eq_true h2
    subst e
    exact zip_ok (gl_of (by rw [A.hs]; exact h3)) (A.base.blt _ (by decide)) (okV_ok m A _ h6) h4 (okV_ok (.revT z) A _ h7) h5
  | .zip m (.revR z), X, C, y, Γ, Tk, A, tg, e, h => by
    simp only [okI] at h
    split at h <;> try (cases h; done)
    simp only [Bool.and_eq_true] at h
    obtain ⟨⟨⟨⟨⟨⟨h1, h2⟩, h3⟩, h4⟩, h5⟩, h6⟩, h7⟩ := h
    obtain ⟨es, k, pos, rfl⟩ := isTupE_of h1
    have e := of_decide_eq_true h2
    subst e
    exact zip_ok (gl_of (by rw [A.hs]; exact h3)) (A.base.blt _ (by decide)) (okV_ok m A _ h6) h4 (okV_ok (.revR z) A _ h7) h5
  | .zip3 m n q, X, C, y, Γ, Tk, A, tg, e, h => by
    simp only [okI] at h
    split at h <;> try (cases h; done)
    simp only [Bool.and_eq_true] at h
    obtain ⟨⟨⟨⟨⟨⟨⟨⟨h1, h2⟩, h3⟩, h4⟩, h5⟩, h5'⟩, h6⟩, h7⟩, h8⟩ := h
    obtain ⟨es, k, pos, rfl⟩ := isTupE_of h1
    have e := of_decide_eq_true h2
    subst e
    exact zip3_ok (gl_of (by rw [A.hs]; exact h3)) (A.base.blt _ (by decide)) (okV_ok m A _ h6) h4 (okV_ok n A _ h7) h5 (okV_ok q A _ h8) h5'
  | .rev a, X, C, y, Γ, Tk, A, tg, e, h => by
    simp only [okI] at h
    split at h <;> try (cases h; done)
    simp only [Bool.and_eq_true] at h
    obtain ⟨⟨⟨h2, h3⟩, h4⟩, h5⟩ := h
    have e := of_decide_eq_true h2
    subst e
    exact rev_ok (gl_of (by rw [A.hs]; exact h3)) (A.base.blt _ (by decide)) (okM_ok a A _ h5) h4
  | .revT i, X, C, y, Γ, Tk, A, tg, e, h => by
    simp only [okI] at h
    split at h <;> try (cases h; done)
    simp only [Bool.and_eq_true, List.contains_eq_mem, decide_eq_true_eq] at h
    obtain ⟨⟨⟨⟨h2, h3⟩, h4⟩, h5⟩, h6⟩ := h
    have e := of_decide_eq_true h2
    subst e
    have n := nmB_of A h4
    exact revT_ok (gl_of (by rw [A.hs]; exact h3)) (A.base.blt _ (by decide)) n.1 n.2.1 n.2.2 h5 h6
  | .revR a, X, C, y, Γ, Tk, A, tg, e, h => by
    simp only [okI] at h
    split at h <;> try (cases h; done)
    simp only [Bool.and_eq_true] at h
    obtain ⟨⟨⟨⟨⟨h2, h3⟩, h2'⟩, h3'⟩, h4⟩, h6⟩ := h
    have e := of_decide_eq_true h2
    subst e
    have e := of_decide_eq_true h2'
    subst e
    exact revR_ok (gl_of (by rw [A.hs]; exact h3)) (A.base.blt _ (by decide)) (gl_of (by rw [A.hs]; exact h3')) (A.base.blt _ (by decide)) (okM_ok a A _ h6) h4
theorem okV_ok : ∀ (it : MI) {X : Cx} {C : Cfg} {y : Sy} {Γ : Al} {Tk : List Nat} (A : At X C y) (e : Expr), okV y Γ Tk it e = true → SrcV X Γ Tk (evI C it) e
  | .own a, X, C, y, Γ, Tk, A, e, h => by
    simp only [okV] at h
    exact ownV_ok (okM_ok a A _ h)
  | .take i, X, C, y, Γ, Tk, A, e, h => by
    simp only [okV] at h
    split at h <;> try (cases h; done)
    simp only [Bool.and_eq_true, List.contains_eq_mem, decide_eq_true_eq] at h
    have n := nmB_of A h.1.1
    exact takeV_ok n.1 n.2.1 n.2.2 h.1.2 h.2
  | .rng _, X, C, y, Γ, Tk, A, e, h => by simp [okV] at h
  | .enum _, X, C, y, Γ, Tk, A, e, h => by simp [okV] at h
  | .zip _ _, X, C, y, Γ, Tk, A, e, h => by simp [okV] at h
  | .zip3 _ _ _, X, C, y, Γ, Tk, A, e, h => by simp [okV] at h
  | .rev _, X, C, y, Γ, Tk, A, e, h => by simp [okV] at h
  | .revT _, X, C, y, Γ, Tk, A, e, h => by simp [okV] at h
  | .revR _, X, C, y, Γ, Tk, A, e, h => by simp [okV] at h
end
end GN
end

section
set_option linter.all false
set_option maxRecDepth 100000
set_option maxHeartbeats 4000000
namespace GN
open PySem PySem.Spec PyProof.Rows L2
section
variable {K : PySem.W.Frag} {Γ : Al} {σ : L2.St} {Z Z1 : Addr → Prop} {H H1 : Hp} {g f : List Addr} {ρ ρ' : Env} {q : Nat × Nat × AK}
theorem Stb.weak (S : Stb K (q :: Γ) Z H ρ σ g) : Stb K Γ Z H ρ σ g := ⟨⟨S.sta.env, S.sta.ok, fun j i k m => S.sta.al j i k (List.mem_cons_of_mem _ m)⟩, fun j i k m => S.alv j i k (List.mem_cons_of_mem _ m)⟩
theorem Wish.weak {Kp : List Nat} {D : Ends} {fl : Fl} (w : Wish K Γ Kp Z H g σ D fl) : Wish K (q :: Γ) Kp Z H g σ D fl := by
  cases fl with
  | nx ρ' => exact fun σ' H1 Z1 g1 s S k => w σ' H1 Z1 g1 s S.weak k
  | bk ρ' => exact fun σ' H1 Z1 g1 s S k => w σ' H1 Z1 g1 s S.weak k
  | ct ρ' => exact fun σ' H1 Z1 g1 s S k => w σ' H1 Z1 g1 s S.weak k
  | rt d ρ' => exact fun v σ' H1 Z1 f g1 s o r S k => w v σ' H1 Z1 f g1 s o r S.weak k
end
section
variable {X : Cx} {C : Cfg} {Γ : Al} {Kp : List Nat}
/-- name j stands for item n of the list at name i, from here on -/
theorem ali_ok {i j n : Nat} {x z : Str} {ke : Expr} {px pz spos pos : Pos} {rest : List Stmt} {r : MSs} (hN : X.N[i]? = some x) (hv : visB X.env.scope x = true) (hn : nameB x = true) (hk : Atm X Γ (evA C (.cst (.int n))) ke) (hh : isHead ke = true)
    (hnd : X.N.Nodup) (hj : X.N[j]? = some z) (hl : L2.Loc X.env.scope z) (hf : X.fn z = true ∨ X.env.scope.names.lookup z = some .local) (hb : setB Γ Kp j = true) (hij : i ≠ j)
    (hr : PSs X rest (tS X.K ((j, i, .i n) :: Γ) Kp (exs C r))) : PSs X (.Assign [.Name z pz] (.Subscript (.Name x px) ke spos) pos :: rest) (tS X.K Γ Kp (exs C (.cons (.ali j i n) r))) := by
  have he := pe_ix (pos := spos) ix_list (visName (pos := px) hN hv hn) hk.1 (plainIx_of hh)
  refine PSs.imp (pss_cons (ps_asg (pos := pos) he (pg_name (pos := pz) hnd hj hl hf)) hr) fun D σ H ⟨Z, g, ρ, fl, S, e, w⟩ => ?_
  simp only [exs] at e
  obtain ⟨f1, e1, e2⟩ := Option.bind_eq_some_iff.mp e
  simp only [ex] at e1
  split at e1
  · rename_i o xs hg
    split at e1
    · cases e1
    · rename_i hc
      obtain ⟨d, e3, e4⟩ := Option.bind_eq_some_iff.mp e1
      cases e4
      have ho : o ≠ .ext := fun e => hc (.inl e)
      have hjl : j < ρ.length := Decidable.byContradiction fun e => hc (.inr e)
      obtain ⟨u, f', t1, t2, t3⟩ := S.sta.env.get hg
      obtain ⟨a, vs, f2, rfl, s, rl, hh⟩ := Bor.lst ⟨f', t2⟩
      obtain ⟨w0, f3, q1, q2, q3⟩ := rl.get e3
      refine ⟨.ref a, t1, tA_of S.sta rfl fun kv H1 Z1 F bk => ⟨a, vs, (n : Int), w0, rfl, bk.int, ?_, ?_, ?_⟩⟩
      · exact SqL.of (by rw [F.fr a (by rw [hh ho]; simp)]; exact hh ho)
      · have hl' := (List.getElem?_eq_some_iff.mp q1).1
        rw [atI_eq]
        unfold at_ ixAt
        rw [if_pos (by omega), if_pos (by omega)]
        simpa using q1
      · have S1 := S.fsh F
        obtain ⟨s1, o1⟩ := F.sp0 S.sta.ok
        obtain ⟨g1, r1, E1, p1⟩ := S1.sta.env.dropAll (own := [j])
        have E2 : EnvRel X.K Z1 H1 (put ρ j none) (σ.set j (some w0)) g1 := E1.other (by simp) fun i' hi' => by
          rw [List.getElem?_set_ne]
          intro e; subst e
          exact hi' (by simp [GN.wipe, get_put_none])
        have hb' := hb
        unfold setB at hb'
        simp only [Bool.and_eq_true, List.all_eq_true, bne_iff_ne, Bool.not_eq_true', List.contains_eq_mem, decide_eq_false_iff_not] at hb'
        obtain ⟨hΓ, hkp⟩ := hb'
        have s2 : Sp0 Z H g Z1 H1 g1 := s1.trans (Stp.drop (Sp0.refl.perm p1))
        have al : AlOk ((j, i, .i n) :: Γ) (σ.set j (some w0)) H1 := fun j' i' k m => by
          rcases List.mem_cons.mp m with m | m
          · cases m
            refine ⟨a, w0, by rw [List.getElem?_set_ne (fun e => hij e.symm)]; exact t1, by rw [List.getElem?_set_self (by rw [S.sta.env.len]; exact hjl)], vs, by rw [F.fr a (by rw [hh ho]; simp)]; exact hh ho, q1⟩
          · obtain ⟨a', v, u1, u2, u3⟩ := S1.sta.al j' i' k m
            have q := hΓ _ m
            exact ⟨a', v, by rw [List.getElem?_set_ne (fun e => q.2 e.symm)]; exact u1, by rw [List.getElem?_set_ne (fun e => q.1 e.symm)]; exact u2, u3⟩
        have S2 : Stb X.K ((j, i, .i n) :: Γ) Z1 H1 (put ρ j none) (σ.set j (some w0)) g1 := ⟨⟨E2, (S1.sta.ok.perm p1).right, al⟩, fun j' i' k m => by
          rcases List.mem_cons.mp m with m | m
          · cases m
            exact ⟨.lst o xs, by rw [get_put_ne (fun e => hij e.symm)]; exact hg, ho⟩
          · obtain ⟨dc, u1, u2⟩ := S1.alv j' i' k m
            have q := hΓ _ m
            exact ⟨dc, by rw [get_put_ne (fun e => q.2 e.symm)]; exact u1, u2⟩⟩
        refine ⟨Z1, g1, put ρ j none, fl, S2, e2, Wish.weak (w.step s2 fun i' m => ?_)⟩
        rw [List.getElem?_set_ne]
        intro e; subst e; exact hkp m
  · cases e1
/-- name j stands for the item at key l of the dict at name i, from here on -/
theorem alk_ok (hu : X.A.units + 64 < cLine) {i j : Nat} {l : List Nat} {x z : Str} {ke : Expr} {px pz spos pos : Pos} {rest : List Stmt} {r : MSs} (hN : X.N[i]? = some x) (hv : visB X.env.scope x = true) (hn : nameB x = true) (hk : Atm X Γ (evA C (.cst (.str l))) ke) (hh : isHead ke = true)
    (hnd : X.N.Nodup) (hj : X.N[j]? = some z) (hl : L2.Loc X.env.scope z) (hf : X.fn z = true ∨ X.env.scope.names.lookup z = some .local) (hb : setB Γ Kp j = true) (hij : i ≠ j)
    (hr : PSs X rest (tS X.K ((j, i, .s (toS l)) :: Γ) Kp (exs C r))) : PSs X (.Assign [.Name z pz] (.Subscript (.Name x px) ke spos) pos :: rest) (tS X.K Γ Kp (exs C (.cons (.alk j i l) r))) := by
  have he := pe_ix (pos := spos) (ix_dct hu) (visName (pos := px) hN hv hn) hk.1 (plainIx_of hh)
  refine PSs.imp (pss_cons (ps_asg (pos := pos) he (pg_name (pos := pz) hnd hj hl hf)) hr) fun D σ H ⟨Z, g, ρ, fl, S, e, w⟩ => ?_
  simp only [exs] at e
  obtain ⟨f1, e1, e2⟩ := Option.bind_eq_some_iff.mp e
  simp only [ex] at e1
  split at e1
  · rename_i o ks xs hg
    split at e1
    · cases e1
    · rename_i hc
      obtain ⟨d, e3, e4⟩ := Option.bind_eq_some_iff.mp e1
      cases e4
      have ho : o ≠ .ext := fun e => hc (.inl e)
      have hjl : j < ρ.length := Decidable.byContradiction fun e => hc (.inr e)
      obtain ⟨u, f', t1, t2, t3⟩ := S.sta.env.get hg
      obtain ⟨n, e5, e6⟩ := Option.bind_eq_some_iff.mp e3
      obtain ⟨a, kvs, f2, rfl, hH, hky, rl⟩ : ∃ a kvs f2, u = .ref a ∧ H a = some (.dK kvs) ∧ kyOk ks (kvs.map (·.1)) ∧ RelL X.K Z H xs (kvs.map (·.2)) f2 := by
        cases o with
        | own => obtain ⟨b, kvs, f0, eb, h1, h2, _, h3⟩ := t2; exact ⟨b, kvs, f0, eb, h1, h2, h3⟩
        | shr => obtain ⟨b, kvs, eb, h1, _, h2, h3, _⟩ := t2; exact ⟨b, kvs, [], eb, h1, h2, h3⟩
        | ext => exact absurd rfl ho
      obtain ⟨w0, q1, q4⟩ := kAt_val hky e5
      have hF : ∀ {H1 Z1}, Fsh Z H Z1 H1 [] → H1 a = some (.dK kvs) := fun F => by rw [F.fr a (by rw [hH]; simp)]; exact hH
      refine ⟨.ref a, t1, tA_of S.sta rfl fun kv H1 Z1 F bk => ⟨a, w0, rfl, ?_, ?_⟩⟩
      · have e1 : kv = kV (kxK (.s l)) := bk.str
        rw [e1, ← q4]
        exact DGet.k (hF F)
      · have S1 := S.fsh F
        obtain ⟨s1, o1⟩ := F.sp0 S.sta.ok
        obtain ⟨g1, r1, E1, p1⟩ := S1.sta.env.dropAll (own := [j])
        have E2 : EnvRel X.K Z1 H1 (put ρ j none) (σ.set j (some w0)) g1 := E1.other (by simp) fun i' hi' => by
          rw [List.getElem?_set_ne]
          intro e; subst e
          exact hi' (by simp [GN.wipe, get_put_none])
        have hb' := hb
        unfold setB at hb'
        simp only [Bool.and_eq_true, List.all_eq_true, bne_iff_ne, Bool.not_eq_true', List.contains_eq_mem, decide_eq_false_iff_not] at hb'
        obtain ⟨hΓ, hkp⟩ := hb'
        have s2 : Sp0 Z H g Z1 H1 g1 := s1.trans (Stp.drop (Sp0.refl.perm p1))
        have al : AlOk ((j, i, .s (toS l)) :: Γ) (σ.set j (some w0)) H1 := fun j' i' k m => by
          rcases List.mem_cons.mp m with m | m
          · cases m
            refine ⟨a, w0, by rw [List.getElem?_set_ne (fun e => hij e.symm)]; exact t1, by rw [List.getElem?_set_self (by rw [S.sta.env.len]; exact hjl)], kvs, hF F, q4⟩
          · obtain ⟨a', v, u1, u2, u3⟩ := S1.sta.al j' i' k m
            have q := hΓ _ m
            exact ⟨a', v, by rw [List.getElem?_set_ne (fun e => q.2 e.symm)]; exact u1, by rw [List.getElem?_set_ne (fun e => q.1 e.symm)]; exact u2, u3⟩
        have S2 : Stb X.K ((j, i, .s (toS l)) :: Γ) Z1 H1 (put ρ j none) (σ.set j (some w0)) g1 := ⟨⟨E2, (S1.sta.ok.perm p1).right, al⟩, fun j' i' k m => by
          rcases List.mem_cons.mp m with m | m
          · cases m
            exact ⟨.dct o ks xs, by rw [get_put_ne (fun e => hij e.symm)]; exact hg, ho⟩
          · obtain ⟨dc, u1, u2⟩ := S1.alv j' i' k m
            have q := hΓ _ m
            exact ⟨dc, by rw [get_put_ne (fun e => q.2 e.symm)]; exact u1, u2⟩⟩
        refine ⟨Z1, g1, put ρ j none, fl, S2, e2, Wish.weak (w.step s2 fun i' m => ?_)⟩
        rw [List.getElem?_set_ne]
        intro e; subst e; exact hkp m
  · cases e1
end
end GN
end

section
set_option linter.all false
set_option maxRecDepth 100000
set_option maxHeartbeats 4000000
namespace GN
open PySem PySem.Spec PyProof.Rows L2
/-- [..] stored in its own frame: name = [..] on one line, the name a local -/
def swB (y : Sy) (x : Str) (py pos : Pos) (scope : Scope) : Bool := decide (y.sc.names.lookup x = some .local) && (py.line == pos.line) && !(scope.names.any fun (n, k) => n == x && (k == .local || k == .cell))
def swOk (y : Sy) (tg e : Expr) : Bool := noLc e || (match tg, e with
  | .Name x py, .ListComp _ _ scope pos => !swB y x py pos scope
  | .Tuple .., .ListComp .. => true
  | .Subscript .., .ListComp .. => true
  | _, _ => false)
def noPar (tg e : Expr) : Bool := match tg, e with
  | .Tuple .., .Tuple .. => false
  | .List .., _ => false
  | _, _ => true
def isDoc : Stmt → Bool
  | .Expr (.Constant (.str _) _ _) _ => true
  | .Pass _ => true
  | _ => false
def isName : Expr → Bool
  | .Name .. => true
  | .Tuple .. => true
  | _ => false
def aliOf : MS → Option (Nat × Nat × Nat)
  | .ali j i n => some (j, i, n)
  | _ => none
theorem aliOf_of {s : MS} {j i n : Nat} (h : aliOf s = some (j, i, n)) : s = .ali j i n := by
  cases s <;> simp [aliOf] at h
  obtain ⟨rfl, rfl, rfl⟩ := h; rfl
def alkOf : MS → Option (Nat × Nat × List Nat)
  | .alk j i n => some (j, i, n)
  | _ => none
theorem alkOf_of {s : MS} {j i : Nat} {n : List Nat} (h : alkOf s = some (j, i, n)) : s = .alk j i n := by
  cases s <;> simp [alkOf] at h
  obtain ⟨rfl, rfl, rfl⟩ := h; rfl
def okAlk (y : Sy) (Γ : Al) (Kp : List Nat) (j i : Nat) (l : List Nat) : Stmt → Bool
  | .Assign [.Name z _] (.Subscript (.Name x _) ke _) _ => decide (y.N[j]? = some z) && locB y z && setB Γ Kp j && i != j && nmB y i x && isHead ke && okA y.sc y.N y.G Γ (.cst (.str l)) ke
  | _ => false
/-- a dict may be set at k: no name stands for its items but for others -/
def strOfS (x : Str) : List Nat := x.cps.toList
def freeK (Γ : Al) (i : Nat) (k : MA) : Bool := freeB Γ i || (match k with
  | .cst (.str l) => Γ.all fun q => q.2.1 != i || (match q.2.2 with
    | .s x => strOfS x != l
    | .i _ => false)
  | _ => false)
theorem freeK_of {Γ : Al} {i : Nat} {k : MA} (h : freeK Γ i k = true) : ∀ j k', (j, i, k') ∈ Γ → ∃ l l', k = .cst (.str l) ∧ k' = .s (toS l') ∧ l ≠ l' := by
  intro j k' m
  unfold freeK at h
  rcases Bool.or_eq_true_iff.mp h with h1 | h1
  · exact absurd rfl (freeB_ne h1 m)
  · clear h
    split at h1
    · rename_i l
      have h := h1
      have := List.all_eq_true.mp h _ m
      simp only [bne_self_eq_false, Bool.false_or] at this
      cases k' with
      | i n => cases this
      | s x =>
        refine ⟨l, strOfS x, rfl, by cases x; simp [strOfS, toS], fun e => ?_⟩
        simp [e] at this
    · cases h1
def okAli (y : Sy) (Γ : Al) (Kp : List Nat) (j i n : Nat) : Stmt → Bool
  | .Assign [.Name z _] (.Subscript (.Name x _) ke _) _ => decide (y.N[j]? = some z) && locB y z && setB Γ Kp j && i != j && nmB y i x && isHead ke && okA y.sc y.N y.G Γ (.cst (.int n)) ke
  | _ => false
/-- a list may be set at k: no name stands for its items but for others -/
def freeS (Γ : Al) : MP → ME → Bool
  | .v i, .at_ (.cst (.int (.ofNat m))) => Γ.all fun q => q.2.1 != i || (match q.2.2 with
    | .i n => n != m
    | .s _ => false)
  | _, _ => false
theorem freeS_of {Γ : Al} {p : MP} {k : MA} (h : (freeP Γ p || freeS Γ p (.at_ k)) = true) : ∀ i, p = .v i → freeB Γ i = true ∨ ∃ m : Nat, k = .cst (.int m) ∧ ∀ j' k', (j', i, k') ∈ Γ → ∃ n : Nat, k' = .i n ∧ n ≠ m := by
  intro i hp
  subst hp
  rcases Bool.or_eq_true_iff.mp h with h1 | h1
  · exact .inl h1
  · right
    clear h
    generalize hq : freeS Γ (.v i) (.at_ k) = b at h1
    unfold freeS at hq
    split at hq
    · rename_i i' m e1 e2
      cases e1; cases e2
      rw [h1] at hq
      refine ⟨m, rfl, fun j' k' hm => ?_⟩
      have := List.all_eq_true.mp hq _ hm
      simp only [bne_self_eq_false, Bool.false_or] at this
      cases k' with
      | i n => exact ⟨n, rfl, by simpa using this⟩
      | s l => cases this
    · rw [h1] at hq; cases hq
mutual
def okS (y : Sy) (Γ : Al) (Kp : List Nat) : MS → Stmt → Bool
  | .asg t e, st => match st with
    | .Assign [tg] v pos => isName tg && noPar tg v && (if swOk y tg v then okM y Γ e v && okT y Γ Kp t tg else match t, e, tg, v with
        | .v i, .comp own t it c el, .Name x py, .ListComp elt [⟨ctg, iter, ifs, 0⟩] scope lpos =>
            decide (y.N[i]? = some x) && setB Γ Kp i && swB y x py lpos scope && okM y Γ (.comp own t it c el) (.ListComp elt [⟨ctg, iter, ifs, 0⟩] scope lpos)
        | _, _, _, _ => false)
    | _ => false
  | .setI p k e, st => match st with
    | .Assign [.Subscript o ke spos] v pos => noLc v && isHead ke && okM y Γ e v && okP y Γ p o && (match k with
        | .at_ a => (freeP Γ p || freeS Γ p k) && okA y.sc y.N y.G Γ a ke
        | _ => match p with
          | .v _ => freeP Γ p && okM y Γ k ke
          | _ => false)
    | _ => false
  | .setD i k e, st => match st with
    | .Assign [.Subscript o ke spos] v pos => noLc v && isHead ke && okM y Γ e v && (match o with
        | .Name x _ => nmB y i x
        | _ => false) && okA y.sc y.N y.G Γ k ke && freeK Γ i k
    | _ => false
  | .setE i k e, st => match st with
    | .Assign [.Subscript o ke spos] v pos => noLc v && isHead ke && okM y Γ e v && (match o with
        | .Name x _ => nmB y i x
        | _ => false) && okM y Γ k ke && freeB Γ i
    | _ => false
  | .app p e, st => match st with
    | .Expr (.Call (.Attribute o m apos) [a] [] cpos) pos => strIs m "append" && ownBase o && okP y Γ p o && freeP Γ p && (apos.endLine == cpos.line) && nstar a && (match p, e with
        | .v _, e => okM y Γ e a
        | .s _ _, .at_ b => okA y.sc y.N y.G Γ b a
        | _, _ => false)
    | _ => false
  | .ext p e, st => match st with
    | .Expr (.Call (.Attribute o m apos) [a] [] cpos) pos => strIs m "extend" && ownBase o && okP y Γ p o && freeP Γ p && (apos.endLine == cpos.line) && nstar a && (match p with
        | .v _ => okM y Γ e a
        | _ => false)
    | _ => false
  | .ins p k e, st => match st with
    | .Expr (.Call (.Attribute o m apos) [ke, a] [] cpos) pos => strIs m "insert" && ownBase o && okP y Γ p o && freeP Γ p && (apos.endLine == cpos.line) && nstar ke && nstar a && (match k, e with
        | .at_ k, .at_ b => okA y.sc y.N y.G Γ k ke && okA y.sc y.N y.G Γ b a
        | k, e => match p with
          | .v _ => okM y Γ k ke && okM y Γ e a
          | _ => false)
    | _ => false
  | .expr e, st => match st with
    | .Expr v _ => noLc v && okM y Γ e v
    | _ => false
  | .ife c a b, st => match st with
    | .If e p q _ => notIf e && okM y Γ c e && okSs y Γ Kp a p && okSs y Γ Kp b q
    | _ => false
  | .for_ t it b, st => match st with
    | .For tg e body [] _ => noSetE e && ((takes it).all fun i => freeB Γ i) && okI y Γ (takes it) it tg e && okT y Γ (takes it ++ Kp) t tg && okSs y Γ (takes it ++ Kp) b body
    | _ => false
  | .while_ c b, st => match st with
    | .While e body [] _ => notIf e && okM y Γ c e && okSs y Γ Kp b body
    | _ => false
  | .ret e, st => match st with
    | .Return (some v) _ => okM y Γ e v
    | _ => false
  | .retN, st => match st with
    | .Return none _ => true
    | _ => false
  | .brk, st => match st with
    | .Break _ => true
    | _ => false
  | .cont, st => match st with
    | .Continue _ => true
    | _ => false
  | .pass, st => isDoc st
  | .never, _ => true
  | .sda i k j, st => match st with
    | .Expr (.Call (.Attribute (.Call (.Attribute (.Name x _) m1 apos) [ke, .List [] _] [] cpos) m2 apos2) [.Name z _] [] cpos2) _ => strIs m1 "setdefault" && strIs m2 "append" && nmB y i x && nmB y j z && okA y.sc y.N y.G Γ k ke && nstar ke && i != j && freeB Γ i && (apos.endLine == cpos.line) && (apos2.endLine == cpos2.line)
    | _ => false
  | .ali _ _ _, _ => false
  | .alk _ _ _, _ => false
def okSs (y : Sy) (Γ : Al) (Kp : List Nat) : MSs → List Stmt → Bool
  | .nil, sts => sts.isEmpty
  | .cons s r, sts => match sts with
    | st :: rest => match aliOf s with
      | some (j, i, n) => okAli y Γ Kp j i n st && okSs y ((j, i, .i n) :: Γ) Kp r rest
      | none => match alkOf s with
        | some (j, i, l) => okAlk y Γ Kp j i l st && okSs y ((j, i, .s (toS l)) :: Γ) Kp r rest
        | none => okS y Γ Kp s st && okSs y Γ Kp r rest
    | [] => false
end
section
variable {X : Cx} {C : Cfg} {y : Sy} {Γ : Al} {Kp : List Nat}
theorem swaps_of (A : At X C y) {tg e : Expr} {n : Nat} (h : swOk y tg e = true) : swapsWithSole [tg] e n X.env = pure false := by
  show swapsWith e (some tg) n X.env = pure false
  unfold swOk at h
  rcases Bool.or_eq_true_iff.mp h with h | h
  · exact swaps_none h _ _ _
  · split at h
    · rename_i x py elt gs scope pos _
      simp only [Bool.not_eq_true'] at h
      have hk : (X.env.blockKind == .function) = true := by unfold Env.blockKind; rw [A.kd]; rfl
      have hko : X.env.kindOf x = y.sc.names.lookup x := by unfold Env.kindOf; rw [A.hs]
      have hdec : (X.env.kindOf x == some NameKind.local) = decide (y.sc.names.lookup x = some .local) := by
        rw [hko]
        cases q : y.sc.names.lookup x with
        | none => rfl
        | some k => cases k <;> rfl
      show (pure (X.env.blockKind == .function && X.env.kindOf x == some .local && py.line == pos.line && !(scope.names.any fun (n, k) => n == x && (k == .local || k == .cell))) : Sem Bool) = pure false
      rw [hk, hdec, Bool.true_and]
      exact congrArg pure h
    · rfl
    · rfl
    · cases h
theorem sole_none {tg e : Expr} {n : Nat} {env : PySem.Env} (h : noLc e = true) : swapsWithSole [tg] e n env = pure false := swaps_none h (some tg) n env
theorem par_of {tg e : Expr} {env : PySem.Env} (h : noPar tg e = true) : swappedStores [tg] e env = pure none := by
  cases tg <;> first | rfl | (cases e <;> first | rfl | cases h)
theorem swB_of (A : At X C y) {elt : Expr} {gs : List Comprehension} {x : Str} {py pos : Pos} {scope : Scope} {n : Nat} (h : swB y x py pos scope = true) : X.env.scope.names.lookup x = some .local ∧ swapsWith (.ListComp elt gs scope pos) (some (.Name x py)) n X.env = pure true := by
  unfold swB at h
  simp only [Bool.and_eq_true, decide_eq_true_eq, Bool.not_eq_true'] at h
  have hl : X.env.scope.names.lookup x = some .local := by rw [A.hs]; exact h.1.1
  exact ⟨hl, sw_true A.kd hl h.1.2 h.2⟩
theorem one_store {tg : Expr} {env : PySem.Env} (h : isName tg = true) : (assignEach [tg] env).map (·.2) = [assign tg env] := by
  cases tg <;> first | rfl | cases h
theorem isDoc_ok {st : Stmt} (h : isDoc st = true) : PS X st (tS X.K Γ Kp (ex C .pass)) := by
  unfold isDoc at h
  split at h
  · exact PS.imp ps_doc fun D σ H ⟨Z, g, ρ, fl, S, e, w⟩ => by
      simp only [ex] at e
      cases e
      exact w σ H Z g Sp0.refl S Kep.refl
  · exact pass_ok
  · cases h
theorem subs_assign {o ke : Expr} {spos : Pos} (h : isHead ke = true) (v : Value) : assign (.Subscript o ke spos) X.env v = (do
      let ov ← holding [v] (eval o X.env)
      let iv ← holding [v, ov] (eval ke X.env)
      standAt spos
      holding [v, ov, iv] (setItem ov iv v)
      release [v, ov, iv] []) := by
  cases ke <;> first | rfl | cases h
mutual
theorem okS_ok (A : At X C y) : ∀ (s : MS) (Γ : Al) (Kp : List Nat) (st : Stmt), okS y Γ Kp s st = true → PS X st (tS X.K Γ Kp (ex C s))
  | .asg t e, Γ, Kp, st, h => by
    simp only [okS] at h
    split at h <;> try (cases h; done)
    rename_i tg v pos
    simp only [Bool.and_eq_true] at h
    obtain ⟨⟨h1, h2⟩, h3⟩ := h
    split at h3
    · rename_i hs
      simp only [Bool.and_eq_true] at h3
      exact asg_ok (okM_ok e A _ h3.1) (okT_ok A t _ h3.2) (swaps_of A hs) (par_of h2) (one_store h1)
    · split at h3 <;> try (cases h3; done)
      rename_i i own t it c el x py elt ctg iter ifs scope lpos hns
      simp only [Bool.and_eq_true, decide_eq_true_eq] at h3
      obtain ⟨⟨⟨e1, e2⟩, e3⟩, e4⟩ := h3
      have sw := swB_of (elt := elt) (gs := [⟨ctg, iter, ifs, 0⟩]) (n := pos.line) A e3
      simp only [okM] at e4
      simp only [Bool.and_eq_true, List.all_eq_true, Bool.not_eq_true', List.contains_eq_mem, decide_eq_false_iff_not] at e4
      obtain ⟨⟨⟨⟨⟨⟨⟨h1, h2⟩, h3⟩, h4⟩, h5⟩, h6⟩, h7⟩, h8⟩ := e4
      have bo := blkOk_by h1
      refine setLc_ok A.base ⟨by rw [A.hN, A.hs]; exact bo, h2, h3, h4, okI_ok it A _ _ h5, fun s H Ca cl fp => ?_, fun s H Ca cl fp => ?_, fun s H Ca cl fp => ?_⟩ (by rw [A.hN]; exact e1) sw.1 e2 sw.2
      · rw [A.hN]
        exact okT_ok (A.blk scope bo.kind s H Ca cl fp) _ _ h6
      · split at h7 <;> try (cases h7; done)
        · rw [isTrueM_of h7]; exact pts_true rfl
        · simp only [Bool.and_eq_true] at h7
          exact pts_one ((okM_ok c (A.blk scope bo.kind s H Ca cl fp) _ h7.2).2.1 h7.1)
      · exact (okM_ok el (A.blk scope bo.kind s H Ca cl fp) _ h8).1
  | .setI p k e, Γ, Kp, st, h => by
    simp only [okS] at h
    split at h <;> try (cases h; done)
    simp only [Bool.and_eq_true] at h
    obtain ⟨⟨⟨⟨h1, h2⟩, h3⟩, h4⟩, h6⟩ := h
    split at h6
    · simp only [Bool.and_eq_true] at h6
      exact setI_ok (okM_ok e A _ h3) (okP_ok A h4) (okA_ok A h6.2) (freeS_of h6.1) (fun v => subs_assign h2 v) (sole_none h1) (par_of rfl) rfl
    · split at h6 <;> try (cases h6; done)
      simp only [Bool.and_eq_true] at h6
      exact setI_v (okM_ok e A _ h3) (okP_ok A h4) (okM_ok _ A _ h6.2) h6.1 (fun v => subs_assign h2 v) (sole_none h1) (par_of rfl) rfl
  | .setD i k e, Γ, Kp, st, h => by
    simp only [okS] at h
    split at h <;> try (cases h; done)
    simp only [Bool.and_eq_true] at h
    obtain ⟨⟨⟨⟨⟨h1, h2⟩, h3⟩, h4⟩, h5⟩, h6⟩ := h
    split at h4 <;> try (cases h4; done)
    have n := nmB_of A h4
    exact setD_ok A.base.un (okM_ok e A _ h3) (dc_v n.1 n.2.1 n.2.2) (okA_ok A h5) (freeK_of h6) (fun v => subs_assign h2 v) (sole_none h1) (par_of rfl) rfl
  | .setE i k e, Γ, Kp, st, h => by
    simp only [okS] at h
    split at h <;> try (cases h; done)
    simp only [Bool.and_eq_true] at h
    obtain ⟨⟨⟨⟨⟨h1, h2⟩, h3⟩, h4⟩, h5⟩, h6⟩ := h
    split at h4 <;> try (cases h4; done)
    have n := nmB_of A h4
    exact setE_ok A.base.un (okM_ok e A _ h3) (visName n.1 n.2.1 n.2.2) (okM_ok k A _ h5) h6 (fun v => subs_assign h2 v) (sole_none h1) (par_of rfl) rfl
  | .app p e, Γ, Kp, st, h => by
    simp only [okS] at h
    split at h <;> try (cases h; done)
    simp only [Bool.and_eq_true] at h
    obtain ⟨⟨⟨⟨⟨⟨h1, h2⟩, h3⟩, h4⟩, h5⟩, h6⟩, h7⟩ := h
    have em := of_decide_eq_true h1
    subst em
    split at h7 <;> try (cases h7; done)
    · exact app_v (okP_ok A h3) h2 (okM_ok e A _ h7) h6 h4 h5
    · exact app_s (okP_ok A h3) h2 (okA_ok A h7) h6 h5
  | .ext p e, Γ, Kp, st, h => by
    simp only [okS] at h
    split at h <;> try (cases h; done)
    simp only [Bool.and_eq_true] at h
    obtain ⟨⟨⟨⟨⟨⟨h1, h2⟩, h3⟩, h4⟩, h5⟩, h6⟩, h7⟩ := h
    have em := of_decide_eq_true h1
    subst em
    split at h7 <;> try (cases h7; done)
    exact ext_v (okP_ok A h3) h2 (okM_ok e A _ h7) h6 h4 h5
  | .ins p k e, Γ, Kp, st, h => by
    simp only [okS] at h
    split at h <;> try (cases h; done)
    simp only [Bool.and_eq_true] at h
    obtain ⟨⟨⟨⟨⟨⟨⟨h1, h2⟩, h3⟩, h4⟩, h5⟩, h6⟩, h7⟩, h8⟩ := h
    have em := of_decide_eq_true h1
    subst em
    split at h8
    · simp only [Bool.and_eq_true] at h8
      exact ins_ok (okP_ok A h3) h2 (freeP_of h4) (okA_ok A h8.1) h6 (okA_ok A h8.2) h7 h5
    · split at h8 <;> try (cases h8; done)
      simp only [Bool.and_eq_true] at h8
      exact ins_v (okP_ok A h3) h2 h4 (okM_ok _ A _ h8.1) h6 (okM_ok _ A _ h8.2) h7 h5
  | .expr e, Γ, Kp, st, h => by
    simp only [okS] at h
    split at h <;> try (cases h; done)
    simp only [Bool.and_eq_true] at h
    exact expr_ok (okM_ok e A _ h.2) h.1
  | .ife c a b, Γ, Kp, st, h => by
    simp only [okS] at h
    split at h <;> try (cases h; done)
    simp only [Bool.and_eq_true] at h
    exact ife_ok (okM_ok c A _ h.1.1.2) h.1.1.1 (okSs_ok A a Γ Kp _ h.1.2) (okSs_ok A b Γ Kp _ h.2)
  | .for_ t it b, Γ, Kp, st, h => by
    simp only [okS] at h
    split at h <;> try (cases h; done)
    simp only [Bool.and_eq_true, List.all_eq_true] at h
    obtain ⟨⟨⟨⟨h1, h2⟩, h3⟩, h4⟩, h5⟩ := h
    exact for_ok A.pass A.base.calm (okI_ok it A _ _ h3) h2 (okT_ok A t _ h4) (okSs_ok A b Γ _ _ h5) (folded_ok h1 _)
  | .while_ c b, Γ, Kp, st, h => by
    simp only [okS] at h
    split at h <;> try (cases h; done)
    simp only [Bool.and_eq_true] at h
    exact while_ok A.pass (okM_ok c A _ h.1.2) h.1.1 (okSs_ok A b Γ Kp _ h.2)
  | .ret e, Γ, Kp, st, h => by
    simp only [okS] at h
    split at h <;> try (cases h; done)
    exact ret_ok (okM_ok e A _ h)
  | .retN, Γ, Kp, st, h => by
    simp only [okS] at h
    split at h <;> try (cases h; done)
    exact retN_ok
  | .brk, Γ, Kp, st, h => by
    simp only [okS] at h
    split at h <;> try (cases h; done)
    exact brk_ok
  | .cont, Γ, Kp, st, h => by
    simp only [okS] at h
    split at h <;> try (cases h; done)
    exact cont_ok
  | .pass, Γ, Kp, st, h => by
    simp only [okS] at h
    exact isDoc_ok h
  | .never, Γ, Kp, st, h => never_ok
  | .sda i k j, Γ, Kp, st, h => by
    simp only [okS] at h
    split at h <;> try (cases h; done)
    simp only [Bool.and_eq_true, bne_iff_ne] at h
    obtain ⟨⟨⟨⟨⟨⟨⟨⟨⟨h1, h2⟩, h3⟩, h4⟩, h5⟩, h6⟩, h7⟩, h8⟩, h9⟩, h10⟩ := h
    have e1 := of_decide_eq_true h1
    have e2 := of_decide_eq_true h2
    subst e1 e2
    have n := nmB_of A h3
    have n2 := nmB_of A h4
    exact sda_ok n.1 n.2.1 n.2.2 n2.1 n2.2.1 n2.2.2 (okA_ok A h5) h6 h7 h8 h9 h10
  | .ali _ _ _, Γ, Kp, st, h => by simp [okS] at h
  | .alk _ _ _, Γ, Kp, st, h => by simp [okS] at h
theorem okSs_ok (A : At X C y) : ∀ (s : MSs) (Γ : Al) (Kp : List Nat) (sts : List Stmt), okSs y Γ Kp s sts = true → PSs X sts (tS X.K Γ Kp (exs C s))
  | .nil, Γ, Kp, sts, h => by
    simp only [okSs, List.isEmpty_iff] at h
    subst h; exact exs_nil
  | .cons s r, Γ, Kp, sts, h => by
    simp only [okSs] at h
    split at h <;> try (cases h; done)
    rename_i st rest
    split at h
    · rename_i j i n ha
      rw [aliOf_of ha]
      simp only [Bool.and_eq_true] at h
      obtain ⟨h1, h2⟩ := h
      unfold okAli at h1
      split at h1 <;> try (cases h1; done)
      simp only [Bool.and_eq_true, decide_eq_true_eq, bne_iff_ne] at h1
      obtain ⟨⟨⟨⟨⟨⟨e1, e2⟩, e3⟩, e4⟩, e5⟩, e6⟩, e7⟩ := h1
      have n := nmB_of A e5
      have l := locB_of A e2
      exact ali_ok n.1 n.2.1 n.2.2 (okA_ok A e7) e6 A.base.nd (by rw [A.hN]; exact e1) l.1 l.2 e3 e4 (okSs_ok A r _ Kp _ h2)
    · split at h
      · rename_i j i l ha
        rw [alkOf_of ha]
        simp only [Bool.and_eq_true] at h
        obtain ⟨h1, h2⟩ := h
        unfold okAlk at h1
        split at h1 <;> try (cases h1; done)
        simp only [Bool.and_eq_true, decide_eq_true_eq, bne_iff_ne] at h1
        obtain ⟨⟨⟨⟨⟨⟨e1, e2⟩, e3⟩, e4⟩, e5⟩, e6⟩, e7⟩ := h1
        have n := nmB_of A e5
        have l := locB_of A e2
        exact alk_ok A.base.un n.1 n.2.1 n.2.2 (okA_ok A e7) e6 A.base.nd (by rw [A.hN]; exact e1) l.1 l.2 e3 e4 (okSs_ok A r _ Kp _ h2)
      · simp only [Bool.and_eq_true] at h
        exact exs_cons (okS_ok A s Γ Kp _ h.1) (okSs_ok A r Γ Kp _ h.2)
end
end
end GN
end

section
set_option linter.all false
set_option maxRecDepth 100000
set_option maxHeartbeats 4000000
namespace GN
open PySem PySem.Spec PyProof.Rows L2
/-- a def of the text with what ML says of it -/
structure Df where
  x : Str
  N : List Str
  st : Stmt
  m : Dm
def Df.ps (d : Df) : List Str := d.N.take d.m.np
def Df.kp (d : Df) : List Nat := (List.range d.m.np).filter fun i => !d.m.asg.contains i
def fsOf (ds : List Df) : List (Str × Nat) := ds.map fun d => (d.x, d.m.np)
def okD (G : List Str) (F : List (Str × Nat)) (d : Df) : Bool :=
  C8.scC d.N d.ps (C8.fnScope d.st) && decide (d.N.length = d.m.nn) && decide (d.m.np ≤ d.m.nn) && okSs ⟨C8.fnScope d.st, d.N, G, F, fun _ => true⟩ [] d.kp d.m.body (C8.fnBody d.st)
section
variable {K : PySem.W.Frag} {Z : Addr → Prop} {H : Hp}
theorem relL_env : ∀ {ds : List D} {vs : List V} {g : List Addr} {n : Nat}, RelL K Z H ds vs g → EnvRel K Z H (ds.map some ++ List.replicate n none) (vs.map some ++ List.replicate n none) g
  | [], vs, g, n, h => by
    obtain ⟨rfl, rfl⟩ := h
    induction n with
    | zero => exact ⟨rfl, rfl⟩
    | succ n ih => exact ⟨none, _, rfl, ih⟩
  | d :: ds, vs, g, n, h => by
    obtain ⟨v, r, f1, f2, rfl, rfl, h1, h2⟩ := h
    exact ⟨v, _, f1, f2, rfl, rfl, h1, relL_env h2⟩
theorem EnvRel.takeN : ∀ {ρ : Env} {σ : L2.St} {g : List Addr} (n : Nat), EnvRel K Z H ρ σ g → ∃ g1 g2, g = g1 ++ g2 ∧ EnvRel K Z H (ρ.take n) (σ.take n) g1
  | ρ, σ, g, 0, _ => ⟨[], g, rfl, rfl, rfl⟩
  | [], σ, g, n + 1, h => by
    obtain ⟨rfl, rfl⟩ := h
    exact ⟨[], [], rfl, rfl, rfl⟩
  | none :: ρ, σ, g, n + 1, h => by
    obtain ⟨s, r, rfl, h⟩ := h
    obtain ⟨g1, g2, e, q⟩ := EnvRel.takeN n h
    exact ⟨g1, g2, e, s, r.take n, rfl, q⟩
  | some d :: ρ, σ, g, n + 1, h => by
    obtain ⟨v, r, f, g', rfl, rfl, h1, h2⟩ := h
    obtain ⟨g1, g2, rfl, q⟩ := EnvRel.takeN n h2
    exact ⟨f ++ g1, g2, by rw [List.append_assoc], v, r.take n, f, g1, rfl, rfl, h1, q⟩
theorem get_take {ρ : Env} {n i : Nat} (h : GN.get (ρ.take n) i ≠ none) : i < n ∧ GN.get (ρ.take n) i = GN.get ρ i := by
  unfold GN.get at h ⊢
  by_cases q : i < n
  · exact ⟨q, by rw [List.getElem?_take_of_lt q]⟩
  · exfalso
    apply h
    rw [List.getElem?_eq_none (by rw [List.length_take]; omega)]
    rfl
/-- what callees leave of their parameters -/
theorem env_outs {ρ : Env} {σ : L2.St} {g : List Addr} {vs : List V} {asg : List Nat} {np n : Nat} (E : EnvRel K Z H ρ σ g) (hl : vs.length = np) (hσ : σ.length = np + n) (hk : ∀ i, i < np → i ∉ asg → σ[i]? = (vs.map some ++ List.replicate n none)[i]?) :
    ∃ g' rest, EnvRel K Z H ((GN.wipe ρ asg).take np) (vs.map some) g' ∧ g.Perm (rest ++ g') := by
  obtain ⟨g1, r1, E1, p1⟩ := E.dropAll (own := asg)
  obtain ⟨g2, g3, rfl, E2⟩ := E1.takeN np
  refine ⟨g2, r1 ++ g3, E2.other (by rw [List.length_map, List.length_take]; omega) fun i hi => ?_, ?_⟩
  · obtain ⟨h1, h2⟩ := get_take hi
    have ha : i ∉ asg := fun m => by
      rw [h2, get_wipe_in m] at hi
      exact hi rfl
    rw [List.getElem?_take_of_lt h1, hk i h1 ha, List.getElem?_append_left (by rw [List.length_map]; omega)]
  · refine p1.trans ?_
    rw [List.append_assoc]
    exact (List.perm_append_comm).append_left r1
end
theorem nil_al {K : PySem.W.Frag} {Z : Addr → Prop} {H : Hp} {ρ : Env} {σ : L2.St} {g : List Addr} (E : EnvRel K Z H ρ σ g) (ok : Ok Z H g) : Stb K [] Z H ρ σ g := ⟨⟨E, ok, fun _ _ _ h => nomatch h⟩, fun _ _ _ h => nomatch h⟩
/-- a def's body keeps its promise -/
theorem body_ok {X : Cx} {C : Cfg} {d : Df} {vs : List V} {H : Hp} {Q : VK} {E : XK} (hK : PySem.W.Frag) (eK : hK = X.K) (hn : d.N.length = d.m.nn) (hnp : d.m.np ≤ d.m.nn) (hs : spF hK (fun vs => runD C (some d.m) vs) d.m.np vs H Q E) :
    tS X.K [] d.kp (exs C d.m.body) { nx := fun _ H' => Q .non H', rt := Q } (L2.start d.N vs) H := by
  subst eK
  obtain ⟨Z, g, ds, r, outs, rl, ok, hl, e, q⟩ := hs
  simp only [runD] at e
  obtain ⟨_, e⟩ := ite_some' e
  obtain ⟨fl, e1, e2⟩ := Option.bind_eq_some_iff.mp e
  have hvl : vs.length = d.m.np := by rw [rl.len, hl]
  have hst : L2.start d.N vs = vs.map some ++ List.replicate (d.m.nn - d.m.np) none := by
    unfold L2.start
    rw [hn, hvl]
  have E0 := relL_env (n := d.m.nn - d.m.np) rl
  rw [← hst] at E0
  have hkp : ∀ (σ' : L2.St), Kep d.kp (L2.start d.N vs) σ' → ∀ i, i < d.m.np → i ∉ d.m.asg → σ'[i]? = (vs.map some ++ List.replicate (d.m.nn - d.m.np) none)[i]? := fun σ' k i h1 h2 => by
    rw [← hst]
    refine k i ?_
    unfold Df.kp
    simp [h1, h2]
  refine ⟨Z, g, _, fl, nil_al E0 ok, e1, ?_⟩
  have fin : ∀ (ρ' : Env) (σ' : L2.St) (H1 : Hp) (Z1 : Addr → Prop) (g1 f : List Addr), ρ'.length = d.m.nn → Sp0 Z H g Z1 H1 (f ++ g1) → Ok Z1 H1 (f ++ g1) → Stb X.K [] Z1 H1 ρ' σ' g1 → Kep d.kp (L2.start d.N vs) σ' →
      ∃ g2, Sp0 Z H g Z1 H1 (f ++ g2) ∧ Ok Z1 H1 (f ++ g2) ∧ EnvRel X.K Z1 H1 ((GN.wipe ρ' d.m.asg).take d.m.np) (vs.map some) g2 := fun ρ' σ' H1 Z1 g1 f hr s1 o1 S1 k1 => by
    have hlen : σ'.length = d.m.np + (d.m.nn - d.m.np) := by rw [S1.sta.env.len, hr]; omega
    obtain ⟨g2, rest, E2, p⟩ := env_outs S1.sta.env hvl hlen (hkp σ' k1)
    have P : (f ++ g1).Perm (rest ++ (f ++ g2)) := by
      refine (p.append_left f).trans ?_
      rw [← List.append_assoc, ← List.append_assoc]
      exact (List.perm_append_comm).append_right g2
    exact ⟨g2, Stp.drop (s1.perm P), (o1.perm P).right, E2⟩
  cases fl with
  | rt v ρ' =>
    simp only at e2
    obtain ⟨hr, e2⟩ := ite_some e2
    simp only [Prod.mk.injEq] at e2
    obtain ⟨rfl, rfl⟩ := e2
    intro v' σ' H1 Z1 f g1 s1 o1 r1 S1 k1
    obtain ⟨g2, s2, o2, E2⟩ := fin ρ' σ' H1 Z1 g1 f hr s1 o1 S1 k1
    exact q v' H1 Z1 f g2 s2 o2 r1 E2
  | nx ρ' =>
    simp only at e2
    obtain ⟨hr, e2⟩ := ite_some e2
    simp only [Prod.mk.injEq] at e2
    obtain ⟨rfl, rfl⟩ := e2
    intro σ' H1 Z1 g1 s1 S1 k1
    obtain ⟨g2, s2, o2, E2⟩ := fin ρ' σ' H1 Z1 g1 [] hr s1 S1.sta.ok S1 k1
    exact q .non H1 Z1 [] g2 s2 o2 ⟨rfl, rfl⟩ E2
  | bk ρ' => cases e2
  | ct ρ' => cases e2
section
variable {P : Program} {w : World} {K : PySem.W.Frag} {mg : Str → Option Value} {base : Heap}
/-- a def as it stands behind the top -/
def Stands (K : PySem.W.Frag) (mg : Str → Option Value) (d : Df) : Prop := ∃ f fd, C8.Def K mg d.x d.st f fd ∧ ∀ us : List Value, us.length = d.ps.length → bindArgs fd ⟨us, []⟩ = pure (d.ps.zip us)
structure Gb (K : PySem.W.Frag) (mg : Str → Option Value) (consts : List D) (G : List Str) : Prop where
  blt : ∀ x ∈ bltNames, mg x = none
  gbl : ∀ (j : Nat) (x : Str), G[j]? = some x → ∃ (d : D) (v : V) (u : Value), consts[j]? = some d ∧ mg x = some u ∧ RelV v u ∧ GRel K d v
/-- one def's promise, by those of all with a call less -/
theorem fn_step {ds : List Df} {consts : List D} {G : List Str} {fuel n j : Nat} {d : Df} {f : Addr} {fd : FuncData} (gb : Gb K mg consts G) (k : okD G (fsOf ds) d = true)
    (ih : ∀ (j : Nat) (x : Str) (np : Nat), (fsOf ds)[j]? = some (x, np) → CalG P w K mg base n x (spF K ((cfg (ds.map (·.m)) consts fuel n).call j) np)) (hd : ds[j]? = some d) (D : C8.Def K mg d.x d.st f fd) :
    FnG P w K mg base (n + 1) f fd d.ps (spF K ((cfg (ds.map (·.m)) consts fuel (n + 1)).call j) d.m.np) := by
  unfold okD at k
  simp only [Bool.and_eq_true, decide_eq_true_eq] at k
  obtain ⟨⟨⟨k1, k2⟩, k3⟩, k4⟩ := k
  have S := C8.fnScope_by k1
  have hps : d.ps.length = d.m.np := by unfold Df.ps; rw [List.length_take, k2]; omega
  have ecall : (cfg (ds.map (·.m)) consts fuel (n + 1)).call j = fun vs => runD (cfg (ds.map (·.m)) consts fuel n) (some d.m) vs := by
    funext vs
    simp only [cfg, List.getElem?_map, hd, Option.map_some]
  rw [ecall]
  refine fnG_of D.fn S (fun h => by rw [hps]; exact spF_len h) fun cdv A outer s H vs Q E hgd hr h => ?_
  refine ⟨_, okSs_ok (X := (cxOf C8.CX0 P w K mg base d.N d.x (C8.fnScope d.st) f cdv A outer s H E).nox) (C := cfg (ds.map (·.m)) consts fuel n) (y := ⟨C8.fnScope d.st, d.N, G, fsOf ds, fun _ => true⟩) ?_ d.m.body [] d.kp _ k4, body_ok K rfl k2 k3 h⟩
  refine { hN := rfl, hs := rfl, kd := S.kind, hf := fun _ _ => rfl, base := ⟨rfl, S.nd, gb.blt, hr.units, hgd, fun j x h => ?_⟩, pass := PassesOwn.never, defs := fun j x np h => ⟨n, ih j x np h, hr⟩ }
  obtain ⟨dd, v, u, e1, e2, e3, e4⟩ := gb.gbl j x h
  exact ⟨dd, v, u, by cases n <;> exact e1, e2, e3, e4⟩
theorem cals {ds : List Df} {consts : List D} {G : List Str} {fuel : Nat} (gb : Gb K mg consts G) (ok : ∀ d ∈ ds, okD G (fsOf ds) d = true) (st : ∀ d ∈ ds, Stands K mg d) : ∀ (n j : Nat) (x : Str) (np : Nat), (fsOf ds)[j]? = some (x, np) →
    CalG P w K mg base n x (spF K ((cfg (ds.map (·.m)) consts fuel n).call j) np)
  | 0, j, x, np, h => by
    unfold fsOf at h
    rw [List.getElem?_map] at h
    obtain ⟨d, hd, e⟩ := Option.map_eq_some_iff.mp h
    cases e
    obtain ⟨f, fd, D, B⟩ := st d (List.mem_of_getElem? hd)
    have no : ∀ vs H Q E, ¬ spF K ((cfg (ds.map (·.m)) consts fuel 0).call j) d.m.np vs H Q E := fun vs H Q E h => by
      obtain ⟨Z, g, dd, r, outs, _, _, _, e, _⟩ := h
      simp [cfg] at e
    exact ⟨f, fd, d.ps, ⟨fun h => absurd h (no _ _ _ _), fun _ _ _ _ _ h => absurd h (no _ _ _ _)⟩, D.mgf, D.kp, .all B⟩
  | n + 1, j, x, np, h => by
    unfold fsOf at h
    rw [List.getElem?_map] at h
    obtain ⟨d, hd, e⟩ := Option.map_eq_some_iff.mp h
    cases e
    obtain ⟨f, fd, D, B⟩ := st d (List.mem_of_getElem? hd)
    exact ⟨f, fd, d.ps, fn_step gb (ok d (List.mem_of_getElem? hd)) (fun j x np h => cals gb ok st n j x np h) hd D, D.mgf, D.kp, .all B⟩
end
/-! ### the law -/
theorem relL_ints {K : PySem.W.Frag} {Z : Addr → Prop} {H : Hp} : ∀ ns : List Int, RelL K Z H (ns.map D.int) (ns.map V.int) []
  | [] => ⟨rfl, rfl⟩
  | n :: r => ⟨.int n, r.map V.int, [], [], rfl, rfl, ⟨rfl, rfl⟩, relL_ints r⟩
theorem stands_mk {K : PySem.W.Frag} {h : Heap} {mg : Str → Option Value} (X : K.In h) (G : h.Ns mainGlobals mg) {d : Df} {f : Addr} {oc kV dc pm cd ct : Value} {od an : Option Addr} {sl : Array (Option Value)} (a : PySem.W.nsIn K mainGlobals d.x = some (some (.ref f)))
    (l : K.lookup f = some ⟨oc, od, .func (PySem.W.fnOf d.x d.x (C8.fnArgs d.st) (C8.fnBody d.st) (C8.fnScope d.st) .none kV dc pm an cd ct), sl⟩) (c : PySem.W.codeIn K cd d.x = true) (k : PySem.W.keepIn K (.ref f) = true)
    (hb : ∀ us : List Value, us.length = d.ps.length → bindArgs (PySem.W.fnOf d.x d.x (C8.fnArgs d.st) (C8.fnBody d.st) (C8.fnScope d.st) .none kV dc pm an cd ct) ⟨us, []⟩ = pure (d.ps.zip us)) : Stands K mg d :=
  ⟨f, _, ⟨⟨oc, od, .none, kV, dc, pm, an, cd, ct, sl, rfl, l, c⟩, PySem.W.mg_of X G a, k⟩, hb⟩
theorem law_walk {l : PySem.W.OpenLaw} {q : Program} {loose : List Str} {XP : (Str → Option Value) → Heap → Prop} {YP : World → Heap → Prop} {dr : DefRec} {K : Params → PySem.W.Frag} {ds : List Df} {consts : List D} {G : List Str} {fuel n j : Nat} {d : Df} {x : Str}
    (hn : l.most = some 63) (hdf : dr.params.defaults = []) (hr : Room (n + 1) callerA) (hd : ds[j]? = some d) (hx : d.ps = [x]) (hnp : d.m.np = 1) (hnm : dr.name = d.x) (ok : ∀ d ∈ ds, okD G (fsOf ds) d = true)
    (hlaw : ∀ ns : List Int, ns.length ≤ 63 → ∃ o, (cfg (ds.map (·.m)) consts fuel (n + 1)).call j [.lst .ext (ns.map D.int)] = some (.bl true, o))
    (hY : ∀ (w : World) (h : Heap), YP w h → (K w.params).In h)
    (F : ∀ (w : World) (mg : Str → Option Value) (h : Heap), (K w.params).In h → h.Ns mainGlobals mg → Gb (K w.params) mg consts G ∧ ∀ d ∈ ds, Stands (K w.params) mg d) :
    PySem.W.WalkO q loose XP YP l.row.toRowW dr [] (fun f vs => PySem.call f vs) := by
  refine Att.attach_call hn hdf fun w s₀ t mg mb fa o pm cd dc a us ns T Y ho hdo hcd hmg hobj are few ng => ?_
  have KX := hY w _ Y
  obtain ⟨gb, st⟩ := F w mg _ KX T.T.g
  obtain ⟨f, fd, Dd, B⟩ := st d (List.mem_of_getElem? hd)
  have e : f = fa := by
    have := Dd.mgf.symm.trans (hnm ▸ hmg)
    cases this; rfl
  subst e
  refine top_both (x := x) (fd := fd) (sp := spF (K w.params) ((cfg (ds.map (·.m)) consts fuel (n + 1)).call j) d.m.np) KX T.T.g T.T.b T.T.builtins T.T.nolimit ng hobj are (Nat.le_trans few (by decide)) hr (fun base _ _ => ?_) (fun s u => .of_eq ?_) fun H sh => ?_
  · have fo := fn_step (P := l.prog) (w := w) (base := base) (fuel := fuel) gb (ok d (List.mem_of_getElem? hd)) (fun j x np h => cals gb ok st n j x np h) hd Dd
    rw [hx] at fo
    exact fo
  · have := B [u] (by rw [hx]; rfl)
    rw [hx] at this
    exact this
  · obtain ⟨o, hcall⟩ := hlaw ns few
    have zh : ∀ b, (fun _ : Addr => False) b → H b ≠ none := fun _ z => z.elim
    exact ⟨fun _ => False, [], [.lst .ext (ns.map D.int)], .bl true, o, ⟨.ref a, [], [], [], rfl, rfl, ⟨a, ns.map V.int, rfl, sh, relL_ints ns, rfl⟩, rfl, rfl⟩, Ok.nil zh, by rw [hnp]; rfl, hcall, fun v H1 Z1 f g1 _ _ r _ => r.1⟩
end GN
end

section
set_option linter.all false
set_option maxRecDepth 100000
namespace GN
open PySem PySem.Spec PyProof.Rows L2
mutual
/-- a module's constant as it stands -/
inductive KD (K : PySem.W.Frag) : D → Value → Prop where
  | non : KD K .non .none
  | bl {b : Bool} : KD K (.bl b) (.bool b)
  | int {i : Int} {t : Tok} : KD K (.int i) (.int i t)
  | str {s : List Nat} {x : Str} {t : Tok} : x.cps.toList = s → KD K (.str s) (.str x t)
  | tup {xs : List D} {a : Addr} {its : Array Value} {n : Nat} {sl : Array (Option Value)} : K.lookup a = some ⟨.type "tuple", none, .seq its n, sl⟩ → its.size ≤ sizeLine → KDL K xs its.toList → KD K (.tup xs) (.ref a)
inductive KDL (K : PySem.W.Frag) : List D → List Value → Prop where
  | nil : KDL K [] []
  | cons {d : D} {u : Value} {ds : List D} {us : List Value} : KD K d u → KDL K ds us → KDL K (d :: ds) (u :: us)
end
mutual
theorem KD.rel {K : PySem.W.Frag} : ∀ {d : D} {u : Value}, KD K d u → ∃ v, RelV v u ∧ GRel K d v
  | _, _, .non => ⟨.non, rfl, fun _ _ => ⟨rfl, rfl⟩, fun _ e => nomatch e⟩
  | _, _, .bl => ⟨.bl _, rfl, fun _ _ => ⟨rfl, rfl⟩, fun _ e => nomatch e⟩
  | _, _, .int => ⟨.int _, ⟨_, rfl⟩, fun _ _ => ⟨rfl, rfl⟩, fun _ e => nomatch e⟩
  | _, _, .str (x := x) h => ⟨.str x, ⟨_, rfl⟩, fun _ _ => ⟨by rw [← h]; simp [toS], rfl⟩, fun _ e => nomatch e⟩
  | _, _, .tup l s k => by
    obtain ⟨vs, r, q⟩ := KDL.rel k
    exact ⟨.ref _, rfl, fun Z H => ⟨_, vs, rfl, .inr ⟨_, _, _, l, rfl, rfl, s, r⟩, q Z H⟩, fun _ _ => ⟨_, _, rfl, l, rfl, rfl⟩⟩
theorem KDL.rel {K : PySem.W.Frag} : ∀ {ds : List D} {us : List Value}, KDL K ds us → ∃ vs, Vals vs us ∧ ∀ Z H, RelL K Z H ds vs []
  | _, _, .nil => ⟨[], .nil, fun _ _ => ⟨rfl, rfl⟩⟩
  | _, _, .cons h t => by
    obtain ⟨v, r, q⟩ := KD.rel h
    obtain ⟨vs, rs, qs⟩ := KDL.rel t
    exact ⟨v :: vs, .cons r rs, fun Z H => ⟨v, vs, [], [], rfl, rfl, q.1 Z H, qs Z H⟩⟩
end
theorem gb_of {K : PySem.W.Frag} {h : Heap} {mg : Str → Option Value} (X : K.In h) (G : h.Ns mainGlobals mg) {x : Str} {d : D} {u : Value} (n : PySem.W.nsIn K mainGlobals x = some (some u)) (k : KD K d u) : ∃ v u, mg x = some u ∧ RelV v u ∧ GRel K d v := by
  obtain ⟨v, r, q⟩ := k.rel
  exact ⟨v, u, PySem.W.mg_of X G n, r, q⟩
end GN
end

section
namespace L_k34
open GN
def f_holds_row : MSs := (.cons (.ret (.po .all (.ow (.comp [2, 3] (.t [(.v 2), (.v 3)]) (.zip (.own (.at_ (.var 0))) (.own (.at_ (.var 1)))) (.at_ (.cst (.bl true))) (.at_ (.or (.prim (.cmp .eq) (.cons (.var 2) (.cons (.cst (.str [45])) .nil))) (.prim (.cmp .eq) (.cons (.var 2) (.cons (.prim .str (.cons (.var 3) .nil)) .nil)))))) .nil))) .nil)
def f_holds_all : MSs := (.cons (.ret (.po .all (.ow (.comp [2, 3] (.t [(.v 2), (.v 3)]) (.zip (.own (.at_ (.var 0))) (.own (.at_ (.var 1)))) (.at_ (.cst (.bl true))) (.at_ (.or (.prim (.cmp .eq) (.cons (.var 2) (.cons (.cst (.str [45])) .nil))) (.prim (.cmp .eq) (.cons (.var 2) (.cons (.var 3) .nil)))))) .nil))) .nil)
def f_meet : MSs := (.cons (.ret (.po .all (.ow (.comp [2, 3] (.t [(.v 2), (.v 3)]) (.zip (.own (.at_ (.var 0))) (.own (.at_ (.var 1)))) (.at_ (.cst (.bl true))) (.at_ (.or (.prim (.cmp .eq) (.cons (.var 2) (.cons (.cst (.str [45])) .nil))) (.or (.prim (.cmp .eq) (.cons (.var 3) (.cons (.cst (.str [45])) .nil))) (.prim (.cmp .eq) (.cons (.var 2) (.cons (.var 3) .nil))))))) .nil))) .nil)
def f_cube_of : MSs := (.cons (.ret (.po (.joinC []) (.ow (.comp [1, 2] (.t [(.v 1), (.v 2)]) (.zip (.own (.at_ (.idx (.var 0) (.cst (.int 0))))) (.own (.at_ (.idx (.var 0) (.cst (.int 1)))))) (.at_ (.cst (.bl true))) (.at_ (.ite (.prim (.cmp .eq) (.cons (.var 1) (.cons (.var 2) .nil))) (.prim .str (.cons (.var 1) .nil)) (.cst (.str [45]))))) .nil))) .nil)
def f_law_deck : MSs := (.cons (.ret (.lst (.ow (.po .list (.ow (.po (.slc false true) (.pl 0 (.ow (.at_ (.cst (.int 63))) .nil))) .nil)) (.ow (.at_ (.prim .add (.cons (.cst (.int 48271)) (.cons (.prim .mod (.cons (.prim .sum (.cons (.prim (.slc false true) (.cons (.var 0) (.cons (.cst (.int 63)) .nil))) .nil)) (.cons (.cst (.int 2147483629)) .nil))) .nil)))) (.ow (.at_ (.cst (.int 0))) .nil))))) .nil)
def f_law_draw : MSs := (.cons (.ali 2 0 0) (.cons (.ife (.at_ (.and (.prim (.cmp .ne) (.cons (.ali 0 0) (.cons (.lst .nil) .nil))) (.prim (.cmp .ge) (.cons (.idx (.ali 0 0) (.cst (.int 0))) (.cons (.prim .pow (.cons (.cst (.int 10)) (.cons (.cst (.int 18)) .nil))) .nil))))) (.cons (.asg (.v 5) (.at_ (.prim .mod (.cons (.idx (.ali 0 0) (.cst (.int 0))) (.cons (.var 1) .nil))))) (.cons (.setI (.s 0 (.cst (.int 0))) (.at_ (.cst (.int 0))) (.at_ (.prim .fdiv (.cons (.idx (.ali 0 0) (.cst (.int 0))) (.cons (.var 1) .nil))))) (.cons (.ret (.at_ (.var 5))) .nil))) .nil) (.cons (.setI (.v 0) (.at_ (.cst (.int 2))) (.at_ (.prim .add (.cons (.idx (.var 0) (.cst (.int 2))) (.cons (.cst (.int 1)) .nil))))) (.cons (.asg (.v 3) (.at_ (.idx (.var 0) (.cst (.int 1))))) (.cons (.ife (.at_ (.prim (.cmp .ne) (.cons (.ali 0 0) (.cons (.lst .nil) .nil)))) (.cons (.asg (.v 3) (.po .add (.ow (.at_ (.var 3)) (.ow (.pop (.s 0 (.cst (.int 0))) (.ow (.at_ (.cst (.int 0))) .nil)) .nil)))) .nil) .nil) (.cons (.asg (.v 4) (.at_ (.prim .mod (.cons (.prim .add (.cons (.prim .add (.cons (.prim .mul (.cons (.prim .mod (.cons (.var 3) (.cons (.cst (.int 2147483629)) .nil))) (.cons (.cst (.int 48271)) .nil))) (.cons (.prim .mul (.cons (.cst (.int 69621)) (.cons (.idx (.var 0) (.cst (.int 2))) .nil))) .nil))) (.cons (.cst (.int 7919)) .nil))) (.cons (.cst (.int 2147483647)) .nil))))) (.cons (.asg (.v 4) (.at_ (.prim .mod (.cons (.prim .add (.cons (.prim .add (.cons (.prim .mul (.cons (.var 4) (.cons (.var 4) .nil))) (.cons (.prim .mul (.cons (.cst (.int 39373)) (.cons (.var 4) .nil))) .nil))) (.cons (.idx (.var 0) (.cst (.int 2))) .nil))) (.cons (.cst (.int 2147483587)) .nil))))) (.cons (.setI (.v 0) (.at_ (.cst (.int 1))) (.at_ (.var 4))) (.cons (.ret (.at_ (.prim .mod (.cons (.prim .fdiv (.cons (.prim .mod (.cons (.prim .mul (.cons (.var 4) (.cons (.prim .add (.cons (.var 4) (.cons (.cst (.int 16807)) .nil))) .nil))) (.cons (.cst (.int 2147483563)) .nil))) (.cons (.cst (.int 64)) .nil))) (.cons (.var 1) .nil))))) .nil)))))))))
def f_law_many : MSs := (.cons (.asg (.v 1) (.call 5 (.pl 0 (.ow (.at_ (.cst (.int 8))) .nil)))) (.cons (.ife (.at_ (.prim (.cmp .gt) (.cons (.var 1) (.cons (.cst (.int 5)) .nil)))) (.cons (.ret (.at_ (.cst (.int 6)))) .nil) .nil) (.cons (.ret (.po .add (.ow (.at_ (.idx (.lst (.cons (.cst (.int 1)) (.cons (.cst (.int 3)) .nil))) (.prim .int (.cons (.prim (.cmp .gt) (.cons (.var 1) (.cons (.cst (.int 2)) .nil))) .nil)))) (.ow (.call 5 (.pl 0 (.ow (.at_ (.idx (.lst (.cons (.cst (.int 4)) (.cons (.cst (.int 3)) .nil))) (.prim .int (.cons (.prim (.cmp .gt) (.cons (.var 1) (.cons (.cst (.int 2)) .nil))) .nil)))) .nil))) .nil)))) .nil)))
def f_law_row : MSs := (.cons (.ret (.po .tuple (.ow (.comp [2] (.v 2) (.rng (.ow (.at_ (.var 1)) .nil)) (.at_ (.cst (.bl true))) (.call 5 (.pl 0 (.ow (.at_ (.cst (.int 2))) .nil)))) .nil))) .nil)
def f_law_change : MSs := (.cons (.asg (.v 2) (.call 5 (.pl 0 (.ow (.at_ (.cst (.int 8))) .nil)))) (.cons (.asg (.v 3) (.call 7 (.pl 0 (.ow (.at_ (.var 1)) .nil)))) (.cons (.ife (.at_ (.prim (.cmp .eq) (.cons (.var 2) (.cons (.cst (.int 0)) .nil)))) (.cons (.ret (.at_ (.tup (.cons (.var 3) (.cons (.var 3) .nil))))) .nil) .nil) (.cons (.ife (.at_ (.prim (.cmp .eq) (.cons (.var 2) (.cons (.cst (.int 1)) .nil)))) (.cons (.ret (.tup (.ow (.at_ (.var 3)) (.ow (.frz (.po .tuple (.ow (.comp [5] (.v 5) (.own (.at_ (.var 3))) (.at_ (.cst (.bl true))) (.at_ (.prim .sub (.cons (.cst (.int 1)) (.cons (.var 5) .nil))))) .nil))) .nil)))) .nil) .nil) (.cons (.ife (.at_ (.prim (.cmp .lt) (.cons (.var 2) (.cons (.cst (.int 4)) .nil)))) (.cons (.asg (.v 4) (.call 5 (.pl 0 (.ow (.at_ (.var 1)) .nil)))) (.cons (.ret (.at_ (.tup (.cons (.var 3) (.cons (.prim .add (.cons (.prim .add (.cons (.prim (.slc false true) (.cons (.var 3) (.cons (.var 4) .nil))) (.cons (.tup (.cons (.prim .sub (.cons (.cst (.int 1)) (.cons (.idx (.var 3) (.var 4)) .nil))) .nil)) .nil))) (.cons (.prim (.slc true false) (.cons (.var 3) (.cons (.prim .add (.cons (.var 4) (.cons (.cst (.int 1)) .nil))) .nil))) .nil))) .nil))))) .nil)) .nil) (.cons (.ret (.tup (.ow (.at_ (.var 3)) (.ow (.frz (.call 7 (.pl 0 (.ow (.at_ (.var 1)) .nil)))) .nil)))) .nil))))))
def f_law_product : MSs := (.cons (.asg (.v 2) (.call 5 (.pl 0 (.ow (.at_ (.cst (.int 6))) .nil)))) (.cons (.ife (.at_ (.prim (.cmp .eq) (.cons (.var 2) (.cons (.cst (.int 0)) .nil)))) (.cons (.ret (.po (.joinC []) (.ow (.comp [4] (.v 4) (.own (.call 7 (.pl 0 (.ow (.at_ (.var 1)) .nil)))) (.at_ (.cst (.bl true))) (.at_ (.prim .str (.cons (.var 4) .nil)))) .nil))) .nil) .nil) (.cons (.ife (.and (.at_ (.prim (.cmp .eq) (.cons (.var 2) (.cons (.cst (.int 1)) .nil)))) (.po (.cmp .eq) (.ow (.call 5 (.pl 0 (.ow (.at_ (.cst (.int 4))) .nil))) (.ow (.at_ (.cst (.int 0))) .nil)))) (.cons (.ret (.at_ (.prim .mul (.cons (.cst (.str [45])) (.cons (.var 1) .nil))))) .nil) .nil) (.cons (.ret (.po (.joinC []) (.ow (.comp [3] (.v 3) (.rng (.ow (.at_ (.var 1)) .nil)) (.at_ (.cst (.bl true))) (.po .idx (.ow (.at_ (.cst (.str [48, 49, 45, 48, 49, 45, 45, 45]))) (.ow (.call 5 (.pl 0 (.ow (.at_ (.idx (.lst (.cons (.cst (.int 6)) (.cons (.cst (.int 4)) (.cons (.cst (.int 3)) (.cons (.cst (.int 8)) (.cons (.cst (.int 8)) (.cons (.cst (.int 5)) .nil))))))) (.var 2))) .nil))) .nil)))) .nil))) .nil))))
def f_law_holds : MSs := (.cons (.for_ (.t [(.v 2), (.v 3)]) (.zip (.own (.at_ (.var 0))) (.own (.at_ (.var 1)))) (.cons (.ife (.at_ (.and (.prim (.cmp .ne) (.cons (.var 2) (.cons (.cst (.str [45])) .nil))) (.prim (.cmp .ne) (.cons (.prim .int (.cons (.var 2) .nil)) (.cons (.var 3) .nil))))) (.cons (.ret (.at_ (.cst (.bl false)))) .nil) .nil) .nil)) (.cons (.ret (.at_ (.cst (.bl true)))) .nil))
def f_law_rows : MSs := (.cons (.asg (.v 1) (.lst (.ow (.at_ (.tup .nil)) .nil))) (.cons (.for_ (.v 2) (.rng (.ow (.at_ (.var 0)) .nil)) (.cons (.asg (.v 1) (.po .add (.ow (.comp [3] (.v 3) (.take 1) (.at_ (.cst (.bl true))) (.at_ (.prim .add (.cons (.var 3) (.cons (.tup (.cons (.cst (.int 0)) .nil)) .nil))))) (.ow (.comp [3] (.v 3) (.take 1) (.at_ (.cst (.bl true))) (.at_ (.prim .add (.cons (.var 3) (.cons (.tup (.cons (.cst (.int 1)) .nil)) .nil))))) .nil)))) .nil)) (.cons (.ret (.mv 1)) .nil)))
def f_law_is : MSs := (.cons (.ret (.at_ (.and (.prim (.isi [.bool]) (.cons (.var 0) .nil)) (.prim (.cmp .eq) (.cons (.var 0) (.cons (.var 1) .nil)))))) .nil)
def f_law_pair_right : MSs := (.cons (.asg (.v 3) (.comp [6] (.v 6) (.own (.call 11 (.ow (.at_ (.var 0)) .nil))) (.call 10 (.ow (.at_ (.var 1)) (.ow (.at_ (.var 6)) .nil))) (.at_ (.var 6)))) (.cons (.asg (.v 4) (.comp [6] (.v 6) (.own (.call 11 (.ow (.at_ (.var 0)) .nil))) (.call 10 (.ow (.at_ (.var 2)) (.ow (.at_ (.var 6)) .nil))) (.at_ (.var 6)))) (.cons (.asg (.v 5) (.comp [6] (.v 6) (.take 4) (.call 10 (.ow (.at_ (.var 1)) (.ow (.at_ (.var 6)) .nil))) (.at_ (.var 6)))) (.cons (.ife (.or (.not (.call 12 (.ow (.call 1 (.ow (.at_ (.var 1)) (.ow (.at_ (.var 2)) .nil))) (.ow (.at_ (.prim (.cmp .eq) (.cons (.var 5) (.cons (.var 4) .nil)))) .nil)))) (.not (.call 12 (.ow (.call 2 (.ow (.at_ (.var 1)) (.ow (.at_ (.var 2)) .nil))) (.ow (.at_ (.prim (.cmp .ne) (.cons (.var 5) (.cons (.lst .nil) .nil)))) .nil))))) (.cons (.ret (.at_ (.cst (.bl false)))) .nil) .nil) (.cons (.ret (.and (.call 12 (.ow (.call 1 (.ow (.at_ (.var 2)) (.ow (.at_ (.var 1)) .nil))) (.ow (.at_ (.prim (.cmp .eq) (.cons (.var 5) (.cons (.var 3) .nil)))) .nil))) (.call 12 (.ow (.call 2 (.ow (.at_ (.var 2)) (.ow (.at_ (.var 1)) .nil))) (.ow (.at_ (.prim (.cmp .ne) (.cons (.var 5) (.cons (.lst .nil) .nil)))) .nil))))) .nil)))))
def f_law_cube_right : MSs := (.cons (.asg (.v 2) (.call 3 (.ow (.at_ (.var 1)) .nil))) (.cons (.ife (.or (.at_ (.not (.prim (.isi [.str]) (.cons (.var 2) .nil)))) (.or (.at_ (.prim (.cmp .ne) (.cons (.prim .len (.cons (.var 2) .nil)) (.cons (.var 0) .nil)))) (.po (.cmp .ne) (.ow (.at_ (.var 2)) (.ow (.call 3 (.ow (.at_ (.tup (.cons (.idx (.var 1) (.cst (.int 1))) (.cons (.idx (.var 1) (.cst (.int 0))) .nil)))) .nil)) .nil))))) (.cons (.ret (.at_ (.cst (.bl false)))) .nil) .nil) (.cons (.for_ (.v 3) (.own (.call 11 (.ow (.at_ (.var 0)) .nil))) (.cons (.asg (.v 4) (.po .all (.ow (.comp [5, 6] (.t [(.v 5), (.v 6)]) (.zip (.own (.at_ (.var 3))) (.zip (.own (.at_ (.idx (.var 1) (.cst (.int 0))))) (.own (.at_ (.idx (.var 1) (.cst (.int 1))))))) (.at_ (.cst (.bl true))) (.at_ (.prim (.cmp .isin) (.cons (.var 5) (.cons (.var 6) .nil))))) .nil))) (.cons (.ife (.not (.call 12 (.ow (.call 0 (.ow (.at_ (.var 2)) (.ow (.at_ (.var 3)) .nil))) (.ow (.at_ (.var 4)) .nil)))) (.cons (.ret (.at_ (.cst (.bl false)))) .nil) .nil) .nil))) (.cons (.ret (.at_ (.cst (.bl true)))) .nil))))
def f_law : MSs := (.cons (.asg (.v 1) (.call 4 (.pl 0 .nil))) (.cons (.for_ (.v 2) (.rng (.ow (.at_ (.cst (.int 3))) .nil)) (.cons (.asg (.v 3) (.call 6 (.pl 1 .nil))) (.cons (.asg (.v 4) (.lst .nil)) (.cons (.for_ (.v 5) (.rng (.ow (.at_ (.cst (.int 4))) .nil)) (.cons (.asg (.v 8) (.call 5 (.pl 1 (.ow (.at_ (.cst (.int 4))) .nil)))) (.cons (.asg (.v 6) (.call 9 (.pl 1 (.ow (.at_ (.var 3)) .nil)))) (.cons (.ife (.at_ (.and (.prim (.cmp .eq) (.cons (.var 8) (.cons (.cst (.int 0)) .nil))) (.prim (.cmp .ne) (.cons (.var 4) (.cons (.lst .nil) .nil))))) (.cons (.asg (.v 10) (.call 5 (.pl 1 (.ow (.at_ (.var 3)) .nil)))) (.cons (.asg (.v 6) (.po .add (.ow (.po .add (.ow (.at_ (.prim (.slc false true) (.cons (.idx (.var 4) (.prim .neg (.cons (.cst (.int 1)) .nil))) (.cons (.var 10) .nil)))) (.ow (.po .idx (.ow (.at_ (.cst (.str [48, 49, 45]))) (.ow (.call 5 (.pl 1 (.ow (.at_ (.cst (.int 3))) .nil))) .nil))) .nil))) (.ow (.at_ (.prim (.slc true false) (.cons (.idx (.var 4) (.prim .neg (.cons (.cst (.int 1)) .nil))) (.cons (.prim .add (.cons (.var 10) (.cons (.cst (.int 1)) .nil))) .nil)))) .nil)))) .nil)) .nil) (.cons (.app (.v 4) (.at_ (.var 6))) .nil))))) (.cons (.for_ (.v 6) (.take 4) (.cons (.for_ (.v 9) (.own (.call 11 (.ow (.at_ (.var 3)) .nil))) (.cons (.ife (.not (.call 12 (.ow (.call 0 (.ow (.at_ (.var 6)) (.ow (.at_ (.var 9)) .nil))) (.ow (.call 10 (.ow (.at_ (.var 6)) (.ow (.at_ (.var 9)) .nil))) .nil)))) (.cons (.ret (.at_ (.cst (.bl false)))) .nil) .nil) .nil)) .nil)) (.cons (.for_ (.v 5) (.rng (.ow (.at_ (.cst (.int 4))) .nil)) (.cons (.ife (.or (.not (.call 13 (.ow (.at_ (.var 3)) (.ow (.at_ (.idx (.var 4) (.var 5))) (.ow (.at_ (.idx (.var 4) (.prim .sub (.cons (.var 5) (.cons (.cst (.int 1)) .nil))))) .nil))))) (.not (.call 13 (.ow (.at_ (.var 3)) (.ow (.at_ (.idx (.var 4) (.var 5))) (.ow (.at_ (.idx (.var 4) (.prim .sub (.cons (.var 5) (.cons (.cst (.int 2)) .nil))))) .nil)))))) (.cons (.ret (.at_ (.cst (.bl false)))) .nil) .nil) (.cons (.ife (.not (.call 13 (.ow (.at_ (.var 3)) (.ow (.at_ (.idx (.var 4) (.var 5))) (.ow (.at_ (.idx (.var 4) (.var 5))) .nil))))) (.cons (.ret (.at_ (.cst (.bl false)))) .nil) .nil) .nil))) (.cons (.for_ (.v 7) (.own (.comp [5] (.v 5) (.rng (.ow (.at_ (.cst (.int 2))) .nil)) (.at_ (.cst (.bl true))) (.frz (.call 8 (.pl 1 (.ow (.at_ (.var 3)) .nil)))))) (.cons (.ife (.not (.call 14 (.ow (.at_ (.var 3)) (.ow (.at_ (.var 7)) .nil)))) (.cons (.ret (.at_ (.cst (.bl false)))) .nil) .nil) .nil)) .nil))))))) (.cons (.ret (.at_ (.cst (.bl true)))) .nil)))
def ms : List Dm := [⟨2, 4, [], f_holds_row⟩, ⟨2, 4, [], f_holds_all⟩, ⟨2, 4, [], f_meet⟩, ⟨1, 3, [], f_cube_of⟩, ⟨1, 1, [], f_law_deck⟩, ⟨2, 6, [], f_law_draw⟩, ⟨1, 2, [], f_law_many⟩, ⟨2, 3, [], f_law_row⟩, ⟨2, 6, [], f_law_change⟩, ⟨2, 5, [], f_law_product⟩, ⟨2, 4, [], f_law_holds⟩, ⟨1, 4, [], f_law_rows⟩, ⟨2, 2, [], f_law_is⟩, ⟨3, 7, [], f_law_pair_right⟩, ⟨2, 7, [], f_law_cube_right⟩, ⟨1, 11, [], f_law⟩]
def consts : List D := []
end L_k34
end

section
set_option linter.all false
namespace GN
/-! reasoning about ML: what a value asks, what follows -/
/-- holds what is told (so that a rewriting does not look into it) -/
inductive Tg {α : Sort u} (a : α) : Type where | mk
def W {α : Type} (o : Option α) (Q : α → Prop) (_d : Tg Q := .mk) : Prop := ∃ a, o = some a ∧ Q a
section
variable {α β : Type}
theorem W_some {a : α} {Q : α → Prop} : W (some a) Q ↔ Q a := ⟨fun h => (by obtain ⟨b, e, q⟩ := h; cases e; exact q), fun q => ⟨a, rfl, q⟩⟩
theorem W_none {Q : α → Prop} : W none Q ↔ False := ⟨fun h => (by obtain ⟨b, e, q⟩ := h; cases e), fun q => q.elim⟩
theorem W_bind {o : Option α} {f : α → Option β} {Q : β → Prop} : W (o.bind f) Q ↔ W o fun a => W (f a) Q := by
  constructor
  · rintro ⟨b, e, q⟩
    obtain ⟨a, e1, e2⟩ := Option.bind_eq_some_iff.mp e
    exact ⟨a, e1, b, e2, q⟩
  · rintro ⟨a, e1, b, e2, q⟩
    exact ⟨b, Option.bind_eq_some_iff.mpr ⟨a, e1, e2⟩, q⟩
theorem W_map {o : Option α} {f : α → β} {Q : β → Prop} : W (o.map f) Q ↔ W o fun a => Q (f a) := by
  cases o with
  | none => exact ⟨fun h => (by obtain ⟨_, e, _⟩ := h; cases e), fun h => (by obtain ⟨_, e, _⟩ := h; cases e)⟩
  | some a => rw [Option.map_some, W_some, W_some]
/-- two ways, of which one goes -/
structure Br (c P R : Prop) (_d : Tg (And P R) := .mk) : Prop where
  yes : c → P
  no : ¬c → R
theorem Br_true {P R : Prop} : Br True P R ↔ P := ⟨fun h => h.yes trivial, fun h => ⟨fun _ => h, fun n => (n trivial).elim⟩⟩
theorem Br_false {P R : Prop} : Br False P R ↔ R := ⟨fun h => h.no id, fun h => ⟨fun n => n.elim, fun _ => h⟩⟩
theorem W_ite {α : Type} {c : Prop} [Decidable c] {a b : Option α} {Q : α → Prop} : W (if c then a else b) Q ↔ Br c (W a Q) (W b Q) := by
  by_cases h : c
  · rw [if_pos h]; exact ⟨fun q => ⟨fun _ => q, fun n => absurd h n⟩, fun q => q.yes h⟩
  · rw [if_neg h]; exact ⟨fun q => ⟨fun n => absurd n h, fun _ => q⟩, fun q => q.no h⟩
theorem W_if {α : Type} {c : Prop} [Decidable c] {a : Option α} {Q : α → Prop} : W (if c then a else none) Q ↔ c ∧ W a Q := by
  split
  · rename_i h; exact ⟨fun q => ⟨h, q⟩, fun q => q.2⟩
  · rename_i h; exact ⟨fun q => (W_none.mp q).elim, fun q => absurd q.1 h⟩
theorem W.mono {α : Type} {o : Option α} {Q Q' : α → Prop} (h : W o Q) (i : ∀ a, Q a → Q' a) : W o Q' := by
  obtain ⟨a, e, q⟩ := h
  exact ⟨a, e, i a q⟩
theorem W_cg {α : Type} {o : Option α} {Q Q' : α → Prop} (i : ∀ a, Q a ↔ Q' a) : W o Q ↔ W o Q' := ⟨fun h => h.mono fun a => (i a).mp, fun h => h.mono fun a => (i a).mpr⟩
theorem W_eq {α : Type} {o : Option α} {a : α} {Q : α → Prop} (e : o = some a) (q : Q a) : W o Q := ⟨a, e, q⟩
end
/-! the same, looked into -/
def V {α : Type} (o : Option α) (Q : α → Prop) : Prop := ∃ a, o = some a ∧ Q a
def Bv (c P R : Prop) : Prop := (c → P) ∧ (¬c → R)
theorem W_V {α : Type} {o : Option α} {Q : α → Prop} : W o Q = V o Q := rfl
theorem Br_B {c P R : Prop} : Br c P R = Bv c P R := propext ⟨fun h => ⟨h.yes, h.no⟩, fun h => ⟨h.1, h.2⟩⟩
theorem V_bind {α β : Type} {o : Option α} {f : α → Option β} {Q : β → Prop} : V (o.bind f) Q ↔ V o fun a => V (f a) Q := W_bind
theorem V_some {α : Type} {a : α} {Q : α → Prop} : V (some a) Q ↔ Q a := W_some
theorem V_none {α : Type} {Q : α → Prop} : V none Q ↔ False := W_none
theorem V_map {α β : Type} {o : Option α} {f : α → β} {Q : β → Prop} : V (o.map f) Q ↔ V o fun a => Q (f a) := W_map
theorem V_if {α : Type} {c : Prop} [Decidable c] {a : Option α} {Q : α → Prop} : V (if c then a else none) Q ↔ c ∧ V a Q := W_if
theorem V_ite {α : Type} {c : Prop} [Decidable c] {a b : Option α} {Q : α → Prop} : V (if c then a else b) Q ↔ Bv c (V a Q) (V b Q) := by
  have := W_ite (c := c) (a := a) (b := b) (Q := Q)
  rw [Br_B] at this
  exact this
theorem V.mono {α : Type} {o : Option α} {Q Q' : α → Prop} (h : V o Q) (i : ∀ a, Q a → Q' a) : V o Q' := W.mono h i
/-! ### loops -/
/-- where a turn's end leads -/
def onFl (N : Env → Prop) (Q : Fl → Prop) : Fl → Prop
  | .nx ρ => N ρ
  | .ct ρ => N ρ
  | .bk ρ => Q (.nx ρ)
  | .rt d ρ => Q (.rt d ρ)
@[simp] theorem onFl_nx {N : Env → Prop} {Q : Fl → Prop} {ρ : Env} : onFl N Q (.nx ρ) = N ρ := rfl
@[simp] theorem onFl_ct {N : Env → Prop} {Q : Fl → Prop} {ρ : Env} : onFl N Q (.ct ρ) = N ρ := rfl
@[simp] theorem onFl_bk {N : Env → Prop} {Q : Fl → Prop} {ρ : Env} : onFl N Q (.bk ρ) = Q (.nx ρ) := rfl
@[simp] theorem onFl_rt {N : Env → Prop} {Q : Fl → Prop} {d : D} {ρ : Env} : onFl N Q (.rt d ρ) = Q (.rt d ρ) := rfl
theorem for_W {t : MT} {b : Env → Option Fl} {Q : Fl → Prop} (I : Nat → Env → Prop) : ∀ {xs : List D} {ρ : Env} {k : Nat}, I k ρ →
    (∀ i x ρ, xs[i]? = some x → I (k + i) ρ → W (bindT t x ρ) fun ρ1 => W (b ρ1) (onFl (I (k + i + 1)) Q)) → (∀ ρ, I (k + xs.length) ρ → Q (.nx ρ)) → W (forLoop t b xs ρ) Q
  | [], ρ, k, h0, hs, hd => by
    simp only [forLoop, W_some]
    exact hd ρ h0
  | x :: xs, ρ, k, h0, hs, hd => by
    simp only [forLoop, W_bind]
    refine (hs 0 x ρ rfl h0).mono fun ρ1 h1 => W_bind.mpr (h1.mono fun fl h2 => ?_)
    have go : ∀ ρ2, I (k + 1) ρ2 → W (forLoop t b xs ρ2) Q := fun ρ2 h => for_W I (k := k + 1) h (fun i y ρ hy hi => by
      have := hs (i + 1) y ρ (by simpa using hy) (by rw [← Nat.add_assoc, Nat.add_right_comm]; exact hi)
      rw [← Nat.add_assoc, Nat.add_right_comm k i 1] at this
      exact this) fun ρ h => hd ρ (by rw [List.length_cons, Nat.add_comm xs.length, ← Nat.add_assoc]; exact h)
    cases fl with
    | nx ρ2 => exact go ρ2 h2
    | ct ρ2 => exact go ρ2 h2
    | bk ρ2 => simp only [W_some]; exact h2
    | rt d ρ2 => simp only [W_some]; exact h2
theorem for_W0 {t : MT} {b : Env → Option Fl} {Q : Fl → Prop} {xs : List D} {ρ : Env} (I : Nat → Env → Prop) (h0 : I 0 ρ)
    (hs : ∀ i x ρ, xs[i]? = some x → I i ρ → W (bindT t x ρ) fun ρ1 => W (b ρ1) (onFl (I (i + 1)) Q)) (hd : ∀ ρ, I xs.length ρ → Q (.nx ρ)) : W (forLoop t b xs ρ) Q :=
  for_W I h0 (fun i x ρ hx hi => by rw [Nat.zero_add] at hi ⊢; exact hs i x ρ hx hi) fun ρ h => hd ρ (by rw [Nat.zero_add] at h; exact h)
/-- the invariant does not count -/
theorem for_Wc {t : MT} {b : Env → Option Fl} {Q : Fl → Prop} {xs : List D} {ρ : Env} (I : Env → Prop) (h0 : I ρ)
    (hs : ∀ x ρ, x ∈ xs → I ρ → W (bindT t x ρ) fun ρ1 => W (b ρ1) (onFl I Q)) (hd : ∀ ρ, I ρ → Q (.nx ρ)) : W (forLoop t b xs ρ) Q :=
  for_W0 (fun _ => I) h0 (fun i x ρ hx hi => hs x ρ (List.mem_of_getElem? hx) hi) hd
theorem comp_W {own : List Nat} {f : D → Env → Option (Option D × Env)} {Q : List D × Env → Prop} (I : Nat → Env → List D → Prop) : ∀ {xs : List D} {ρ : Env} {acc : List D} {k : Nat}, I k ρ acc →
    (∀ i x ρ acc, xs[i]? = some x → I (k + i) ρ acc → W (f x ρ) fun p => match p.1 with
      | some d => acc.length < line ∧ I (k + i + 1) (wipe p.2 own) (acc ++ [d])
      | none => I (k + i + 1) (wipe p.2 own) acc) → (∀ ρ acc, I (k + xs.length) ρ acc → Q (acc, ρ)) → W (compLoop own f xs ρ acc) Q
  | [], ρ, acc, k, h0, hs, hd => by
    simp only [compLoop, W_some]
    exact hd ρ acc h0
  | x :: xs, ρ, acc, k, h0, hs, hd => by
    simp only [compLoop, W_bind]
    refine (hs 0 x ρ acc rfl h0).mono fun p h2 => ?_
    have go : ∀ ρ2 acc2, I (k + 1) ρ2 acc2 → W (compLoop own f xs ρ2 acc2) Q := fun ρ2 acc2 h => comp_W I (k := k + 1) h (fun i y ρ acc hy hi => by
      have := hs (i + 1) y ρ acc (by simpa using hy) (by rw [← Nat.add_assoc, Nat.add_right_comm]; exact hi)
      rw [← Nat.add_assoc, Nat.add_right_comm k i 1] at this
      exact this) fun ρ acc h => hd ρ acc (by rw [List.length_cons, Nat.add_comm xs.length, ← Nat.add_assoc]; exact h)
    cases hp : p.1 with
    | some d =>
      rw [hp] at h2
      simp only at h2 ⊢
      rw [if_pos h2.1]
      exact go _ _ h2.2
    | none =>
      rw [hp] at h2
      exact go _ _ h2
theorem comp_W0 {own : List Nat} {f : D → Env → Option (Option D × Env)} {Q : List D × Env → Prop} {xs : List D} {ρ : Env} (I : Nat → Env → List D → Prop) (h0 : I 0 ρ [])
    (hs : ∀ i x ρ acc, xs[i]? = some x → I i ρ acc → W (f x ρ) fun p => match p.1 with
      | some d => acc.length < line ∧ I (i + 1) (wipe p.2 own) (acc ++ [d])
      | none => I (i + 1) (wipe p.2 own) acc) (hd : ∀ ρ acc, I xs.length ρ acc → Q (acc, ρ)) : W (compLoop own f xs ρ []) Q :=
  comp_W I h0 (fun i x ρ acc hx hi => by rw [Nat.zero_add] at hi ⊢; exact hs i x ρ acc hx hi) fun ρ acc h => hd ρ acc (by rw [Nat.zero_add] at h; exact h)
/-- a while, by a measure below the fuel -/
theorem while_W {c : Env → Option (D × Env)} {b : Env → Option Fl} {Q : Fl → Prop} (I : Nat → Env → Prop) (hs : ∀ m ρ, I m ρ → W (c ρ) fun q => (q.1 = .bl false ∧ Q (.nx q.2)) ∨ (q.1 = .bl true ∧ W (b q.2) (onFl (fun ρ => ∃ m', m' < m ∧ I m' ρ) Q))) :
    ∀ (fuel m : Nat) (ρ : Env), I m ρ → m < fuel → W (whileLoop c b fuel ρ) Q
  | 0, m, ρ, _, hf => absurd hf (Nat.not_lt_zero m)
  | fuel + 1, m, ρ, h, hf => by
    simp only [whileLoop, W_bind]
    refine (hs m ρ h).mono fun q hq => ?_
    rcases hq with ⟨e, hq⟩ | ⟨e, hq⟩
    · rw [e]
      simp only [asB, Option.bind_some, W_some, if_neg Bool.false_ne_true]
      exact hq
    · rw [e]
      simp only [asB, Option.bind_some, if_true, W_bind]
      refine hq.mono fun fl h2 => ?_
      cases fl with
      | nx ρ2 => obtain ⟨m', hm, h2⟩ := h2; exact while_W I hs fuel m' ρ2 h2 (by omega)
      | ct ρ2 => obtain ⟨m', hm, h2⟩ := h2; exact while_W I hs fuel m' ρ2 h2 (by omega)
      | bk ρ2 => simp only [W_some]; exact h2
      | rt d ρ2 => simp only [W_some]; exact h2
/-! ### names -/
@[simp] theorem get_zero {o : Option D} {r : Env} : get (o :: r) 0 = o := by cases o <;> rfl
@[simp] theorem get_succ {o : Option D} {r : Env} {i : Nat} : get (o :: r) (i + 1) = get r i := rfl
@[simp] theorem put_zero {o d : Option D} {r : Env} : put (o :: r) 0 d = d :: r := rfl
@[simp] theorem put_succ {o d : Option D} {r : Env} {i : Nat} : put (o :: r) (i + 1) d = o :: put r i d := rfl
/-! ### items -/
theorem at_0 {α : Type} {x : α} {r : List α} : at_ (x :: r) 0 = some x := by simp [at_, ixAt]
theorem at_1 {α : Type} {x y : α} {r : List α} : at_ (x :: y :: r) 1 = some y := by
  simp only [at_, ixAt, List.length_cons]
  rw [if_pos (by omega), if_pos (by omega)]; rfl
theorem at_2 {α : Type} {x y z : α} {r : List α} : at_ (x :: y :: z :: r) 2 = some z := by
  simp only [at_, ixAt, List.length_cons]
  rw [if_pos (by omega), if_pos (by omega)]; rfl
theorem at_3 {α : Type} {x y z u : α} {r : List α} : at_ (x :: y :: z :: u :: r) 3 = some u := by
  simp only [at_, ixAt, List.length_cons]
  rw [if_pos (by omega), if_pos (by omega)]; rfl
theorem at_nat {α : Type} {xs : List α} {n : Nat} {x : α} (h : xs[n]? = some x) : at_ xs (n : Int) = some x := by
  have hl := (List.getElem?_eq_some_iff.mp h).1
  simp only [at_, ixAt]
  rw [if_pos (by omega), if_pos (by omega)]
  simpa using h
theorem at_int {α : Type} {xs : List α} {i : Int} (h0 : 0 ≤ i) (h1 : i < xs.length) : ∃ x, at_ xs i = some x ∧ xs[i.toNat]? = some x := by
  have hn : i.toNat < xs.length := by omega
  refine ⟨xs[i.toNat], ?_, by simp [hn]⟩
  have := at_nat (xs := xs) (n := i.toNat) (x := xs[i.toNat]) (by simp [hn])
  rw [Int.toNat_of_nonneg h0] at this
  exact this
theorem ixAt_0 {n : Nat} : ixAt (n + 1) 0 = some 0 := by simp [ixAt]
theorem ixAt_1 {n : Nat} : ixAt (n + 1 + 1) 1 = some 1 := by
  unfold ixAt
  rw [if_pos (by omega), if_pos (by omega)]; rfl
theorem ixAt_2 {n : Nat} : ixAt (n + 1 + 1 + 1) 2 = some 2 := by
  unfold ixAt
  rw [if_pos (by omega), if_pos (by omega)]; rfl
theorem ixAt_nat {n m : Nat} (h : m < n) : ixAt n (m : Int) = some m := by
  unfold ixAt
  rw [if_pos (by omega), if_pos (by omega)]; simp
theorem cut_to {α : Type} {xs : List α} {n : Nat} : cut xs none (some (n : Int)) = xs.take n := by
  show (xs.drop 0).take (sEnd xs.length xs.length (some (n : Int)) - 0) = _
  simp only [sEnd, List.drop_zero, Nat.sub_zero, Int.toNat_natCast]
  rw [if_neg (by omega)]
  rcases Nat.le_total n xs.length with h | h
  · rw [Nat.min_eq_left h]
  · rw [Nat.min_eq_right h, List.take_of_length_le (Nat.le_refl _), List.take_of_length_le h]
theorem cut_from {α : Type} {xs : List α} {n : Nat} : cut xs (some (n : Int)) none = xs.drop n := by
  show (xs.drop (sEnd xs.length 0 (some (n : Int)))).take (xs.length - sEnd xs.length 0 (some (n : Int))) = _
  simp only [sEnd, Int.toNat_natCast]
  rw [if_neg (by omega)]
  rcases Nat.le_total n xs.length with h | h
  · rw [Nat.min_eq_left h, List.take_of_length_le (by rw [List.length_drop]; omega)]
  · rw [Nat.min_eq_right h, List.drop_of_length_le (Nat.le_refl _), List.drop_of_length_le h]; simp
theorem cut_from1 {α : Type} {xs : List α} {n : Nat} : cut xs (some ((n : Int) + 1)) none = xs.drop (n + 1) := by
  rw [show (n : Int) + 1 = ((n + 1 : Nat) : Int) by omega, cut_from]
theorem eqvL_nil {xs : List D} : D.eqvL xs [] = xs.isEmpty := by cases xs <;> rfl
theorem eqv_nil {o p : Ow} {xs : List D} : D.eqv (.lst o xs) (.lst p []) = xs.isEmpty := by
  cases xs <;> rfl
theorem sing_eq {a b : Nat} : ([a] = [b]) = (a = b) := by simp
/-! ### primitives -/
section
variable {Q : D → Prop} {a b : Int} {o p : Ow} {xs ys : List D} {s t : List Nat}
theorem W_gtBI {c : Bool} {b : Int} : W (evPrim (.cmp .gt) [.bl c, .int b]) Q ↔ Q (.bl (decide (b < if c = true then 1 else 0))) := by simp only [evPrim, evCmp, W_some]
theorem W_torN : W (torD .non) Q ↔ Q (.tup []) := W_some
theorem W_torL : W (torD (.lst o xs)) Q ↔ D.plainL xs = true ∧ Q (.tup xs) := by simp only [torD, W_if, W_some]
theorem W_torE : W (torD (.dct .shr [] [])) Q ↔ Q (.tup []) := W_some
theorem W_addIB {b : Bool} : W (evPrim .add [.int a, .bl b]) Q ↔ Q (.int (a + if b = true then 1 else 0)) := by simp only [evPrim, evAdd, W_some]
theorem W_addBI {a : Bool} : W (evPrim .add [.bl a, .int b]) Q ↔ Q (.int ((if a = true then 1 else 0) + b)) := by simp only [evPrim, evAdd, W_some]
theorem W_subIB {b : Bool} : W (evPrim .sub [.int a, .bl b]) Q ↔ Q (.int (a - if b = true then 1 else 0)) := by simp only [evPrim, evSub, W_some]
theorem W_subBI {a : Bool} : W (evPrim .sub [.bl a, .int b]) Q ↔ Q (.int ((if a = true then 1 else 0) - b)) := by simp only [evPrim, evSub, W_some]
theorem W_strB {b : Bool} : W (evPrim .str [.bl b]) Q ↔ Q (.str (if b = true then [84, 114, 117, 101] else [70, 97, 108, 115, 101])) := by simp only [evPrim, evStr, W_some]
theorem W_add : W (evPrim .add [.int a, .int b]) Q ↔ Q (.int (a + b)) := by simp only [evPrim, evAdd, W_some]
theorem W_addS : W (evPrim .add [.str s, .str t]) Q ↔ s.length + t.length ≤ line ∧ Q (.str (s ++ t)) := by simp only [evPrim, evAdd, W_if, W_some]
theorem W_addT : W (evPrim .add [.tup xs, .tup ys]) Q ↔ (xs.length + ys.length ≤ line ∧ D.plainL xs = true ∧ D.plainL ys = true) ∧ Q (.tup (xs ++ ys)) := by simp only [evPrim, evAdd, W_if, W_some]
theorem W_addL : W (evPrim .add [.lst o xs, .lst p ys]) Q ↔ (o ≠ .ext ∧ p ≠ .ext ∧ xs.length + ys.length ≤ line ∧ D.plainL xs = true ∧ D.plainL ys = true) ∧ Q (.lst .own (xs ++ ys)) := by simp only [evPrim, evAdd, W_if, W_some]
theorem W_sub : W (evPrim .sub [.int a, .int b]) Q ↔ Q (.int (a - b)) := by simp only [evPrim, evSub, W_some]
theorem W_mul : W (evPrim .mul [.int a, .int b]) Q ↔ ((small a || small b) = true ∨ a.natAbs.log2 + b.natAbs.log2 < 1000000) ∧ Q (.int (a * b)) := by simp only [evPrim, evMul, W_if, W_some]
abbrev SmOk (a b : Int) : Prop := (small a || small b) = true ∨ a.natAbs.log2 + b.natAbs.log2 < 1000000
theorem W_mulS : W (evPrim .mul [.str s, .int a]) Q ↔ (-(2 ^ 63) ≤ a ∧ a < 2 ^ 63 ∧ s.length * a.toNat ≤ line) ∧ Q (.str (List.replicate a.toNat s).flatten) := by simp only [evPrim, evMul, W_if, W_some]
theorem W_mulT : W (evPrim .mul [.tup xs, .int a]) Q ↔ (xs ≠ [] ∧ D.plainL xs = true ∧ 1 ≤ a ∧ a ≤ 1000 ∧ xs.length ≤ 1000) ∧ Q (.tup (List.replicate a.toNat xs).flatten) := by simp only [evPrim, evMul, W_if, W_some]
theorem W_fdivX : W (evPrim .fdiv [.int a, .int b]) Q ↔ (0 < b ∧ (b < 1073741824 ∨ b.natAbs.log2 < 9000)) ∧ Q (.int (a / b)) := by simp only [evPrim, evFdiv, W_if, W_some]
theorem W_fdiv : W (evPrim .fdiv [.int a, .int b]) Q ↔ (0 < b ∧ (b < 1073741824 ∨ b.natAbs.log2 < 9000)) ∧ Q (.int (a / b)) := W_fdivX
theorem W_mod : W (evPrim .mod [.int a, .int b]) Q ↔ 0 < b ∧ Q (.int (a % b)) := by simp only [evPrim, evMod, W_if, W_some]
theorem W_pow : W (evPrim .pow [.int a, .int b]) Q ↔ (0 ≤ b ∧ b ≤ 1000000 ∧ a.natAbs < 18446744073709551616) ∧ Q (.int (a ^ b.toNat)) := by simp only [evPrim, evPow, W_if, W_some]
theorem W_neg : W (evPrim .neg [.int a]) Q ↔ Q (.int (-a)) := by simp only [evPrim, evNeg, W_some]
theorem W_lt : W (evPrim (.cmp .lt) [.int a, .int b]) Q ↔ Q (.bl (decide (a < b))) := by simp only [evPrim, evCmp, W_some]
theorem W_le : W (evPrim (.cmp .le) [.int a, .int b]) Q ↔ Q (.bl (decide (a ≤ b))) := by simp only [evPrim, evCmp, W_some]
theorem W_gt : W (evPrim (.cmp .gt) [.int a, .int b]) Q ↔ Q (.bl (decide (b < a))) := by simp only [evPrim, evCmp, W_some]
theorem W_ge : W (evPrim (.cmp .ge) [.int a, .int b]) Q ↔ Q (.bl (decide (b ≤ a))) := by simp only [evPrim, evCmp, W_some]
theorem W_eqI : W (evPrim (.cmp .eq) [.int a, .int b]) Q ↔ Q (.bl (decide (a = b))) := by
  simp only [evPrim, evCmp, D.deep, D.eqv, W_if, W_some]
  rw [show (a == b) = decide (a = b) from rfl]
  simp [W_some]
theorem W_neI : W (evPrim (.cmp .ne) [.int a, .int b]) Q ↔ Q (.bl (!decide (a = b))) := by
  simp only [evPrim, evCmp, D.deep, D.eqv, W_if, W_some]
  rw [show (a == b) = decide (a = b) from rfl]
  simp [W_some]
theorem W_eqS : W (evPrim (.cmp .eq) [.str s, .str t]) Q ↔ Q (.bl (decide (s = t))) := by
  simp only [evPrim, evCmp, D.deep, D.eqv, W_if, W_some]
  rw [show (s == t) = decide (s = t) by rw [Bool.eq_iff_iff]; simp]
  simp [W_some]
theorem W_neS : W (evPrim (.cmp .ne) [.str s, .str t]) Q ↔ Q (.bl (!decide (s = t))) := by
  simp only [evPrim, evCmp, D.deep, D.eqv, W_if, W_some]
  rw [show (s == t) = decide (s = t) by rw [Bool.eq_iff_iff]; simp]
  simp [W_some]
theorem eE_T : eE (.tup xs) (.tup []) = true := rfl
theorem eE_L : eE (.lst o xs) (.lst p []) = true := rfl
theorem W_eqD {x y : D} : W (evPrim (.cmp .eq) [x, y]) Q ↔ ((x.deep ≤ 60 ∧ y.deep ≤ 60) ∨ eE x y = true) ∧ Q (.bl (x.eqv y)) := by simp only [evPrim, evCmp, W_if, W_some]
theorem W_neD {x y : D} : W (evPrim (.cmp .ne) [x, y]) Q ↔ ((x.deep ≤ 60 ∧ y.deep ≤ 60) ∨ eE x y = true) ∧ Q (.bl (!x.eqv y)) := by simp only [evPrim, evCmp, W_if, W_some]
theorem W_eqTT : W (evPrim (.cmp .eq) [.tup xs, .tup ys]) Q ↔ (((D.tup xs).deep ≤ 60 ∧ (D.tup ys).deep ≤ 60) ∨ eE (.tup xs) (.tup ys) = true) ∧ Q (.bl ((D.tup xs).eqv (.tup ys))) := W_eqD
theorem W_neTT : W (evPrim (.cmp .ne) [.tup xs, .tup ys]) Q ↔ (((D.tup xs).deep ≤ 60 ∧ (D.tup ys).deep ≤ 60) ∨ eE (.tup xs) (.tup ys) = true) ∧ Q (.bl (!(D.tup xs).eqv (.tup ys))) := W_neD
theorem W_eqLL : W (evPrim (.cmp .eq) [.lst o xs, .lst p ys]) Q ↔ (((D.lst o xs).deep ≤ 60 ∧ (D.lst p ys).deep ≤ 60) ∨ eE (.lst o xs) (.lst p ys) = true) ∧ Q (.bl ((D.lst o xs).eqv (.lst p ys))) := W_eqD
theorem W_neLL : W (evPrim (.cmp .ne) [.lst o xs, .lst p ys]) Q ↔ (((D.lst o xs).deep ≤ 60 ∧ (D.lst p ys).deep ≤ 60) ∨ eE (.lst o xs) (.lst p ys) = true) ∧ Q (.bl (!(D.lst o xs).eqv (.lst p ys))) := W_neD
theorem W_eqB {c d : Bool} : W (evPrim (.cmp .eq) [.bl c, .bl d]) Q ↔ Q (.bl (c == d)) := by
  refine W_eqD.trans ?_
  simp only [D.deep, D.eqv]
  simp
theorem W_neB {c d : Bool} : W (evPrim (.cmp .ne) [.bl c, .bl d]) Q ↔ Q (.bl (!(c == d))) := by
  refine W_neD.trans ?_
  simp only [D.deep, D.eqv]
  simp
theorem W_in {x y : D} : W (evPrim (.cmp .isin) [x, y]) Q ↔ W (evIn x y) fun c => Q (.bl c) := by simp only [evPrim, evCmp, W_map]
theorem W_notin {x y : D} : W (evPrim (.cmp .notin) [x, y]) Q ↔ W (evIn x y) fun c => Q (.bl (!c)) := by simp only [evPrim, evCmp, W_map]
theorem W_isN {x : D} : W (evPrim .isN [x]) Q ↔ Q (.bl (isNon x)) := by simp only [evPrim, W_some]
theorem W_isNotN {x : D} : W (evPrim .isNotN [x]) Q ↔ Q (.bl (!isNon x)) := by simp only [evPrim, W_some]
theorem W_isB {x y : Bool} : W (evPrim .isB [.bl x, .bl y]) Q ↔ Q (.bl (x == y)) := by
  simp only [evPrim, evIsB, W_some]
  rfl
theorem W_isNotB {x y : Bool} : W (evPrim .isNotB [.bl x, .bl y]) Q ↔ Q (.bl (x != y)) := by
  simp only [evPrim, evIsB, W_some]
  rfl
theorem W_pidx {x k : D} : W (evPrim .idx [x, k]) Q ↔ W (evItem x k) fun d => d.plain = true ∧ Q d := by
  simp only [evPrim, evIdx, W_bind]
  exact W_cg fun a => by simp only [W_if, W_some]
theorem W_itemT {k : Int} {R : D → Prop} : W (evItem (.tup xs) (.int k)) R ↔ W (at_ xs k) R := Iff.rfl
theorem W_itemL {k : Int} {R : D → Prop} : W (evItem (.lst o xs) (.int k)) R ↔ W (at_ xs k) R := Iff.rfl
theorem W_itemS {k : Int} {R : D → Prop} : W (evItem (.str s) (.int k)) R ↔ s.length ≤ line ∧ W (at_ s k) fun c => R (.str [c]) := by
  simp only [evItem, W_if, W_map]
theorem W_slcL {lo hi : Bool} {r : List D} {i j : Option Int} (h : optInt r [lo, hi] = some [i, j]) : W (evPrim (.slc lo hi) (.lst o xs :: r)) Q ↔ D.plainL xs = true ∧ Q (.lst .own (cut xs i j)) := by
  simp only [evPrim, h, evSlc, W_if, W_some]
theorem W_slcT {lo hi : Bool} {r : List D} {i j : Option Int} (h : optInt r [lo, hi] = some [i, j]) : W (evPrim (.slc lo hi) (.tup xs :: r)) Q ↔ D.plainL xs = true ∧ Q (.tup (cut xs i j)) := by
  simp only [evPrim, h, evSlc, W_if, W_some]
theorem W_slcS {lo hi : Bool} {r : List D} {i j : Option Int} (h : optInt r [lo, hi] = some [i, j]) : W (evPrim (.slc lo hi) (.str s :: r)) Q ↔ s.length ≤ line ∧ Q (.str (cut s i j)) := by
  simp only [evPrim, h, evSlc, W_if, W_some]
theorem optInt_ft {j : Int} : optInt [.int j] [false, true] = some [none, some j] := rfl
theorem optInt_tf {i : Int} : optInt [.int i] [true, false] = some [some i, none] := rfl
theorem optInt_tt {i j : Int} : optInt [.int i, .int j] [true, true] = some [some i, some j] := rfl
theorem optInt_ff : optInt [] [false, false] = some [none, none] := rfl
theorem W_slcL_ft {j : Int} : W (evPrim (.slc false true) [.lst o xs, .int j]) Q ↔ D.plainL xs = true ∧ Q (.lst .own (cut xs none (some j))) := W_slcL rfl
theorem W_slcL_tf {j : Int} : W (evPrim (.slc true false) [.lst o xs, .int j]) Q ↔ D.plainL xs = true ∧ Q (.lst .own (cut xs (some j) none)) := W_slcL rfl
theorem W_slcT_ft {j : Int} : W (evPrim (.slc false true) [.tup xs, .int j]) Q ↔ D.plainL xs = true ∧ Q (.tup (cut xs none (some j))) := W_slcT rfl
theorem W_slcT_tf {j : Int} : W (evPrim (.slc true false) [.tup xs, .int j]) Q ↔ D.plainL xs = true ∧ Q (.tup (cut xs (some j) none)) := W_slcT rfl
theorem W_slcS_ft {j : Int} : W (evPrim (.slc false true) [.str s, .int j]) Q ↔ s.length ≤ line ∧ Q (.str (cut s none (some j))) := W_slcS rfl
theorem W_slcS_tf {j : Int} : W (evPrim (.slc true false) [.str s, .int j]) Q ↔ s.length ≤ line ∧ Q (.str (cut s (some j) none)) := W_slcS rfl
mutual
theorem dph_le : ∀ d : D, d.deep < 1000 → d.dph ≤ d.deep
  | .non, _ => by simp [D.dph, D.deep]
  | .bl _, _ => by simp [D.dph, D.deep]
  | .int _, _ => by simp [D.dph, D.deep]
  | .str _, _ => by simp [D.dph, D.deep]
  | .tup xs, h => by simp only [D.deep, D.dph] at h ⊢; have := dphL_le xs (by omega); omega
  | .lst _ xs, h => by simp only [D.deep, D.dph] at h ⊢; have := dphL_le xs (by omega); omega
  | .dct _ _ _, h => by simp [D.deep] at h
theorem dphL_le : ∀ xs : List D, D.deepL xs < 1000 → D.dphL xs ≤ D.deepL xs
  | [], _ => by simp [D.dphL, D.deepL]
  | x :: r, h => by
    simp only [D.deepL, D.dphL] at h ⊢
    have := dph_le x (by omega)
    have := dphL_le r (by omega)
    omega
end
theorem W_revL : W (evPrim .rev [.lst o xs]) Q ↔ D.plainL xs = true ∧ Q (.lst .own xs.reverse) := by simp only [evPrim, evRev, W_if, W_some]
theorem W_revT : W (evPrim .rev [.tup xs]) Q ↔ D.plainL xs = true ∧ Q (.tup xs.reverse) := by simp only [evPrim, evRev, W_if, W_some]
theorem W_revS : W (evPrim .rev [.str s]) Q ↔ s.length ≤ line ∧ Q (.str s.reverse) := by simp only [evPrim, evRev, W_if, W_some]
theorem W_lrevL : W (evPrim .lrev [.lst o xs]) Q ↔ D.plainL xs = true ∧ Q (.lst .own xs.reverse) := by simp only [evPrim, evLrev, W_if, W_some]
theorem W_lenL : W (evPrim .len [.lst o xs]) Q ↔ Q (.int xs.length) := by simp only [evPrim, evLen, W_some]
theorem W_lenT : W (evPrim .len [.tup xs]) Q ↔ Q (.int xs.length) := by simp only [evPrim, evLen, W_some]
theorem W_lenS : W (evPrim .len [.str s]) Q ↔ s.length ≤ line ∧ Q (.int s.length) := by simp only [evPrim, evLen, W_if, W_some]
theorem W_tupL : W (evPrim .tuple [.lst o xs]) Q ↔ D.plainL xs = true ∧ Q (.tup xs) := by simp only [evPrim, evTuple, W_if, W_some]
theorem W_tupT : W (evPrim .tuple [.tup xs]) Q ↔ D.plainL xs = true ∧ Q (.tup xs) := by simp only [evPrim, evTuple, W_if, W_some]
theorem W_lstL : W (evPrim .list [.lst o xs]) Q ↔ D.plainL xs = true ∧ Q (.lst .own xs) := by simp only [evPrim, evList, W_if, W_some]
theorem W_lstT : W (evPrim .list [.tup xs]) Q ↔ D.plainL xs = true ∧ Q (.lst .own xs) := by simp only [evPrim, evList, W_if, W_some]
theorem W_intI : W (evPrim .int [.int a]) Q ↔ Q (.int a) := by simp only [evPrim, evInt, W_some]
theorem W_intB {c : Bool} : W (evPrim .int [.bl c]) Q ↔ Q (.int (if c = true then 1 else 0)) := by simp only [evPrim, evInt, W_some]
theorem W_strI : W (evPrim .str [.int a]) Q ↔ a.natAbs.log2 < 1920 ∧ Q (.str (decI a)) := by simp only [evPrim, evStr, W_if, W_some]
theorem W_sum : W (evPrim .sum [.lst o xs]) Q ↔ W (intsD xs) fun l => Q (.int l.sum) := by simp only [evPrim, evSum, W_map]
theorem W_sumT : W (evPrim .sum [.tup xs]) Q ↔ W (intsD xs) fun l => Q (.int l.sum) := by simp only [evPrim, evSum, W_map]
theorem W_stp {i k : Int} : W (evPrim .stp [.lst o xs, .int i, .int k]) Q ↔ (D.plainL xs = true ∧ 0 ≤ i ∧ 1 ≤ k) ∧ Q (.lst .own ((PySem.sliceRange (min i xs.length) xs.length k).filterMap (xs[·]?))) := by simp only [evPrim, evStp, W_if, W_some]
theorem W_band : W (evPrim .band [.int a, .int b]) Q ↔ Q (.int (PySem.Builtin.bitAnd a b)) := by simp only [evPrim, evBand, W_some]
theorem W_bor : W (evPrim .bor [.int a, .int b]) Q ↔ Q (.int (PySem.Builtin.bitOr a b)) := by simp only [evPrim, evBor, W_some]
theorem W_inv : W (evPrim .inv [.int a]) Q ↔ Q (.int (PySem.Builtin.bitNot a)) := by simp only [evPrim, evInv, W_some]
theorem W_shl : W (evPrim .shl [.int a, .int b]) Q ↔ (0 ≤ b ∧ b ≤ 100000 ∧ a.natAbs < 18446744073709551616) ∧ Q (.int (a * 2 ^ b.toNat)) := by simp only [evPrim, evShl, W_if, W_some]
theorem W_shr : W (evPrim .shr [.int a, .int b]) Q ↔ 0 ≤ b ∧ Q (.int (a / 2 ^ b.toNat)) := by simp only [evPrim, evShr, W_if, W_some]
theorem W_sortedD {ks : List Ky} : W (evPrim .sorted [.dct .own ks xs]) Q ↔ W (keysD ks) fun l => W (sortL l) Q := by simp only [evPrim, evSorted, W_bind, reduceCtorEq, if_false]
theorem W_inRg : W (evPrim .inRg [.int a, .int b]) Q ↔ Q (.bl (decide (0 ≤ a) && decide (a < b))) := by simp only [evPrim, evInRg, W_some, Bool.false_bne]
theorem W_ninRg : W (evPrim .ninRg [.int a, .int b]) Q ↔ Q (.bl (!(decide (0 ≤ a) && decide (a < b)))) := by simp only [evPrim, evInRg, W_some, Bool.true_bne]
theorem W_all : W (evPrim .all [.lst o xs]) Q ↔ W (boolsD xs) fun l => Q (.bl (l.all id)) := by simp only [evPrim, evAll, W_map]
theorem W_any : W (evPrim .any [.lst o xs]) Q ↔ W (boolsD xs) fun l => Q (.bl (l.any id)) := by simp only [evPrim, evAny, W_map]
theorem W_isi {ts : List Ty} {x : D} : W (evPrim (.isi ts) [x]) Q ↔ Q (.bl (ts.any fun t => tyIs t x)) := by simp only [evPrim, W_some]
theorem W_sorted : W (evPrim .sorted [.lst o xs]) Q ↔ W (evSorted (.lst o xs)) Q := by simp only [evPrim]
theorem W_join {y : D} : W (evPrim (.joinC s) [y]) Q ↔ W (evJoin (.str s) y) Q := by simp only [evPrim]
theorem W_repr {x : D} : W (evPrim .repr [x]) Q ↔ (x.dph ≤ 60 ∧ x.wt ≤ line ∧ x.shw = true) ∧ Q (.str (reprD x)) := by simp only [evPrim, evRepr, W_if, W_some]
theorem W_sortSet {x : D} : W (evPrim .sortSet [x]) Q ↔ W (evSortSet x) Q := by simp only [evPrim]
theorem W_lstRg : W (evPrim .lstRg [.int a]) Q ↔ (a ≤ 16777216 ∧ -16777216 ≤ a) ∧ Q (.lst .own ((rangeL 0 a.toNat).map D.int)) := by simp only [evPrim, evLstRg, W_if, W_some]
theorem W_max2 : W (evPrim .max2 [.int a, .int b]) Q ↔ Q (.int (if b > a then b else a)) := by simp only [evPrim, evMax2, W_some]
theorem W_min2 : W (evPrim .min2 [.int a, .int b]) Q ↔ Q (.int (if b < a then b else a)) := by simp only [evPrim, evMin2, W_some]
theorem W_abs : W (evPrim .abs [.int a]) Q ↔ Q (.int (if a < 0 then -a else a)) := by simp only [evPrim, evAbs, W_some]
end
end GN
end

section
set_option linter.all false
namespace GN
/-! one step of the evaluator, from the outside -/
def Nx (N : Env → Prop) (Q : Fl → Prop) : Fl → Prop
  | .nx ρ => N ρ
  | f => Q f
theorem Nx_nx {N : Env → Prop} {Q : Fl → Prop} {ρ : Env} : Nx N Q (.nx ρ) ↔ N ρ := Iff.rfl
theorem Nx_rt {N : Env → Prop} {Q : Fl → Prop} {d : D} {ρ : Env} : Nx N Q (.rt d ρ) ↔ Q (.rt d ρ) := Iff.rfl
theorem Nx_bk {N : Env → Prop} {Q : Fl → Prop} {ρ : Env} : Nx N Q (.bk ρ) ↔ Q (.bk ρ) := Iff.rfl
theorem Nx_ct {N : Env → Prop} {Q : Fl → Prop} {ρ : Env} : Nx N Q (.ct ρ) ↔ Q (.ct ρ) := Iff.rfl
def ownL : D → Option (List D)
  | .lst .own xs => some xs
  | _ => none
def asI : D → Option Int
  | .int i => some i
  | _ => none
def anyL : D → Option (Ow × List D)
  | .lst o xs => some (o, xs)
  | _ => none
/-- the block behind its first statements -/
def dropS : Nat → MSs → MSs
  | 0, b => b
  | _ + 1, .nil => .nil
  | n + 1, .cons _ r => dropS n r
/-- a loop's body -/
def bodyAt : Nat → MSs → MSs
  | 0, .cons (.for_ _ _ b) _ => b
  | n + 1, .cons _ r => bodyAt n r
  | _, _ => .nil
theorem W_cut {o : Option Fl} {N N' : Env → Prop} {Q : Fl → Prop} (h : W o (Nx N' Q)) (i : ∀ ρ, N' ρ → N ρ) : W o (Nx N Q) :=
  h.mono fun f q => by cases f <;> first | exact i _ q | exact q
/-- a test's two ways -/
theorem W_test {d : D} {α : Type} {a b : Option α} {Q : α → Prop} : (W (asB d) fun c => W (if c = true then a else b) Q) ↔ W (asB d) fun c => Br (c = true) (W a Q) (W b Q) := by
  simp only [W_V, Br_B, V_ite]
section
variable {C : Cfg} {ρ : Env}
theorem W_asB {b : Bool} {Q : Bool → Prop} : W (asB (.bl b)) Q ↔ Q b := W_some
theorem W_asI {i : Int} {Q : Int → Prop} : W (asI (.int i)) Q ↔ Q i := W_some
theorem W_ownL {xs : List D} {Q : List D → Prop} : W (ownL (.lst .own xs)) Q ↔ Q xs := W_some
theorem W_anyL {o : Ow} {xs : List D} {Q : Ow × List D → Prop} : W (anyL (.lst o xs)) Q ↔ Q (o, xs) := W_some
theorem V_asI {i : Int} {Q : Int → Prop} : V (asI (.int i)) Q ↔ Q i := W_some
theorem V_ownL {xs : List D} {Q : List D → Prop} : V (ownL (.lst .own xs)) Q ↔ Q xs := W_some
/-! atoms -/
section
variable {Q : D → Prop}
theorem A_var {i : Nat} : W (evA C (.var i) ρ) Q ↔ W (get ρ i) Q := by simp only [W_V, Br_B, evA]
theorem A_cst {d : D} : W (evA C (.cst d) ρ) Q ↔ Q d := by simp only [W_V, Br_B, evA, V_some]
theorem A_gbl {j : Nat} : W (evA C (.gbl j) ρ) Q ↔ W (C.gbl j) Q := by simp only [W_V, Br_B, evA]
theorem A_idx {a b : MA} : W (evA C (.idx a b) ρ) Q ↔ W (evA C a ρ) fun x => W (evA C b ρ) fun k => W (evItem x k) Q := by simp only [W_V, Br_B, evA, V_bind]
theorem A_prim {p : Prim} {as : MAs} : W (evA C (.prim p as) ρ) Q ↔ W (evAs C as ρ) fun ds => W (evPrim p ds) Q := by simp only [W_V, Br_B, evA, V_bind]
theorem A_and {a b : MA} : W (evA C (.and a b) ρ) Q ↔ W (evA C a ρ) fun x => W (asB x) fun c => Br (c = true) (W (evA C b ρ) Q) (Q (.bl false)) := by simp only [W_V, Br_B, evA, V_bind, V_ite, V_some]
theorem A_or {a b : MA} : W (evA C (.or a b) ρ) Q ↔ W (evA C a ρ) fun x => W (asB x) fun c => Br (c = true) (Q (.bl true)) (W (evA C b ρ) Q) := by simp only [W_V, Br_B, evA, V_bind, V_ite, V_some]
theorem A_not {a : MA} : W (evA C (.not a) ρ) Q ↔ W (evA C a ρ) fun x => W (asB x) fun c => Q (.bl (!c)) := by simp only [W_V, Br_B, evA, V_bind, V_some]
theorem A_tor {a : MA} : W (evA C (.tor a) ρ) Q ↔ W (evA C a ρ) fun x => W (torD x) Q := by simp only [W_V, Br_B, evA, V_bind]
theorem A_ite {c a b : MA} : W (evA C (.ite c a b) ρ) Q ↔ W (evA C c ρ) fun x => W (asB x) fun k => Br (k = true) (W (evA C a ρ) Q) (W (evA C b ρ) Q) := by simp only [W_V, Br_B, evA, V_bind, V_ite]
theorem A_chain {c d : Cop} {x y z : MA} : W (evA C (.chain c d x y z) ρ) Q ↔ W (evA C x ρ) fun u => W (evA C y ρ) fun v => W (evPrim (.cmp c) [u, v]) fun r => W (asB r) fun k => Br (k = true) (W (evA C z ρ) fun w => W (evPrim (.cmp d) [v, w]) Q) (Q (.bl false)) := by
  simp only [W_V, Br_B, evA, V_bind, V_ite, V_some, evPrim]
theorem A_tup {as : MAs} : W (evA C (.tup as) ρ) Q ↔ W (evAs C as ρ) fun ds => (D.plainL ds = true ∧ ds.length ≤ line) ∧ Q (.tup ds) := by simp only [W_V, Br_B, evA, V_bind, V_if, V_some]
theorem A_lst {as : MAs} : W (evA C (.lst as) ρ) Q ↔ W (evAs C as ρ) fun ds => (D.plainL ds = true ∧ ds.length ≤ line) ∧ Q (.lst .own ds) := by simp only [W_V, Br_B, evA, V_bind, V_if, V_some]
theorem As_nil {Q : List D → Prop} : W (evAs C .nil ρ) Q ↔ Q [] := by simp only [W_V, Br_B, evAs, V_some]
theorem As_cons {a : MA} {r : MAs} {Q : List D → Prop} : W (evAs C (.cons a r) ρ) Q ↔ W (evA C a ρ) fun d => W (evAs C r ρ) fun ds => Q (d :: ds) := by simp only [W_V, Br_B, evAs, V_bind, V_some]
end
/-- a list that is no one's to hand in -/
def shL : D → Option (List D)
  | .lst .own xs => some xs
  | .lst .shr xs => some xs
  | _ => none
theorem W_shL {xs : List D} {Q : List D → Prop} : W (shL (.lst .own xs)) Q ↔ Q xs := W_some
theorem A_ali {i n : Nat} {Q : D → Prop} : W (evA C (.ali i n) ρ) Q ↔ W (get ρ i) fun d => W (shL d) fun xs => W xs[n]? Q := by
  simp only [W_V, evA]
  cases h : get ρ i with
  | none => simp only [W_V, V_none]
  | some d =>
    simp only [V_some]
    cases d with
    | lst o xs => cases o <;> simp [shL, V_some, V_none]
    | _ => simp [shL, V_none]
/-- a dict that is no one's to hand in: the item at a text -/
def shK (s : List Nat) : D → Option D
  | .dct .own ks xs => (kAt ks (.s s)).bind fun n => xs[n]?
  | .dct .shr ks xs => (kAt ks (.s s)).bind fun n => xs[n]?
  | _ => none
theorem A_alk {i : Nat} {s : List Nat} {Q : D → Prop} : W (evA C (.alk i s) ρ) Q ↔ W (get ρ i) fun d => W (shK s d) Q := by
  simp only [W_V, evA]
  cases h : get ρ i with
  | none => simp only [W_V, V_none]
  | some d =>
    simp only [V_some]
    cases d with
    | dct o ks xs => cases o <;> simp [shK, V_some, V_none]
    | _ => simp [shK, V_none]
/-! places, targets -/
theorem P_v {i : Nat} {Q : List D → Prop} : W (getP C (.v i) ρ) Q ↔ W (get ρ i) fun d => W (ownL d) Q := by
  simp only [W_V, getP]
  cases h : get ρ i with
  | none => simp only [W_V, V_none]
  | some d =>
    simp only [W_V, V_some]
    cases d <;> try rfl
    rename_i o xs
    cases o <;> rfl
/-- an own list within a list or a dict -/
def itO : D → D → Option (List D)
  | .lst .own xs, .int j => (at_ xs j).bind ownL
  | .dct .own ks xs, .str s => ((kAt ks (.s s)).bind fun n => xs[n]?).bind ownL
  | .dct .own ks xs, .int s => ((kAt ks (.i s)).bind fun n => xs[n]?).bind ownL
  | _, _ => none
def putO : D → D → List D → Option D
  | .lst .own xs, .int j, ys => (ixAt xs.length j).map fun n => .lst .own (xs.set n (.lst .own ys))
  | .dct .own ks xs, .str s, ys => (kAt ks (.s s)).map fun n => .dct .own ks (xs.set n (.lst .own ys))
  | .dct .own ks xs, .int s, ys => (kAt ks (.i s)).map fun n => .dct .own ks (xs.set n (.lst .own ys))
  | _, _, _ => none
theorem W_itO_L {xs : List D} {j : Int} {Q : List D → Prop} : W (itO (.lst .own xs) (.int j)) Q ↔ W (at_ xs j) fun y => W (ownL y) Q := by simp only [itO, W_bind]
theorem W_itO_D {ks : List Ky} {xs : List D} {s : List Nat} {Q : List D → Prop} : W (itO (.dct .own ks xs) (.str s)) Q ↔ W (kAt ks (.s s)) fun n => W xs[n]? fun y => W (ownL y) Q := by simp only [itO, W_bind]
theorem W_putO_L {xs ys : List D} {j : Int} {Q : D → Prop} : W (putO (.lst .own xs) (.int j) ys) Q ↔ W (ixAt xs.length j) fun n => Q (.lst .own (xs.set n (.lst .own ys))) := by simp only [putO, W_map]
theorem W_putO_D {ks : List Ky} {xs ys : List D} {s : List Nat} {Q : D → Prop} : W (putO (.dct .own ks xs) (.str s) ys) Q ↔ W (kAt ks (.s s)) fun n => Q (.dct .own ks (xs.set n (.lst .own ys))) := by simp only [putO, W_map]
theorem own_m {o : Option D} : (match o with | some (D.lst .own ys) => some ys | _ => none) = o.bind ownL := by
  cases o with
  | none => rfl
  | some d => cases d <;> first | rfl | (rename_i o xs; cases o <;> rfl)
theorem P_s {i : Nat} {k : MA} {Q : List D → Prop} : W (getP C (.s i k) ρ) Q ↔ W (get ρ i) fun d => W (evA C k ρ) fun e => W (itO d e) Q := by
  have : getP C (.s i k) ρ = (get ρ i).bind fun d => (evA C k ρ).bind fun e => itO d e := by
    simp only [getP]
    cases h : get ρ i with
    | none => rfl
    | some d =>
      cases h2 : evA C k ρ with
      | none => cases d <;> first | rfl | (rename_i o _; cases o <;> rfl) | (rename_i o _ _; cases o <;> rfl)
      | some e =>
        simp only [Option.bind_some]
        cases d with
        | lst o xs => cases o <;> cases e <;> first | rfl | exact own_m
        | dct o ks xs => cases o <;> cases e <;> first | rfl | exact own_m
        | _ => rfl
  rw [this]
  simp only [W_V, V_bind]
theorem U_v {i : Nat} {ys : List D} {Q : Env → Prop} : W (putP C (.v i) ys ρ) Q ↔ Q (put ρ i (some (.lst .own ys))) := by simp only [W_V, Br_B, putP, V_some]
theorem U_s {i : Nat} {k : MA} {ys : List D} {Q : Env → Prop} : W (putP C (.s i k) ys ρ) Q ↔ W (get ρ i) fun d => W (evA C k ρ) fun e => W (putO d e ys) fun d' => Q (put ρ i (some d')) := by
  have : putP C (.s i k) ys ρ = (get ρ i).bind fun d => (evA C k ρ).bind fun e => (putO d e ys).map fun d' => put ρ i (some d') := by
    simp only [putP]
    cases h : get ρ i with
    | none => rfl
    | some d =>
      cases h2 : evA C k ρ with
      | none => cases d <;> first | rfl | (rename_i o _; cases o <;> rfl) | (rename_i o _ _; cases o <;> rfl)
      | some e =>
        simp only [Option.bind_some]
        cases d with
        | lst o xs => cases o <;> cases e <;> first | rfl | (simp only [putO, Option.map_map]; rfl)
        | dct o ks xs => cases o <;> cases e <;> first | rfl | (simp only [putO, Option.map_map]; rfl)
        | _ => rfl
  rw [this]
  simp only [W_V, V_bind, V_map]
theorem T_v {i : Nat} {d : D} {Q : Env → Prop} : W (bindT (.v i) d ρ) Q ↔ i < ρ.length ∧ Q (put ρ i (some d)) := by simp only [W_V, Br_B, bindT, V_if, V_some]
theorem T_t {ts : List MT} {xs : List D} {Q : Env → Prop} : W (bindT (.t ts) (.tup xs) ρ) Q ↔ W (bindTs ts xs ρ) Q := by simp only [W_V, Br_B, bindT]
theorem Ts_nil {Q : Env → Prop} : W (bindTs [] [] ρ) Q ↔ Q ρ := by simp only [W_V, Br_B, bindTs, V_some]
theorem Ts_cons {t : MT} {ts : List MT} {x : D} {xs : List D} {Q : Env → Prop} : W (bindTs (t :: ts) (x :: xs) ρ) Q ↔ W (bindT t x ρ) fun ρ1 => W (bindTs ts xs ρ1) Q := by simp only [W_V, Br_B, bindTs, V_bind]
/-! expressions -/
section
variable {Q : D × Env → Prop}
theorem E_at {a : MA} : W (ev C (.at_ a) ρ) Q ↔ W (evA C a ρ) fun d => d.plain = true ∧ Q (d, ρ) := by simp only [W_V, Br_B, ev, V_bind, V_if, V_some]
theorem E_frz {a : ME} : W (ev C (.frz a) ρ) Q ↔ W (ev C a ρ) fun q => Q (q.1.frz, q.2) := by simp only [W_V, Br_B, ev, V_bind, V_some]
theorem E_fz {i : Nat} : W (ev C (.fz i) ρ) Q ↔ W (get ρ i) fun d => Q (d.frz, put ρ i (some d.frz)) := by simp only [W_V, Br_B, ev, V_bind, V_some]
theorem E_mv {i : Nat} : W (ev C (.mv i) ρ) Q ↔ W (get ρ i) fun d => Q (d, put ρ i none) := by simp only [W_V, Br_B, ev, V_bind, V_some]
theorem E_po {p : Prim} {as : MOs} : W (ev C (.po p as) ρ) Q ↔ W (evOs C as ρ) fun q => W (evPrim p q.1) fun d => Q (d, q.2) := by simp only [W_V, Br_B, ev, V_bind, V_some]
theorem E_tup {as : MOs} : W (ev C (.tup as) ρ) Q ↔ W (evOs C as ρ) fun q => q.1.length ≤ line ∧ Q (.tup q.1, q.2) := by simp only [W_V, Br_B, ev, V_bind, V_if, V_some]
theorem E_lst {as : MOs} : W (ev C (.lst as) ρ) Q ↔ W (evOs C as ρ) fun q => q.1.length ≤ line ∧ Q (.lst .own q.1, q.2) := by simp only [W_V, Br_B, ev, V_bind, V_if, V_some]
theorem E_call {f : Nat} {as : MOs} : W (ev C (.call f as) ρ) Q ↔ W (evOs C as ρ) fun q => W (C.call f q.1) fun r => Q (r.1, lendBack as r.2 (emptyL as q.2)) := by simp only [W_V, Br_B, ev, V_bind, V_some]
theorem E_and {a b : ME} : W (ev C (.and a b) ρ) Q ↔ W (ev C a ρ) fun q => W (asB q.1) fun c => Br (c = true) (W (ev C b q.2) Q) (Q (.bl false, q.2)) := by simp only [W_V, Br_B, ev, V_bind, V_ite, V_some]
theorem E_or {a b : ME} : W (ev C (.or a b) ρ) Q ↔ W (ev C a ρ) fun q => W (asB q.1) fun c => Br (c = true) (Q (.bl true, q.2)) (W (ev C b q.2) Q) := by simp only [W_V, Br_B, ev, V_bind, V_ite, V_some]
theorem E_not {a : ME} : W (ev C (.not a) ρ) Q ↔ W (ev C a ρ) fun q => W (asB q.1) fun c => Q (.bl (!c), q.2) := by simp only [W_V, Br_B, ev, V_bind, V_some]
theorem E_ite {c a b : ME} : W (ev C (.ite c a b) ρ) Q ↔ W (ev C c ρ) fun q => W (asB q.1) fun k => Br (k = true) (W (ev C a q.2) Q) (W (ev C b q.2) Q) := by simp only [W_V, Br_B, ev, V_bind, V_ite]
/-- a comprehension's turn -/
def compF (C : Cfg) (t : MT) (c e : ME) (x : D) (ρ1 : Env) : Option (Option D × Env) := (bindT t x ρ1).bind fun ρ2 => (ev C c ρ2).bind fun q => (asB q.1).bind fun k => if k = true then (ev C e q.2).bind fun r => some (some r.1, r.2) else some (none, q.2)
theorem E_comp {own : List Nat} {t : MT} {it : MI} {c e : ME} : W (ev C (.comp own t it c e) ρ) Q ↔ W (evI C it ρ) fun s => W (compLoop own (compF C t c e) s.1 (wipe s.2.1 own) []) fun r => Q (.lst .own r.1, refill r.2 s.2.2) := by
  simp only [W_V, Br_B, ev, V_bind, V_some]; rfl
theorem C_turn {t : MT} {c e : ME} {x : D} {Q : Option D × Env → Prop} : W (compF C t c e x ρ) Q ↔ W (bindT t x ρ) fun ρ2 => W (ev C c ρ2) fun q => W (asB q.1) fun k => Br (k = true) (W (ev C e q.2) fun r => Q (some r.1, r.2)) (Q (none, q.2)) := by
  simp only [W_V, Br_B, compF, V_bind, V_ite, V_some]
theorem E_dct {ks : List Kx} {as : MOs} : W (ev C (.dct ks as) ρ) Q ↔ W (evOs C as ρ) fun q => (q.1.length = ks.length ∧ ks.Nodup ∧ ks.length ≤ 15) ∧ Q (.dct .own (ks.map Ky.x) q.1, q.2) := by simp only [W_V, Br_B, ev, V_bind, V_if, V_some]
/-- {k: v} -/
def dK1 : List D → Option D
  | [k, d] => (kxOf k).map fun kx => .dct .own [.x kx] [d]
  | _ => none
theorem W_dK1 {i : Int} {d : D} {R : D → Prop} : W (dK1 [.int i, d]) R ↔ R (.dct .own [.x (.i i)] [d]) := by simp only [dK1, kxOf, Option.map_some, W_some]
theorem E_dctK {as : MOs} : W (ev C (.dctK as) ρ) Q ↔ W (evOs C as ρ) fun q => W (dK1 q.1) fun d => Q (d, q.2) := by
  simp only [W_V, ev, V_bind]
  have key : ∀ (l : List D) (ρ : Env), V (match l with
      | [k, d] => (kxOf k).bind fun kx => some (D.dct .own [.x kx] [d], ρ)
      | _ => none) Q ↔ V (dK1 l) fun d => Q (d, ρ) := by
    intro l ρ
    unfold dK1
    split <;> simp only [V_bind, V_some, V_map, V_none]
  constructor
  · exact fun h => h.mono fun q h => (key _ _).mp h
  · exact fun h => h.mono fun q h => (key _ _).mpr h
theorem E_mt {m : Mt} {a : ME} {as : MOs} : W (ev C (.mt m a as) ρ) Q ↔ W (ev C a ρ) fun p => W (evOs C as p.2) fun q => W (evMt m p.1 q.1) fun d => Q (d, q.2) := by simp only [W_V, Br_B, ev, V_bind, V_some]
theorem E_mtp {m : Mt} {i : Nat} {as : MOs} : W (ev C (.mtp m i as) ρ) Q ↔ W (get ρ i) fun d0 => mtTy m d0 = true ∧ W (evOs C as ρ) fun q => W (get q.2 i) fun d => W (evMt m d q.1) fun r => Q (r, q.2) := by simp only [W_V, Br_B, ev, V_bind, V_some, V_if]
theorem E_pop0 {p : MP} : W (ev C (.pop p .nil) ρ) Q ↔ W (getP C p ρ) fun xs => W (at_ xs (-1)) fun d => W (putP C p xs.dropLast ρ) fun ρ1 => Q (d, ρ1) := by
  simp only [W_V, ev, evOs, V_bind, V_some]
  constructor
  · rintro ⟨xs, e, xs', e', h⟩
    rw [e] at e'; cases e'
    exact ⟨xs, e, h⟩
  · rintro ⟨xs, e, h⟩
    exact ⟨xs, e, xs, e, h⟩
theorem E_pop1 {p : MP} {k : MA} : W (ev C (.pop p (.ow (.at_ k) .nil)) ρ) Q ↔ W (getP C p ρ) fun xs => W (evA C k ρ) fun e => W (asI e) fun i => (-9223372036854775808 ≤ i ∧ i < 9223372036854775808) ∧ W (ixAt xs.length i) fun j => W xs[j]? fun d => W (putP C p (xs.eraseIdx j) ρ) fun ρ1 => Q (d, ρ1) := by
  simp only [W_V, ev, evOs, V_bind, V_some, V_if]
  constructor
  · rintro ⟨xs, e, d, e1, pl, xs', e', h⟩
    rw [e] at e'; cases e'
    refine ⟨xs, e, d, e1, ?_⟩
    cases d <;> first | (obtain ⟨_, z, _⟩ := h; cases z; done) | skip
    simp only [W_V, V_if, V_bind, V_some] at h
    simp only [W_V, V_asI]
    exact h
  · rintro ⟨xs, e, d, e1, h⟩
    cases d <;> first | (obtain ⟨_, z, _⟩ := h; cases z; done) | skip
    simp only [W_V, V_asI] at h
    refine ⟨xs, e, _, e1, rfl, xs, e, ?_⟩
    simp only [W_V, V_if, V_bind, V_some]
    exact h
end
theorem E_popE {p : MP} {e : ME} {Q : D × Env → Prop} : W (ev C (.pop p (.ow e .nil)) ρ) Q ↔ W (getP C p ρ) fun _ => W (ev C e ρ) fun q => W (getP C p q.2) fun xs => W (asI q.1) fun i => (-9223372036854775808 ≤ i ∧ i < 9223372036854775808) ∧ W (ixAt xs.length i) fun j => W xs[j]? fun d => W (putP C p (xs.eraseIdx j) q.2) fun ρ1 => Q (d, ρ1) := by
  simp only [W_V, ev, evOs, V_bind, V_some]
  constructor
  · refine fun h => h.mono fun xs0 h => h.mono fun q h => h.mono fun xs h => ?_
    obtain ⟨d, ρ1⟩ := q
    cases d <;> first | (obtain ⟨_, z, _⟩ := h; cases z; done) | skip
    simp only [W_V, V_if, V_bind, V_some] at h
    simp only [W_V, V_asI]
    exact h
  · refine fun h => h.mono fun xs0 h => h.mono fun q h => h.mono fun xs h => ?_
    obtain ⟨d, ρ1⟩ := q
    cases d <;> first | (obtain ⟨_, z, _⟩ := h; cases z; done) | skip
    simp only [W_V, V_asI] at h
    simp only [W_V, V_if, V_bind, V_some]
    exact h
theorem Os_nil {Q : List D × Env → Prop} : W (evOs C .nil ρ) Q ↔ Q ([], ρ) := by simp only [W_V, Br_B, evOs, V_some]
theorem Os_ow {e : ME} {r : MOs} {Q : List D × Env → Prop} : W (evOs C (.ow e r) ρ) Q ↔ W (ev C e ρ) fun q => W (evOs C r q.2) fun s => Q (q.1 :: s.1, s.2) := by simp only [W_V, Br_B, evOs, V_bind, V_some]
theorem Os_pl {i : Nat} {r : MOs} {Q : List D × Env → Prop} : W (evOs C (.pl i r) ρ) Q ↔ W (get ρ i) fun _ => W (evOs C r ρ) fun s => W (get s.2 i) fun d => Q (d :: s.1, s.2) := by simp only [W_V, Br_B, evOs, V_bind, V_some]
theorem Os_fl {i : Nat} {r : MOs} {Q : List D × Env → Prop} : W (evOs C (.fl i r) ρ) Q ↔ W (get ρ i) fun _ => W (evOs C r ρ) fun s => W (get s.2 i) fun d => Q (d.frz :: s.1, put s.2 i (some d.frz)) := by simp only [W_V, Br_B, evOs, V_bind, V_some]
theorem Os_ml {i : Nat} {r : MOs} {Q : List D × Env → Prop} : W (evOs C (.ml i r) ρ) Q ↔ W (get ρ i) fun _ => W (evOs C r ρ) fun s => W (get s.2 i) fun d => Q (d :: s.1, put s.2 i none) := by simp only [W_V, Br_B, evOs, V_bind, V_some]
/-! sources -/
section
variable {Q : Its → Prop}
theorem I_own {e : ME} : W (evI C (.own e) ρ) Q ↔ W (ev C e ρ) fun q => W (itemsOf q.1) fun xs => Q (xs, q.2, []) := by simp only [W_V, Br_B, evI, V_bind, V_some]
theorem I_take {i : Nat} : W (evI C (.take i) ρ) Q ↔ W (get ρ i) fun d => W (anyL d) fun p => D.plainL p.2 = true ∧ Q (p.2, put ρ i none, [(i, .lst p.1 p.2)]) := by
  simp only [evI]
  cases h : get ρ i with
  | none => simp only [W_none]
  | some d =>
    simp only [W_some]
    cases d <;> first | exact (W_none.trans W_none.symm) | skip
    simp only [W_anyL, W_if, W_some]
theorem I_rng {as : MOs} : W (evI C (.rng as) ρ) Q ↔ W (evOs C as ρ) fun q => W (rngOf q.1) fun xs => Q (xs, q.2, []) := by simp only [W_V, Br_B, evI, V_bind, V_some]
theorem I_enum {x : MI} : W (evI C (.enum x) ρ) Q ↔ W (evI C x ρ) fun s => Q (enumD 0 s.1, s.2) := by simp only [W_V, Br_B, evI, V_bind, V_some]
theorem I_zip {x y : MI} : W (evI C (.zip x y) ρ) Q ↔ W (evI C x ρ) fun s => W (evI C y s.2.1) fun u => Q (zipD s.1 u.1, u.2.1, s.2.2 ++ u.2.2) := by simp only [W_V, Br_B, evI, V_bind, V_some]
theorem I_zip3 {x y z : MI} : W (evI C (.zip3 x y z) ρ) Q ↔ W (evI C x ρ) fun s => W (evI C y s.2.1) fun u => W (evI C z u.2.1) fun v => Q (zip3D s.1 u.1 v.1, v.2.1, s.2.2 ++ (u.2.2 ++ v.2.2)) := by simp only [W_V, Br_B, evI, V_bind, V_some]
theorem I_rev {e : ME} : W (evI C (.rev e) ρ) Q ↔ W (ev C e ρ) fun q => W (seqOf q.1) fun xs => Q (xs.reverse, q.2, []) := by simp only [W_V, Br_B, evI, V_bind, V_some]
theorem I_revT {i : Nat} : W (evI C (.revT i) ρ) Q ↔ W (get ρ i) fun d => W (anyL d) fun p => D.plainL p.2 = true ∧ Q (p.2.reverse, put ρ i none, [(i, .lst p.1 p.2)]) := by
  simp only [evI]
  cases h : get ρ i with
  | none => simp only [W_none]
  | some d =>
    simp only [W_some]
    cases d <;> first | exact (W_none.trans W_none.symm) | skip
    simp only [W_anyL, W_if, W_some]
theorem I_revR {e : ME} : W (evI C (.revR e) ρ) Q ↔ W (ev C e ρ) fun q => W (rngOf [q.1]) fun xs => Q (xs.reverse, q.2, []) := by simp only [W_V, Br_B, evI, V_bind, V_some]
theorem sq_L {o : Ow} {xs : List D} {Q : List D → Prop} : W (seqOf (.lst o xs)) Q ↔ D.plainL xs = true ∧ Q xs := by simp only [W_V, Br_B, seqOf, V_if, V_some]
theorem sq_T {xs : List D} {Q : List D → Prop} : W (seqOf (.tup xs)) Q ↔ D.plainL xs = true ∧ Q xs := by simp only [W_V, Br_B, seqOf, V_if, V_some]
theorem it_L {o : Ow} {xs : List D} {Q : List D → Prop} : W (itemsOf (.lst o xs)) Q ↔ D.plainL xs = true ∧ Q xs := by simp only [W_V, Br_B, itemsOf, V_if, V_some]
theorem it_T {xs : List D} {Q : List D → Prop} : W (itemsOf (.tup xs)) Q ↔ D.plainL xs = true ∧ Q xs := by simp only [W_V, Br_B, itemsOf, V_if, V_some]
theorem it_S {s : List Nat} {Q : List D → Prop} : W (itemsOf (.str s)) Q ↔ Q (s.map fun c => .str [c]) := by simp only [W_V, Br_B, itemsOf, V_some]
theorem rg_1 {b : Int} {Q : List D → Prop} : W (rngOf [.int b]) Q ↔ (-4611686018427387904 ≤ b ∧ b < 4611686018427387904) ∧ Q (rangeD 0 b.toNat) := by simp only [W_V, Br_B, rngOf, V_if, V_some]
theorem rg_2 {a b : Int} {Q : List D → Prop} : W (rngOf [.int a, .int b]) Q ↔ (-4611686018427387904 ≤ a ∧ a < 4611686018427387904 ∧ -4611686018427387904 ≤ b ∧ b < 4611686018427387904) ∧ Q (rangeD a (b - a).toNat) := by simp only [W_V, Br_B, rngOf, V_if, V_some]
theorem rg_3 {a b c : Int} {Q : List D → Prop} : W (rngOf [.int a, .int b, .int c]) Q ↔ (-4611686018427387904 ≤ a ∧ a < 4611686018427387904 ∧ -4611686018427387904 ≤ b ∧ b < 4611686018427387904 ∧ c ≠ 0 ∧ c.natAbs < 1073741824) ∧ Q (rangeCD a c (PySem.Builtin.Range.rangeSize a b c).toNat) := by simp only [rngOf, W_if, W_some]
end
/-! statements -/
section
variable {Q : Fl → Prop}
theorem S_nil : W (exs C .nil ρ) Q ↔ Q (.nx ρ) := by simp only [W_V, Br_B, exs, V_some]
theorem S_cons {s : MS} {r : MSs} : W (exs C (.cons s r) ρ) Q ↔ W (ex C s ρ) (Nx (fun ρ1 => W (exs C r ρ1) Q) Q) := by
  simp only [exs, W_bind]
  constructor
  · refine fun h => h.mono fun f q => ?_
    cases f <;> first | exact q | exact (show Q _ from W_some.mp q)
  · refine fun h => h.mono fun f q => ?_
    cases f <;> first | exact q | exact W_some.mpr (show Q _ from q)
theorem S_asg {t : MT} {e : ME} : W (ex C (.asg t e) ρ) Q ↔ W (ev C e ρ) fun q => W (bindT t q.1 q.2) fun ρ1 => Q (.nx ρ1) := by simp only [W_V, Br_B, ex, V_bind, V_some]
theorem S_setI {p : MP} {k e : ME} : W (ex C (.setI p k e) ρ) Q ↔ W (ev C e ρ) fun q => W (getP C p q.2) fun _ => W (ev C k q.2) fun s => W (getP C p s.2) fun xs => W (asI s.1) fun i => W (ixAt xs.length i) fun j => W (putP C p (xs.set j q.1) s.2) fun ρ1 => Q (.nx ρ1) := by
  simp only [W_V, ex, V_bind]
  constructor
  · refine fun h => h.mono fun q h => h.mono fun _ h => h.mono fun s h => h.mono fun xs h => ?_
    obtain ⟨d, ρ1⟩ := s
    cases d <;> first | (obtain ⟨_, z, _⟩ := h; cases z; done) | skip
    simp only [W_V, V_bind, V_some] at h
    simp only [W_V, V_asI]
    exact h
  · refine fun h => h.mono fun q h => h.mono fun _ h => h.mono fun s h => h.mono fun xs h => ?_
    obtain ⟨d, ρ1⟩ := s
    cases d <;> first | (obtain ⟨_, z, _⟩ := h; cases z; done) | skip
    simp only [W_V, V_asI] at h
    simp only [W_V, V_bind, V_some]
    exact h
def ownD : D → Option (List Ky × List D)
  | .dct .own ks xs => some (ks, xs)
  | _ => none
/-- the items of a dict behind a key's setting -/
def setK (ks : List Ky) (xs : List D) (k : Kx) (d : D) : D := match kAt ks k with
  | some n => .dct .own ks (xs.set n d)
  | none => .dct .own (ks ++ [.x k]) (xs ++ [d])
theorem S_setD {i : Nat} {k : MA} {e : ME} : W (ex C (.setD i k e) ρ) Q ↔ W (ev C e ρ) fun q => W (evA C k q.2) fun kd => W (kxOf kd) fun kx => W (get q.2 i) fun d => W (ownD d) fun p => (p.1.Nodup ∧ p.2.length < line) ∧ Q (.nx (put q.2 i (some (setK p.1 p.2 kx q.1)))) := by
  simp only [W_V, ex, V_bind]
  have key : ∀ (ρ : Env) (kx : Kx) (d0 : D), V (match get ρ i with
      | some (.dct .own ks xs) => if ks.Nodup ∧ xs.length < line then match kAt ks kx with
        | some n => some (Fl.nx (put ρ i (some (.dct .own ks (xs.set n d0)))))
        | none => some (.nx (put ρ i (some (.dct .own (ks ++ [.x kx]) (xs ++ [d0])))))
        else none
      | _ => none) Q ↔ V (get ρ i) fun d => V (ownD d) fun p => (p.1.Nodup ∧ p.2.length < line) ∧ Q (.nx (put ρ i (some (setK p.1 p.2 kx d0)))) := by
    intro ρ kx d0
    cases h : get ρ i with
    | none => simp only [V_none]
    | some d =>
      simp only [V_some]
      cases d with
      | dct o ks xs =>
        cases o with
        | own =>
          simp only [ownD, V_some, V_if]
          unfold setK
          cases kAt ks kx <;> simp only [V_some]
        | _ => simp only [ownD, V_none]
      | _ => simp only [ownD, V_none]
  constructor
  · exact fun h => h.mono fun q h => h.mono fun kd h => h.mono fun kx h => (key _ _ _).mp h
  · exact fun h => h.mono fun q h => h.mono fun kd h => h.mono fun kx h => (key _ _ _).mpr h
theorem S_setE {i : Nat} {k : ME} {e : ME} : W (ex C (.setE i k e) ρ) Q ↔ W (ev C e ρ) fun q => W (get q.2 i) fun _ => W (ev C k q.2) fun s => W (kxOf s.1) fun kx => W (get s.2 i) fun d => W (ownD d) fun p => (p.1.Nodup ∧ p.2.length < line) ∧ Q (.nx (put s.2 i (some (setK p.1 p.2 kx q.1)))) := by
  simp only [W_V, ex, V_bind]
  have key : ∀ (ρ : Env) (kx : Kx) (d0 : D), V (match get ρ i with
      | some (.dct .own ks xs) => if ks.Nodup ∧ xs.length < line then match kAt ks kx with
        | some n => some (Fl.nx (put ρ i (some (.dct .own ks (xs.set n d0)))))
        | none => some (.nx (put ρ i (some (.dct .own (ks ++ [.x kx]) (xs ++ [d0])))))
        else none
      | _ => none) Q ↔ V (get ρ i) fun d => V (ownD d) fun p => (p.1.Nodup ∧ p.2.length < line) ∧ Q (.nx (put ρ i (some (setK p.1 p.2 kx d0)))) := by
    intro ρ kx d0
    cases h : get ρ i with
    | none => simp only [V_none]
    | some d =>
      simp only [V_some]
      cases d with
      | dct o ks xs =>
        cases o with
        | own =>
          simp only [ownD, V_some, V_if]
          unfold setK
          cases kAt ks kx <;> simp only [V_some]
        | _ => simp only [ownD, V_none]
      | _ => simp only [ownD, V_none]
  constructor
  · exact fun h => h.mono fun q h => h.mono fun d9 h => h.mono fun kd h => h.mono fun kx h => (key _ _ _).mp h
  · exact fun h => h.mono fun q h => h.mono fun d9 h => h.mono fun kd h => h.mono fun kx h => (key _ _ _).mpr h
/-- d.setdefault(k, []).append(x) -/
def sdaK (ks : List Ky) (xs : List D) (kx : Kx) (d : D) : Option D := match kAt ks kx with
  | some n => match xs[n]? with
    | some (.lst .own ys) => if ys.length < line then some (.dct .own ks (xs.set n (.lst .own (ys ++ [d])))) else none
    | _ => none
  | none => some (.dct .own (ks ++ [.x kx]) (xs ++ [.lst .own [d]]))
theorem S_sda {i j : Nat} {k : MA} : W (ex C (.sda i k j) ρ) Q ↔ W (get ρ i) fun d0 => W (evA C k ρ) fun kd => W (kxOf kd) fun kx => W (get ρ j) fun d => W (ownD d0) fun p => (d.plain = true ∧ p.1.Nodup ∧ p.2.length < line) ∧ W (sdaK p.1 p.2 kx d) fun e => Q (.nx (put ρ i (some e))) := by
  have : ex C (.sda i k j) ρ = (get ρ i).bind fun d0 => (evA C k ρ).bind fun kd => (kxOf kd).bind fun kx => (get ρ j).bind fun d => (ownD d0).bind fun p => if d.plain = true ∧ p.1.Nodup ∧ p.2.length < line then (sdaK p.1 p.2 kx d).map fun e => Fl.nx (put ρ i (some e)) else none := by
    simp only [ex]
    cases h : get ρ i with
    | none => rfl
    | some d0 =>
      cases h2 : evA C k ρ with
      | none => cases d0 <;> first | rfl | (rename_i o _; cases o <;> rfl) | (rename_i o _ _; cases o <;> rfl)
      | some kd =>
        simp only [Option.bind_some]
        cases d0 with
        | dct o ks xs =>
          cases o with
          | own =>
            simp only [ownD, Option.bind_some]
            cases hk : kxOf kd with
            | none => rfl
            | some kx =>
              simp only [Option.bind_some]
              cases hj : get ρ j with
              | none => rfl
              | some d =>
                simp only [Option.bind_some]
                by_cases hc : d.plain = true ∧ ks.Nodup ∧ xs.length < line
                · rw [if_pos hc, if_pos hc]
                  unfold sdaK
                  cases hn : kAt ks kx with
                  | none => rfl
                  | some n =>
                    simp only [getP, putP, h, h2, hk, Option.bind_some, hn]
                    cases hx : xs[n]? with
                    | none => rfl
                    | some y =>
                      cases y with
                      | lst o ys =>
                        cases o with
                        | own =>
                          simp only [Option.bind_some]
                          by_cases hl : ys.length < line
                          · rw [if_pos hl, if_pos hl]; rfl
                          · rw [if_neg hl, if_neg hl]; rfl
                        | _ => rfl
                      | _ => rfl
                · rw [if_neg hc, if_neg hc]
          | _ => cases kxOf kd <;> first | rfl | (simp only [Option.bind_some]; cases get ρ j <;> rfl)
        | _ => cases kxOf kd <;> first | rfl | (simp only [Option.bind_some]; cases get ρ j <;> rfl)
  rw [this]
  simp only [W_V, V_bind, V_if, V_map]
theorem S_app {p : MP} {e : ME} : W (ex C (.app p e) ρ) Q ↔ W (getP C p ρ) fun _ => W (ev C e ρ) fun q => W (getP C p q.2) fun xs => xs.length < line ∧ W (putP C p (xs ++ [q.1]) q.2) fun ρ1 => Q (.nx ρ1) := by simp only [W_V, Br_B, ex, V_bind, V_if, V_some]
theorem S_ext {p : MP} {e : ME} : W (ex C (.ext p e) ρ) Q ↔ W (getP C p ρ) fun _ => W (ev C e ρ) fun q => W (getP C p q.2) fun xs => W (ownL q.1) fun ys => xs.length + ys.length ≤ line ∧ W (putP C p (xs ++ ys) q.2) fun ρ1 => Q (.nx ρ1) := by
  simp only [W_V, ex, V_bind]
  constructor
  · refine fun h => h.mono fun q h => h.mono fun s h => h.mono fun xs h => ?_
    obtain ⟨d, ρ1⟩ := s
    cases d with
    | lst o ys =>
      cases o with
      | own =>
        simp only [W_V, V_bind, V_some, V_if] at h
        simp only [W_V, V_ownL]
        exact h
      | _ => obtain ⟨_, z, _⟩ := h; cases z
    | _ => obtain ⟨_, z, _⟩ := h; cases z
  · refine fun h => h.mono fun q h => h.mono fun s h => h.mono fun xs h => ?_
    obtain ⟨d, ρ1⟩ := s
    cases d with
    | lst o ys =>
      cases o with
      | own =>
        simp only [W_V, V_ownL] at h
        simp only [W_V, V_bind, V_some, V_if]
        exact h
      | _ => obtain ⟨_, z, _⟩ := h; cases z
    | _ => obtain ⟨_, z, _⟩ := h; cases z
theorem S_ins {p : MP} {k e : ME} : W (ex C (.ins p k e) ρ) Q ↔ W (getP C p ρ) fun _ => W (ev C k ρ) fun s => W (ev C e s.2) fun q => W (getP C p q.2) fun xs => W (asI s.1) fun i => (0 ≤ i ∧ i < 9223372036854775808 ∧ xs.length < line) ∧ W (putP C p (xs.take i.toNat ++ [q.1] ++ xs.drop i.toNat) q.2) fun ρ1 => Q (.nx ρ1) := by
  simp only [W_V, ex, V_bind]
  constructor
  · refine fun h => h.mono fun q0 h => h.mono fun s h => h.mono fun q h => h.mono fun xs h => ?_
    obtain ⟨d, ρ1⟩ := s
    cases d <;> first | (obtain ⟨_, z, _⟩ := h; cases z; done) | skip
    simp only [W_V, V_bind, V_some, V_if] at h
    simp only [W_V, V_asI]
    exact h
  · refine fun h => h.mono fun q0 h => h.mono fun s h => h.mono fun q h => h.mono fun xs h => ?_
    obtain ⟨d, ρ1⟩ := s
    cases d <;> first | (obtain ⟨_, z, _⟩ := h; cases z; done) | skip
    simp only [W_V, V_asI] at h
    simp only [W_V, V_bind, V_some, V_if]
    exact h
theorem S_alk {j i : Nat} {s : List Nat} : W (ex C (.alk j i s) ρ) Q ↔ W (get ρ i) fun d => j < ρ.length ∧ W (shK s d) fun _ => Q (.nx (put ρ j none)) := by
  simp only [W_V, ex]
  cases h : get ρ i with
  | none => simp only [W_V, V_none]
  | some d =>
    simp only [V_some]
    cases d with
    | dct o ks xs =>
      cases o with
      | ext => simp [shK, V_none]
      | own =>
        by_cases hj : j < ρ.length
        · simp [shK, hj, V_bind, V_some]
        · simp [shK, hj, V_none]
      | shr =>
        by_cases hj : j < ρ.length
        · simp [shK, hj, V_bind, V_some]
        · simp [shK, hj, V_none]
    | _ => simp [shK, V_none]
theorem S_ali {j i n : Nat} : W (ex C (.ali j i n) ρ) Q ↔ W (get ρ i) fun d => W (shL d) fun xs => j < ρ.length ∧ W xs[n]? fun _ => Q (.nx (put ρ j none)) := by
  simp only [W_V, ex]
  cases h : get ρ i with
  | none => simp only [W_V, V_none]
  | some d =>
    simp only [V_some]
    cases d with
    | lst o xs =>
      cases o with
      | ext => simp [shL, V_none]
      | _ =>
        simp only [shL, V_some]
        by_cases hj : j < ρ.length
        · rw [if_neg (by simp [hj]), V_bind]
          simp only [V_some, hj, true_and]
        · rw [if_pos (by simp [hj])]
          simp only [V_none, hj, false_and]
    | _ => simp [shL, V_none]
theorem S_expr {e : ME} : W (ex C (.expr e) ρ) Q ↔ W (ev C e ρ) fun q => Q (.nx q.2) := by simp only [W_V, Br_B, ex, V_bind, V_some]
theorem S_ife {c : ME} {a b : MSs} : W (ex C (.ife c a b) ρ) Q ↔ W (ev C c ρ) fun q => W (asB q.1) fun k => Br (k = true) (W (exs C a q.2) Q) (W (exs C b q.2) Q) := by simp only [W_V, Br_B, ex, V_bind, V_ite]
theorem S_for {t : MT} {it : MI} {b : MSs} : W (ex C (.for_ t it b) ρ) Q ↔ W (evI C it ρ) fun s => W (forLoop t (exs C b) s.1 s.2.1) fun f => Q (f.refill s.2.2) := by simp only [W_V, Br_B, ex, V_bind, V_some]
theorem S_while {c : ME} {b : MSs} : W (ex C (.while_ c b) ρ) Q ↔ W (whileLoop (ev C c) (exs C b) C.fuel ρ) Q := by simp only [W_V, Br_B, ex]
theorem S_ret {e : ME} : W (ex C (.ret e) ρ) Q ↔ W (ev C e ρ) fun q => Q (.rt q.1 q.2) := by simp only [W_V, Br_B, ex, V_bind, V_some]
theorem S_retN : W (ex C .retN ρ) Q ↔ Q (.rt .non ρ) := by simp only [W_V, Br_B, ex, V_some]
theorem S_brk : W (ex C .brk ρ) Q ↔ Q (.bk ρ) := by simp only [W_V, Br_B, ex, V_some]
theorem S_cont : W (ex C .cont ρ) Q ↔ Q (.ct ρ) := by simp only [W_V, Br_B, ex, V_some]
theorem S_pass : W (ex C .pass ρ) Q ↔ Q (.nx ρ) := by simp only [W_V, Br_B, ex, V_some]
theorem refill_nil {f : Fl} : f.refill [] = f := by cases f <;> rfl
theorem refill_nx {l : List (Nat × D)} : (Fl.nx ρ).refill l = .nx (GN.refill ρ l) := rfl
theorem refill_rt {l : List (Nat × D)} {d : D} : (Fl.rt d ρ).refill l = .rt d ρ := rfl
/-- a def's call -/
theorem D_run {d : Dm} {vs : List D} {Q : D × List (Option D) → Prop} (hl : vs.length = d.np) (h : W (exs C d.body (vs.map some ++ List.replicate (d.nn - d.np) none)) fun f => match f with
    | .rt v ρ => ρ.length = d.nn ∧ Q (v, (wipe ρ d.asg).take d.np)
    | .nx ρ => ρ.length = d.nn ∧ Q (.non, (wipe ρ d.asg).take d.np)
    | _ => False) : W (runD C (some d) vs) Q := by
  simp only [runD, if_pos hl, W_bind]
  refine h.mono fun f h => ?_
  cases f with
  | rt v ρ => simp only [W_if, W_some]; exact h
  | nx ρ => simp only [W_if, W_some]; exact h
  | bk ρ => exact h.elim
  | ct ρ => exact h.elim
end
end
theorem call_W {ms : List Dm} {consts : List D} {fuel n j : Nat} {d : Dm} {vs : List D} {Q : D × List (Option D) → Prop} (hd : ms[j]? = some d) (h : W (runD (cfg ms consts fuel n) (some d) vs) Q) : W ((cfg ms consts fuel (n + 1)).call j vs) Q := by
  simp only [cfg, hd]
  exact h
theorem gbl_cfg {ms : List Dm} {consts : List D} {fuel n j : Nat} : (cfg ms consts fuel n).gbl j = consts[j]? := by cases n <;> rfl
theorem at_W {α : Type} {xs : List α} {i : Int} {Q : α → Prop} (h0 : 0 ≤ i) (h1 : i < xs.length) (q : ∀ x ∈ xs, Q x) : W (at_ xs i) Q := by
  obtain ⟨x, e, m⟩ := at_int h0 h1
  exact ⟨x, e, q x (List.mem_of_getElem? m)⟩
theorem rangeD_mem : ∀ {n : Nat} {lo : Int} {d : D}, d ∈ rangeD lo n → ∃ i : Int, d = .int i ∧ lo ≤ i ∧ i < lo + n
  | 0, _, _, h => by simp [rangeD] at h
  | n + 1, lo, d, h => by
    simp only [rangeD, List.mem_cons] at h
    rcases h with rfl | h
    · exact ⟨lo, rfl, Int.le_refl _, by omega⟩
    · obtain ⟨i, e, h1, h2⟩ := rangeD_mem h
      exact ⟨i, e, by omega, by omega⟩
theorem rangeD_length : ∀ {n : Nat} {lo : Int}, (rangeD lo n).length = n
  | 0, _ => rfl
  | n + 1, lo => by simp [rangeD, rangeD_length (n := n)]
theorem rangeD_at : ∀ {n : Nat} {lo : Int} {i : Nat} {d : D}, (rangeD lo n)[i]? = some d → d = .int (lo + i)
  | 0, _, _, _, h => by simp [rangeD] at h
  | n + 1, lo, 0, d, h => by simp [rangeD] at h; rw [← h]; simp
  | n + 1, lo, i + 1, d, h => by
    have := rangeD_at (n := n) (lo := lo + 1) (i := i) (by simpa [rangeD] using h)
    rw [this]; congr 1; omega
theorem sm_l {a b : Int} (h1 : -18446744073709551616 < a) (h2 : a < 18446744073709551616) : (small a || small b) = true ∨ a.natAbs.log2 + b.natAbs.log2 < 1000000 := .inl (by simp [small, h1, h2])
theorem sm_r {a b : Int} (h1 : -18446744073709551616 < b) (h2 : b < 18446744073709551616) : (small a || small b) = true ∨ a.natAbs.log2 + b.natAbs.log2 < 1000000 := .inl (by simp [small, h1, h2])
end GN
end

section
set_option linter.all false
set_option maxRecDepth 100000
namespace GN
local macro_rules
  | `(tactic| exists $es,*) => `(tactic| (repeat (first | simp only [A_var, A_cst, A_gbl, A_idx, A_prim, A_and, A_or, A_not, A_ite, A_chain, A_tup, A_lst, A_ali, As_nil, As_cons, P_v, P_s, U_v, U_s, T_v, T_t, Ts_nil, Ts_cons, E_at, E_frz, E_fz, E_mv, E_po, E_tup, E_lst, E_call, E_and, E_or, E_not, E_ite, E_comp, C_turn, E_pop0, E_pop1, Os_nil, Os_ow, Os_pl, Os_fl, Os_ml, I_own, I_take, I_rng, I_enum, I_zip, I_zip3, I_rev, I_revT, I_revR, sq_L, sq_T, it_L, it_T, it_S, rg_1, rg_2, S_nil, S_cons, S_asg, S_setI, S_setD, S_setE, E_mt, E_mtp, E_dctK, W_dK1, S_sda, rg_3, W_itO_L, W_itO_D, W_putO_L, W_putO_D, E_dct, S_app, S_ext, S_ins, S_expr, S_ali, S_ife, S_for, S_while, S_ret, S_retN, S_brk, S_cont, S_pass, W_asB, W_asI, W_ownL, W_anyL, W_shL, Nx_nx, Nx_rt, Nx_bk, Nx_ct, W_some, Br_true, Br_false, wipe, refill, emptyL, lendBack, refill_nil, refill_nx, refill_rt, W_none, W_map, eqvL_nil, eqv_nil, W_add, W_addS, W_addT, W_addL, W_sub, W_mul, W_mulS, W_fdiv, W_mod, W_pow, W_neg, W_lt, W_le, W_gt, W_ge, W_eqI, W_neI, W_eqS, W_neS, W_eqTT, W_neTT, W_eqLL, W_neLL, W_eqB, W_neB, W_in, W_notin, W_isN, W_isNotN, W_isB, W_isNotB, W_pidx, W_itemT, W_itemL, W_itemS, W_slcL_ft, W_slcL_tf, W_slcT_ft, W_slcT_tf, W_slcS_ft, W_slcS_tf, W_lenL, W_lenT, W_lenS, W_tupL, W_tupT, W_lstL, W_lstT, W_intI, W_intB, W_strI, W_sum, W_band, W_bor, W_inv, W_shl, W_shr, W_sortedD, W_inRg, W_ninRg, W_all, W_any, W_isi, W_sorted, W_sortSet, W_lstRg, W_repr, W_join, W_max2, W_min2, W_abs, at_0, at_1, at_2, at_3, ixAt_0, ixAt_1, ixAt_2, get_zero, get_succ, put_zero, put_succ, Int.reduceToNat, Int.reducePow, Int.reduceLE, Int.reduceLT, Int.reduceAdd, Int.reduceSub, Int.reduceMul, Int.reduceDiv, Int.reduceMod, Int.reduceNeg, Int.reduceEq, Int.reduceGT, Nat.reduceAdd, Nat.reduceSub, Nat.reduceMul, Nat.reduceLT, Nat.reduceLeDiff, Nat.reduceEqDiff, Nat.zero_add, Nat.lt_add_left_iff_pos, D.plain, D.plainL, Ow.isOwn, D.frz, Ow.frz, List.isEmpty_nil, List.isEmpty_cons, List.length_cons, List.length_nil, Bool.and_true, Bool.true_and, Bool.not_true, Bool.not_false, Bool.false_eq_true, if_false, if_true, reduceIte, true_and, and_true, decide_true, decide_false, decide_eq_true_eq, List.map_cons, List.map_nil, List.set_cons_zero, List.take_succ_cons, List.take_zero, Int.toNat_zero, List.set_cons_succ, List.getElem?_cons_zero, List.getElem?_cons_succ, Option.bind_some, Option.map_some, Int.cast_ofNat_Int, Int.natCast_zero, Int.natCast_one, List.any_cons, List.any_nil, tyIs, sing_eq, false_and, and_false, Bool.or_false, Bool.or_true, Bool.false_or, Bool.true_or, $[$es:term],*] | (refine And.intro ?_ ?_; focus (first | decide | omega | exact Or.inr rfl | exact Or.inl ⟨deep_cons_ints, by decide⟩ | exact Or.inl ⟨deep_lst_ints, by decide⟩ | exact deep_cons_ints | exact ⟨deep_cons_ints, by decide⟩ | exact ⟨deep_lst_ints, by decide⟩ | (apply sm_l <;> omega) | (apply sm_r <;> omega) | (simp [line, D.plain, D.plainL]; done) | (simp [line, D.plain, D.plainL]; omega))))))
/-! the deck of a script, and what is drawn of it -/
def deckB : MSs := (.cons (.asg (.v 1) (.at_ (.prim .add (.cons (.cst (.int 48271)) (.cons (.prim .mod (.cons (.prim .sum (.cons (.prim (.slc false true) (.cons (.var 0) (.cons (.cst (.int 63)) .nil))) .nil)) (.cons (.cst (.int 2147483629)) .nil))) .nil))))) (.cons (.ret (.lst (.ow (.po .list (.ow (.po (.slc false true) (.pl 0 (.ow (.at_ (.cst (.int 63))) .nil))) .nil)) (.ow (.at_ (.var 1)) .nil)))) .nil))
def drawB : MSs := (.cons (.ife (.at_ (.prim (.cmp .eq) (.cons (.idx (.var 0) (.cst (.int 0))) (.cons (.lst .nil) .nil)))) (.cons (.setI (.v 0) (.at_ (.cst (.int 1))) (.at_ (.prim .mod (.cons (.prim .add (.cons (.prim .add (.cons (.prim .mul (.cons (.idx (.var 0) (.cst (.int 1))) (.cons (.idx (.var 0) (.cst (.int 1))) .nil))) (.cons (.prim .mul (.cons (.cst (.int 48271)) (.cons (.idx (.var 0) (.cst (.int 1))) .nil))) .nil))) (.cons (.cst (.int 11)) .nil))) (.cons (.cst (.int 2147483647)) .nil))))) (.cons (.setI (.v 0) (.at_ (.cst (.int 1))) (.at_ (.prim .mod (.cons (.prim .add (.cons (.prim .add (.cons (.prim .mul (.cons (.idx (.var 0) (.cst (.int 1))) (.cons (.idx (.var 0) (.cst (.int 1))) .nil))) (.cons (.prim .mul (.cons (.cst (.int 69621)) (.cons (.idx (.var 0) (.cst (.int 1))) .nil))) .nil))) (.cons (.cst (.int 7)) .nil))) (.cons (.cst (.int 2147483629)) .nil))))) (.cons (.ret (.at_ (.prim .mod (.cons (.prim .fdiv (.cons (.idx (.var 0) (.cst (.int 1))) (.cons (.cst (.int 8)) .nil))) (.cons (.var 1) .nil))))) .nil))) .nil) (.cons (.asg (.v 2) (.pop (.s 0 (.cst (.int 0))) (.ow (.at_ (.cst (.int 0))) .nil))) (.cons (.ife (.at_ (.prim (.cmp .ge) (.cons (.var 2) (.cons (.prim .pow (.cons (.cst (.int 10)) (.cons (.cst (.int 18)) .nil))) .nil)))) (.cons (.ins (.s 0 (.cst (.int 0))) (.at_ (.cst (.int 0))) (.at_ (.prim .fdiv (.cons (.var 2) (.cons (.var 1) .nil))))) (.cons (.ret (.at_ (.prim .mod (.cons (.var 2) (.cons (.var 1) .nil))))) .nil)) .nil) (.cons (.setI (.v 0) (.at_ (.cst (.int 1))) (.at_ (.prim .mod (.cons (.prim .add (.cons (.idx (.var 0) (.cst (.int 1))) (.cons (.cst (.int 69621)) .nil))) (.cons (.cst (.int 2147483629)) .nil))))) (.cons (.asg (.v 3) (.at_ (.prim .mod (.cons (.prim .add (.cons (.prim .mul (.cons (.prim .mod (.cons (.var 2) (.cons (.cst (.int 2147483647)) .nil))) (.cons (.cst (.int 48271)) .nil))) (.cons (.idx (.var 0) (.cst (.int 1))) .nil))) (.cons (.cst (.int 2147483629)) .nil))))) (.cons (.ret (.at_ (.prim .mod (.cons (.prim .fdiv (.cons (.prim .mod (.cons (.prim .add (.cons (.prim .mul (.cons (.var 3) (.cons (.var 3) .nil))) (.cons (.prim .mul (.cons (.cst (.int 16807)) (.cons (.var 3) .nil))) .nil))) (.cons (.cst (.int 2147483587)) .nil))) (.cons (.cst (.int 8)) .nil))) (.cons (.var 1) .nil))))) .nil))))))
def deckD (cells : List Int) (seed : Int) : D := .lst .own [.lst .own (cells.map D.int), .int seed]
def DeckOk (d : D) : Prop := ∃ cells seed, d = deckD cells seed ∧ cells.length ≤ 63 ∧ 0 ≤ seed ∧ seed < 4294967296
theorem plain_ints : ∀ l : List Int, D.plainL (l.map D.int) = true
  | [] => rfl
  | x :: r => by simp [D.plainL, D.plain, plain_ints r]
theorem deep_ints : ∀ l : List Int, D.deepL (l.map D.int) ≤ 1
  | [] => by simp [D.deepL]
  | x :: r => by simp [D.deepL, D.deep, deep_ints r]
theorem deep_lst_ints {o : Ow} {l : List Int} : (D.lst o (l.map D.int)).deep ≤ 60 := by
  have := deep_ints l
  simp only [D.deep]; omega
theorem deep_cons_ints {o : Ow} {c : Int} {l : List Int} : (D.lst o (D.int c :: l.map D.int)).deep ≤ 60 := deep_lst_ints (l := c :: l)
theorem draw_W {C : Cfg} {d : D} {most : Int} {Q : Fl → Prop} (hd : DeckOk d) (h1 : 1 ≤ most) (h2 : most < 1073741824)
    (q : ∀ r d' x y, 0 ≤ r → r < most → DeckOk d' → Q (.rt (.int r) [some d', some (.int most), x, y])) : W (exs C drawB [some d, some (.int most), none, none]) Q := by
  obtain ⟨cells, seed, rfl, hl, s0, s1⟩ := hd
  have m0 : 0 < most := by omega
  have ml : ∀ x : Int, 0 ≤ x % most ∧ x % most < most := fun x => ⟨Int.emod_nonneg _ (by omega), Int.emod_lt_of_pos _ m0⟩
  cases cells with
  | nil =>
    exists drawB, deckD
    (repeat (refine And.intro ?_ ?_; focus (first | decide | omega | exact Or.inr rfl | exact Or.inl ⟨deep_cons_ints, by decide⟩ | exact Or.inl ⟨deep_lst_ints, by decide⟩ | exact deep_cons_ints | exact ⟨deep_cons_ints, by decide⟩ | exact ⟨deep_lst_ints, by decide⟩ | (apply sm_l <;> omega) | (apply sm_r <;> omega) | (simp [line, D.plain, D.plainL]; done) | (simp [line, D.plain, D.plainL]; omega))))
    exact q _ _ _ _ (ml _).1 (ml _).2 ⟨[], _, rfl, by decide, by omega, by omega⟩
  | cons c cells =>
    simp only [List.length_cons] at hl
    exists drawB, deckD
    (repeat (refine And.intro ?_ ?_; focus (first | decide | omega | exact Or.inr rfl | exact Or.inl ⟨deep_cons_ints, by decide⟩ | exact Or.inl ⟨deep_lst_ints, by decide⟩ | exact deep_cons_ints | exact ⟨deep_cons_ints, by decide⟩ | exact ⟨deep_lst_ints, by decide⟩ | (apply sm_l <;> omega) | (apply sm_r <;> omega) | (simp [line, D.plain, D.plainL]; done) | (simp [line, D.plain, D.plainL]; omega))))
    refine ⟨fun hc => ?_, fun hc => ?_⟩
    · exists line
      (repeat (refine And.intro ?_ ?_; focus (first | decide | omega | exact Or.inr rfl | exact Or.inl ⟨deep_cons_ints, by decide⟩ | exact Or.inl ⟨deep_lst_ints, by decide⟩ | exact deep_cons_ints | exact ⟨deep_cons_ints, by decide⟩ | exact ⟨deep_lst_ints, by decide⟩ | (apply sm_l <;> omega) | (apply sm_r <;> omega) | (simp [line, D.plain, D.plainL]; done) | (simp [line, D.plain, D.plainL]; omega))))
      exact q _ _ _ _ (ml _).1 (ml _).2 ⟨c / most :: cells, seed, rfl, by simp; omega, s0, s1⟩
    · exists line
      (repeat (refine And.intro ?_ ?_; focus (first | decide | omega | exact Or.inr rfl | exact Or.inl ⟨deep_cons_ints, by decide⟩ | exact Or.inl ⟨deep_lst_ints, by decide⟩ | exact deep_cons_ints | exact ⟨deep_cons_ints, by decide⟩ | exact ⟨deep_lst_ints, by decide⟩ | (apply sm_l <;> omega) | (apply sm_r <;> omega) | (simp [line, D.plain, D.plainL]; done) | (simp [line, D.plain, D.plainL]; omega))))
      exact q _ _ _ _ (ml _).1 (ml _).2 ⟨cells, _, rfl, by omega, by omega, by omega⟩
theorem ints_map : ∀ l : List Int, intsD (l.map D.int) = some l
  | [] => rfl
  | x :: r => by simp [intsD, ints_map r]
theorem cut_ints {l : List Int} {lo hi : Option Int} : cut (l.map D.int) lo hi = (cut l lo hi).map D.int := by
  simp [cut, List.map_take, List.map_drop]
theorem cut_63 {α : Type} {l : List α} (h : l.length ≤ 63) : cut l none (some 63) = l := by
  have e : sEnd l.length l.length (some 63) = l.length := by
    show (if (63 : Int) < 0 then ((63 : Int) + l.length).toNat else min (Int.toNat 63) l.length) = l.length
    rw [if_neg (by decide)]
    exact Nat.min_eq_right h
  show (l.drop 0).take (sEnd l.length l.length (some 63) - 0) = l
  rw [e]
  simp
theorem deck_W {C : Cfg} {l : List Int} {Q : Fl → Prop} (hl : l.length ≤ 63) (q : ∀ d' x y, DeckOk d' → Q (.rt d' [some x, y])) : W (exs C deckB [some (.lst .ext (l.map D.int)), none]) Q := by
  exists deckB, cut_ints, cut_63 hl, ints_map, plain_ints
  (repeat (refine And.intro ?_ ?_; focus (first | decide | omega | exact Or.inr rfl | exact Or.inl ⟨deep_cons_ints, by decide⟩ | exact Or.inl ⟨deep_lst_ints, by decide⟩ | exact deep_cons_ints | exact ⟨deep_cons_ints, by decide⟩ | exact ⟨deep_lst_ints, by decide⟩ | (apply sm_l <;> omega) | (apply sm_r <;> omega) | (simp [line, D.plain, D.plainL]; done) | (simp [line, D.plain, D.plainL]; omega))))
  exact q _ _ _ ⟨l, _, rfl, hl, by omega, by omega⟩
end GN
end

section
set_option linter.all false
set_option maxRecDepth 100000
namespace GN
local macro_rules
  | `(tactic| exists $es,*) => `(tactic| (repeat (first | simp only [A_var, A_cst, A_gbl, A_idx, A_prim, A_and, A_or, A_not, A_ite, A_chain, A_tup, A_lst, A_ali, As_nil, As_cons, P_v, P_s, U_v, U_s, T_v, T_t, Ts_nil, Ts_cons, E_at, E_frz, E_fz, E_mv, E_po, E_tup, E_lst, E_call, E_and, E_or, E_not, E_ite, E_comp, C_turn, E_pop0, E_pop1, Os_nil, Os_ow, Os_pl, Os_fl, Os_ml, I_own, I_take, I_rng, I_enum, I_zip, I_zip3, I_rev, I_revT, I_revR, sq_L, sq_T, it_L, it_T, it_S, rg_1, rg_2, S_nil, S_cons, S_asg, S_setI, S_setD, S_setE, E_mt, E_mtp, E_dctK, W_dK1, S_sda, rg_3, W_itO_L, W_itO_D, W_putO_L, W_putO_D, E_dct, S_app, S_ext, S_ins, S_expr, S_ali, S_ife, S_for, S_while, S_ret, S_retN, S_brk, S_cont, S_pass, W_asB, W_asI, W_ownL, W_anyL, W_shL, Nx_nx, Nx_rt, Nx_bk, Nx_ct, W_some, Br_true, Br_false, wipe, refill, emptyL, lendBack, refill_nil, refill_nx, refill_rt, W_none, W_map, eqvL_nil, eqv_nil, W_add, W_addS, W_addT, W_addL, W_sub, W_mul, W_mulS, W_fdiv, W_mod, W_pow, W_neg, W_lt, W_le, W_gt, W_ge, W_eqI, W_neI, W_eqS, W_neS, W_eqTT, W_neTT, W_eqLL, W_neLL, W_eqB, W_neB, W_in, W_notin, W_isN, W_isNotN, W_isB, W_isNotB, W_pidx, W_itemT, W_itemL, W_itemS, W_slcL_ft, W_slcL_tf, W_slcT_ft, W_slcT_tf, W_slcS_ft, W_slcS_tf, W_lenL, W_lenT, W_lenS, W_tupL, W_tupT, W_lstL, W_lstT, W_intI, W_intB, W_strI, W_sum, W_band, W_bor, W_inv, W_shl, W_shr, W_sortedD, W_inRg, W_ninRg, W_all, W_any, W_isi, W_sorted, W_sortSet, W_lstRg, W_repr, W_join, W_max2, W_min2, W_abs, at_0, at_1, at_2, at_3, ixAt_0, ixAt_1, ixAt_2, get_zero, get_succ, put_zero, put_succ, Int.reduceToNat, Int.reducePow, Int.reduceLE, Int.reduceLT, Int.reduceAdd, Int.reduceSub, Int.reduceMul, Int.reduceDiv, Int.reduceMod, Int.reduceNeg, Int.reduceEq, Int.reduceGT, Nat.reduceAdd, Nat.reduceSub, Nat.reduceMul, Nat.reduceLT, Nat.reduceLeDiff, Nat.reduceEqDiff, Nat.zero_add, Nat.lt_add_left_iff_pos, D.plain, D.plainL, Ow.isOwn, D.frz, Ow.frz, List.isEmpty_nil, List.isEmpty_cons, List.length_cons, List.length_nil, Bool.and_true, Bool.true_and, Bool.not_true, Bool.not_false, Bool.false_eq_true, if_false, if_true, reduceIte, true_and, and_true, decide_true, decide_false, decide_eq_true_eq, List.map_cons, List.map_nil, List.set_cons_zero, List.take_succ_cons, List.take_zero, Int.toNat_zero, List.set_cons_succ, List.getElem?_cons_zero, List.getElem?_cons_succ, Option.bind_some, Option.map_some, Int.cast_ofNat_Int, Int.natCast_zero, Int.natCast_one, List.any_cons, List.any_nil, tyIs, sing_eq, false_and, and_false, Bool.or_false, Bool.or_true, Bool.false_or, Bool.true_or, plain_ints, List.length_map, $[$es:term],*] | (refine And.intro ?_ ?_; focus (first | decide | omega | exact Or.inr rfl | exact Or.inl ⟨deep_cons_ints, by decide⟩ | exact Or.inl ⟨deep_lst_ints, by decide⟩ | exact deep_cons_ints | exact ⟨deep_cons_ints, by decide⟩ | exact ⟨deep_lst_ints, by decide⟩ | (apply sm_l <;> omega) | (apply sm_r <;> omega) | (simp [line, D.plain, D.plainL]; done) | (simp [line, D.plain, D.plainL]; omega))))))
/-! the deck whose third part counts -/
def deckB2 : MSs := (.cons (.ret (.lst (.ow (.po .list (.ow (.po (.slc false true) (.pl 0 (.ow (.at_ (.cst (.int 63))) .nil))) .nil)) (.ow (.at_ (.prim .add (.cons (.cst (.int 48271)) (.cons (.prim .mod (.cons (.prim .sum (.cons (.prim (.slc false true) (.cons (.var 0) (.cons (.cst (.int 63)) .nil))) .nil)) (.cons (.cst (.int 2147483629)) .nil))) .nil)))) (.ow (.at_ (.cst (.int 0))) .nil))))) .nil)
def drawB2 : MSs := (.cons (.ali 2 0 0) (.cons (.ife (.at_ (.and (.prim (.cmp .ne) (.cons (.ali 0 0) (.cons (.lst .nil) .nil))) (.prim (.cmp .ge) (.cons (.idx (.ali 0 0) (.cst (.int 0))) (.cons (.prim .pow (.cons (.cst (.int 10)) (.cons (.cst (.int 18)) .nil))) .nil))))) (.cons (.asg (.v 5) (.at_ (.prim .mod (.cons (.idx (.ali 0 0) (.cst (.int 0))) (.cons (.var 1) .nil))))) (.cons (.setI (.s 0 (.cst (.int 0))) (.at_ (.cst (.int 0))) (.at_ (.prim .fdiv (.cons (.idx (.ali 0 0) (.cst (.int 0))) (.cons (.var 1) .nil))))) (.cons (.ret (.at_ (.var 5))) .nil))) .nil) (.cons (.setI (.v 0) (.at_ (.cst (.int 2))) (.at_ (.prim .add (.cons (.idx (.var 0) (.cst (.int 2))) (.cons (.cst (.int 1)) .nil))))) (.cons (.asg (.v 3) (.at_ (.idx (.var 0) (.cst (.int 1))))) (.cons (.ife (.at_ (.prim (.cmp .ne) (.cons (.ali 0 0) (.cons (.lst .nil) .nil)))) (.cons (.asg (.v 3) (.po .add (.ow (.at_ (.var 3)) (.ow (.pop (.s 0 (.cst (.int 0))) (.ow (.at_ (.cst (.int 0))) .nil)) .nil)))) .nil) .nil) (.cons (.asg (.v 4) (.at_ (.prim .mod (.cons (.prim .add (.cons (.prim .add (.cons (.prim .mul (.cons (.prim .mod (.cons (.var 3) (.cons (.cst (.int 2147483629)) .nil))) (.cons (.cst (.int 48271)) .nil))) (.cons (.prim .mul (.cons (.cst (.int 69621)) (.cons (.idx (.var 0) (.cst (.int 2))) .nil))) .nil))) (.cons (.cst (.int 7919)) .nil))) (.cons (.cst (.int 2147483647)) .nil))))) (.cons (.asg (.v 4) (.at_ (.prim .mod (.cons (.prim .add (.cons (.prim .add (.cons (.prim .mul (.cons (.var 4) (.cons (.var 4) .nil))) (.cons (.prim .mul (.cons (.cst (.int 39373)) (.cons (.var 4) .nil))) .nil))) (.cons (.idx (.var 0) (.cst (.int 2))) .nil))) (.cons (.cst (.int 2147483587)) .nil))))) (.cons (.setI (.v 0) (.at_ (.cst (.int 1))) (.at_ (.var 4))) (.cons (.ret (.at_ (.prim .mod (.cons (.prim .fdiv (.cons (.prim .mod (.cons (.prim .mul (.cons (.var 4) (.cons (.prim .add (.cons (.var 4) (.cons (.cst (.int 16807)) .nil))) .nil))) (.cons (.cst (.int 2147483563)) .nil))) (.cons (.cst (.int 64)) .nil))) (.cons (.var 1) .nil))))) .nil)))))))))
def manyB2 (dr : Nat) : MSs := (.cons (.asg (.v 1) (.call dr (.pl 0 (.ow (.at_ (.cst (.int 8))) .nil)))) (.cons (.ife (.at_ (.prim (.cmp .gt) (.cons (.var 1) (.cons (.cst (.int 5)) .nil)))) (.cons (.ret (.at_ (.cst (.int 6)))) .nil) .nil) (.cons (.ret (.po .add (.ow (.at_ (.idx (.lst (.cons (.cst (.int 1)) (.cons (.cst (.int 3)) .nil))) (.prim .int (.cons (.prim (.cmp .gt) (.cons (.var 1) (.cons (.cst (.int 2)) .nil))) .nil)))) (.ow (.call dr (.pl 0 (.ow (.at_ (.idx (.lst (.cons (.cst (.int 4)) (.cons (.cst (.int 3)) .nil))) (.prim .int (.cons (.prim (.cmp .gt) (.cons (.var 1) (.cons (.cst (.int 2)) .nil))) .nil)))) .nil))) .nil)))) .nil)))
def rowB2 (dr : Nat) : MSs := (.cons (.ret (.po .tuple (.ow (.comp [2] (.v 2) (.rng (.ow (.at_ (.var 1)) .nil)) (.at_ (.cst (.bl true))) (.call dr (.pl 0 (.ow (.at_ (.cst (.int 2))) .nil)))) .nil))) .nil)
def productB2 (dr rw : Nat) : MSs := (.cons (.asg (.v 2) (.call dr (.pl 0 (.ow (.at_ (.cst (.int 6))) .nil)))) (.cons (.ife (.at_ (.prim (.cmp .eq) (.cons (.var 2) (.cons (.cst (.int 0)) .nil)))) (.cons (.ret (.po (.joinC []) (.ow (.comp [4] (.v 4) (.own (.call rw (.pl 0 (.ow (.at_ (.var 1)) .nil)))) (.at_ (.cst (.bl true))) (.at_ (.prim .str (.cons (.var 4) .nil)))) .nil))) .nil) .nil) (.cons (.ife (.and (.at_ (.prim (.cmp .eq) (.cons (.var 2) (.cons (.cst (.int 1)) .nil)))) (.po (.cmp .eq) (.ow (.call dr (.pl 0 (.ow (.at_ (.cst (.int 4))) .nil))) (.ow (.at_ (.cst (.int 0))) .nil)))) (.cons (.ret (.at_ (.prim .mul (.cons (.cst (.str [45])) (.cons (.var 1) .nil))))) .nil) .nil) (.cons (.ret (.po (.joinC []) (.ow (.comp [3] (.v 3) (.rng (.ow (.at_ (.var 1)) .nil)) (.at_ (.cst (.bl true))) (.po .idx (.ow (.at_ (.cst (.str [48, 49, 45, 48, 49, 45, 45, 45]))) (.ow (.call dr (.pl 0 (.ow (.at_ (.idx (.lst (.cons (.cst (.int 6)) (.cons (.cst (.int 4)) (.cons (.cst (.int 3)) (.cons (.cst (.int 8)) (.cons (.cst (.int 8)) (.cons (.cst (.int 5)) .nil))))))) (.var 2))) .nil))) .nil)))) .nil))) .nil))))
def deckD2 (cells : List Int) (seed cnt : Int) : D := .lst .own [.lst .own (cells.map D.int), .int seed, .int cnt]
def Deck2Ok (d : D) : Prop := ∃ cells seed cnt, d = deckD2 cells seed cnt ∧ cells.length ≤ 63
theorem draw2_W {C : Cfg} {d : D} {most : Int} {Q : Fl → Prop} (hd : Deck2Ok d) (h1 : 1 ≤ most) (h2 : most < 1073741824)
    (q : ∀ r d' x y z u, 0 ≤ r → r < most → Deck2Ok d' → Q (.rt (.int r) [some d', some (.int most), x, y, z, u])) : W (exs C drawB2 [some d, some (.int most), none, none, none, none]) Q := by
  obtain ⟨cells, seed, cnt, rfl, hl⟩ := hd
  have m0 : 0 < most := by omega
  have ml : ∀ x : Int, 0 ≤ x % most ∧ x % most < most := fun x => ⟨Int.emod_nonneg _ (by omega), Int.emod_lt_of_pos _ m0⟩
  cases cells with
  | nil =>
    exists drawB2, deckD2
    (repeat (refine And.intro ?_ ?_; focus (first | decide | omega | exact Or.inr rfl | exact Or.inl ⟨deep_cons_ints, by decide⟩ | exact Or.inl ⟨deep_lst_ints, by decide⟩ | exact deep_cons_ints | exact ⟨deep_cons_ints, by decide⟩ | exact ⟨deep_lst_ints, by decide⟩ | (apply sm_l <;> omega) | (apply sm_r <;> omega) | (simp [line, D.plain, D.plainL]; done) | (simp [line, D.plain, D.plainL]; omega))))
    exact q _ _ _ _ _ _ (ml _).1 (ml _).2 ⟨[], _, _, rfl, by decide⟩
  | cons c cells =>
    simp only [List.length_cons] at hl
    exists drawB2, deckD2
    (repeat (refine And.intro ?_ ?_; focus (first | decide | omega | exact Or.inr rfl | exact Or.inl ⟨deep_cons_ints, by decide⟩ | exact Or.inl ⟨deep_lst_ints, by decide⟩ | exact deep_cons_ints | exact ⟨deep_cons_ints, by decide⟩ | exact ⟨deep_lst_ints, by decide⟩ | (apply sm_l <;> omega) | (apply sm_r <;> omega) | (simp [line, D.plain, D.plainL]; done) | (simp [line, D.plain, D.plainL]; omega))))
    refine ⟨fun hc => ?_, fun hc => ?_⟩
    · exists line
      (repeat (refine And.intro ?_ ?_; focus (first | decide | omega | exact Or.inr rfl | exact Or.inl ⟨deep_cons_ints, by decide⟩ | exact Or.inl ⟨deep_lst_ints, by decide⟩ | exact deep_cons_ints | exact ⟨deep_cons_ints, by decide⟩ | exact ⟨deep_lst_ints, by decide⟩ | (apply sm_l <;> omega) | (apply sm_r <;> omega) | (simp [line, D.plain, D.plainL]; done) | (simp [line, D.plain, D.plainL]; omega))))
      exact q _ _ _ _ _ _ (ml _).1 (ml _).2 ⟨c / most :: cells, seed, cnt, rfl, by simp; omega⟩
    · exists line
      exact q _ _ _ _ _ _ (ml _).1 (ml _).2 ⟨cells, _, _, rfl, by omega⟩
theorem deck2_W {C : Cfg} {l : List Int} {Q : Fl → Prop} (hl : l.length ≤ 63) (q : ∀ d' x, Deck2Ok d' → Q (.rt d' [some x])) : W (exs C deckB2 [some (.lst .ext (l.map D.int))]) Q := by
  exists deckB2, cut_ints, cut_63 hl, ints_map, plain_ints
  (repeat (refine And.intro ?_ ?_; focus (first | decide | omega | exact Or.inr rfl | exact Or.inl ⟨deep_cons_ints, by decide⟩ | exact Or.inl ⟨deep_lst_ints, by decide⟩ | exact deep_cons_ints | exact ⟨deep_cons_ints, by decide⟩ | exact ⟨deep_lst_ints, by decide⟩ | (apply sm_l <;> omega) | (apply sm_r <;> omega) | (simp [line, D.plain, D.plainL]; done) | (simp [line, D.plain, D.plainL]; omega))))
  exact q _ _ ⟨l, _, _, rfl, hl⟩
/-- what a draw gives, whatever the deck -/
def Draws (C : Cfg) (dr : Nat) (P : D → Prop) : Prop := ∀ (d : D) (most : Int) (Q : D × List (Option D) → Prop), P d → 1 ≤ most → most < 1073741824 →
  (∀ r d', 0 ≤ r → r < most → P d' → Q (.int r, [some d', some (.int most)])) → W (C.call dr [d, .int most]) Q
section
variable {C : Cfg} {P : D → Prop} {dr : Nat}
theorem many_W {d : D} {Q : Fl → Prop} (hD : Draws C dr P) (hd : P d) (q : ∀ m d' x, 1 ≤ m → m ≤ 6 → P d' → Q (.rt (.int m) [some d', x])) : W (exs C (manyB2 dr) [some d, none]) Q := by
  exists manyB2
  refine hD _ _ _ hd (by decide) (by decide) fun way d1 h0 h1 hd1 => ?_
  exists line
  refine ⟨fun h => ?_, fun h => ?_⟩
  · exists line
    exact q _ _ _ (by decide) (by decide) hd1
  · exists line
    by_cases hw : 2 < way
    · exists hw
      (repeat (refine And.intro ?_ ?_; focus (first | decide | omega | exact Or.inr rfl | exact Or.inl ⟨deep_cons_ints, by decide⟩ | exact Or.inl ⟨deep_lst_ints, by decide⟩ | exact deep_cons_ints | exact ⟨deep_cons_ints, by decide⟩ | exact ⟨deep_lst_ints, by decide⟩ | (apply sm_l <;> omega) | (apply sm_r <;> omega) | (simp [line, D.plain, D.plainL]; done) | (simp [line, D.plain, D.plainL]; omega))))
      refine hD _ _ _ hd1 (by decide) (by decide) fun r d2 h2 h3 hd2 => ?_
      exists line
      exact q _ _ _ (by omega) (by omega) hd2
    · exists hw
      (repeat (refine And.intro ?_ ?_; focus (first | decide | omega | exact Or.inr rfl | exact Or.inl ⟨deep_cons_ints, by decide⟩ | exact Or.inl ⟨deep_lst_ints, by decide⟩ | exact deep_cons_ints | exact ⟨deep_cons_ints, by decide⟩ | exact ⟨deep_lst_ints, by decide⟩ | (apply sm_l <;> omega) | (apply sm_r <;> omega) | (simp [line, D.plain, D.plainL]; done) | (simp [line, D.plain, D.plainL]; omega))))
      refine hD _ _ _ hd1 (by decide) (by decide) fun r d2 h2 h3 hd2 => ?_
      exists line
      exact q _ _ _ (by omega) (by omega) hd2
theorem row_W {d : D} {m : Int} {Q : Fl → Prop} (hD : Draws C dr P) (hd : P d) (h0 : 0 ≤ m) (h1 : m ≤ 1000) (q : ∀ (ws : List Int) d' x, (ws.length : Int) = m → (∀ w ∈ ws, w = 0 ∨ w = 1) → P d' → Q (.rt (.tup (ws.map D.int)) [some d', some (.int m), x])) : W (exs C (rowB2 dr) [some d, some (.int m), none]) Q := by
  exists rowB2
  (repeat (refine And.intro ?_ ?_; focus (first | decide | omega | exact Or.inr rfl | exact Or.inl ⟨deep_cons_ints, by decide⟩ | exact Or.inl ⟨deep_lst_ints, by decide⟩ | exact deep_cons_ints | exact ⟨deep_cons_ints, by decide⟩ | exact ⟨deep_lst_ints, by decide⟩ | (apply sm_l <;> omega) | (apply sm_r <;> omega) | (simp [line, D.plain, D.plainL]; done) | (simp [line, D.plain, D.plainL]; omega))))
  refine comp_W0 (fun i ρ acc => ∃ (d : D) (ws : List Int), ρ = [some d, some (.int m), none] ∧ P d ∧ acc = ws.map D.int ∧ ws.length = i ∧ ∀ w ∈ ws, w = 0 ∨ w = 1) ⟨d, [], rfl, hd, rfl, rfl, fun w h => nomatch h⟩ ?_ ?_
  · rintro i x ρ acc hi ⟨d, ws, rfl, hd, rfl, hl, hw⟩
    have hi2 := (List.getElem?_eq_some_iff.mp hi).1
    rw [rangeD_length] at hi2
    exists line
    refine hD _ _ _ hd (by decide) (by decide) fun r d1 h2 h3 hd1 => ?_
    exists line
    refine ⟨d1, ws ++ [r], rfl, hd1, by simp, by simp [hl], fun w hm => ?_⟩
    rcases List.mem_append.mp hm with hm | hm
    · exact hw w hm
    · simp at hm; omega
  · rintro ρ acc ⟨d, ws, rfl, hd, rfl, hl, hw⟩
    rw [rangeD_length] at hl
    exists plain_ints
    exact q _ _ _ (by omega) hw hd
theorem W_strs {p : List Nat} {Q : List (List Nat) → Prop} : W (strsD (p.map fun c => D.str [c])) Q ↔ Q (p.map fun c => [c]) := by
  have : strsD (p.map fun c => D.str [c]) = some (p.map fun c => [c]) := by
    induction p with
    | nil => rfl
    | cons c r ih => simp [strsD, ih]
  rw [this, W_some]
theorem join_1 : ∀ p : List Nat, joinS [] (p.map fun c => [c]) = p
  | [] => rfl
  | [c] => rfl
  | c :: d :: r => by
    have := join_1 (d :: r)
    simp only [List.map_cons] at this ⊢
    simp [joinS, this]
theorem W_join1 {o : Ow} {p : List Nat} {Q : D → Prop} (h : p.length ≤ 1000) (q : Q (.str p)) : W (evJoin (.str []) (.lst o (p.map fun c => D.str [c]))) Q := by
  refine W_bind.mpr (W_strs.mpr ?_)
  rw [if_pos, join_1, W_some]
  · exact q
  · have : ∀ p : List Nat, ((p.map fun c => [c]).map List.length).sum = p.length := fun p => by
      induction p with
      | nil => rfl
      | cons c r ih => simp only [List.map_cons, List.sum_cons, List.length_cons, List.length_nil, ih]; omega
    rw [this]; simp [line]; omega
theorem product_W {d : D} {m : Int} {rw : Nat} {Q : Fl → Prop} (hD : Draws C dr P) (hR : ∀ d Q, P d → (∀ (ws : List Int) d', (ws.length : Int) = m → (∀ w ∈ ws, w = 0 ∨ w = 1) → P d' → Q (.tup (ws.map D.int), [some d', some (.int m)])) → W (C.call rw [d, .int m]) Q)
    (hd : P d) (h0 : 0 ≤ m) (h1 : m ≤ 1000) (q : ∀ (p : List Nat) d' x y z, (p.length : Int) = m → (∀ c ∈ p, c = 45 ∨ c = 48 ∨ c = 49) → P d' → Q (.rt (.str p) [some d', some (.int m), x, y, z])) : W (exs C (productB2 dr rw) [some d, some (.int m), none, none, none]) Q := by
  have fin : ∀ d2 (way : Int), 0 ≤ way → way < 6 → P d2 → W (exs C (dropS 3 (productB2 dr rw)) [some d2, some (.int m), some (.int way), none, none]) Q := by
    intro d2 way h2 h3 hd2
    exists productB2, dropS
    (repeat (refine And.intro ?_ ?_; focus (first | decide | omega | exact Or.inr rfl | exact Or.inl ⟨deep_cons_ints, by decide⟩ | exact Or.inl ⟨deep_lst_ints, by decide⟩ | exact deep_cons_ints | exact ⟨deep_cons_ints, by decide⟩ | exact ⟨deep_lst_ints, by decide⟩ | (apply sm_l <;> omega) | (apply sm_r <;> omega) | (simp [line, D.plain, D.plainL]; done) | (simp [line, D.plain, D.plainL]; omega))))
    refine comp_W0 (fun i ρ acc => ∃ (d : D) (p : List Nat), ρ = [some d, some (.int m), some (.int way), none, none] ∧ P d ∧ acc = p.map (fun c => D.str [c]) ∧ p.length = i ∧ ∀ c ∈ p, c = 45 ∨ c = 48 ∨ c = 49) ⟨d2, [], rfl, hd2, rfl, rfl, fun w h => nomatch h⟩ ?_ ?_
    · rintro i x ρ acc hi ⟨d, p, rfl, hd, rfl, hlp, hp⟩
      have hi2 := (List.getElem?_eq_some_iff.mp hi).1
      rw [rangeD_length] at hi2
      exists line
      refine at_W (by omega) (by simp only [List.length_cons, List.length_nil]; omega) fun x hx => ?_
      have hx' : ∃ s : Int, x = D.int s ∧ 1 ≤ s ∧ s ≤ 8 := by
        simp only [List.mem_cons, List.not_mem_nil, or_false] at hx
        rcases hx with rfl | rfl | rfl | rfl | rfl | rfl <;> exact ⟨_, rfl, by decide, by decide⟩
      obtain ⟨s, rfl, hs0, hs1⟩ := hx'
      exists line
      refine hD _ _ _ hd hs0 (by omega) fun r d3 h4 h5 hd3 => ?_
      exists line
      refine at_W (by omega) (by simp only [List.length_cons, List.length_nil]; omega) fun c hc => ?_
      exists line
      refine ⟨d3, p ++ [c], rfl, hd3, by simp, by simp [hlp], fun w hm => ?_⟩
      rcases List.mem_append.mp hm with hm | hm
      · exact hp w hm
      · simp at hm; subst hm; simp at hc; omega
    · rintro ρ acc ⟨d, p, rfl, hd, rfl, hlp, hp⟩
      rw [rangeD_length] at hlp
      exists line
      refine W_join1 (by omega) ?_
      exists line
      exact q _ _ _ _ _ (by omega) hp hd
  have hcut : productB2 dr rw = .cons (.asg (.v 2) (.call dr (.pl 0 (.ow (.at_ (.cst (.int 6))) .nil)))) (.cons (.ife (.at_ (.prim (.cmp .eq) (.cons (.var 2) (.cons (.cst (.int 0)) .nil)))) (.cons (.ret (.po (.joinC []) (.ow (.comp [4] (.v 4) (.own (.call rw (.pl 0 (.ow (.at_ (.var 1)) .nil)))) (.at_ (.cst (.bl true))) (.at_ (.prim .str (.cons (.var 4) .nil)))) .nil))) .nil) .nil) (.cons (.ife (.and (.at_ (.prim (.cmp .eq) (.cons (.var 2) (.cons (.cst (.int 1)) .nil)))) (.po (.cmp .eq) (.ow (.call dr (.pl 0 (.ow (.at_ (.cst (.int 4))) .nil))) (.ow (.at_ (.cst (.int 0))) .nil)))) (.cons (.ret (.at_ (.prim .mul (.cons (.cst (.str [45])) (.cons (.var 1) .nil))))) .nil) .nil) (dropS 3 (productB2 dr rw)))) := rfl
  rw [hcut]; clear hcut
  generalize dropS 3 (productB2 dr rw) = rst at fin ⊢
  exists line
  refine hD _ _ _ hd (by decide) (by decide) fun way d1 h2 h3 hd1 => ?_
  exists line
  refine ⟨fun hw => ?_, fun hw => ?_⟩
  · exists line
    refine hR _ _ hd1 fun ws d2 hl hw2 hd2 => ?_
    exists plain_ints
    refine comp_W0 (fun i ρ acc => ∃ (p : List Nat), ρ = [some d2, some (.int m), some (.int way), none, none] ∧ acc = p.map (fun c => D.str [c]) ∧ p.length = i ∧ ∀ c ∈ p, c = 45 ∨ c = 48 ∨ c = 49) ⟨[], rfl, rfl, rfl, fun w h => nomatch h⟩ ?_ ?_
    · rintro i x ρ acc hi ⟨p, rfl, rfl, hlp, hp⟩
      have hi2 := (List.getElem?_eq_some_iff.mp hi).1
      rw [List.length_map] at hi2
      rw [List.getElem?_map] at hi
      obtain ⟨w, hw3, rfl⟩ := Option.map_eq_some_iff.mp hi
      have hw4 := hw2 w (List.mem_of_getElem? hw3)
      have key : ∃ c, decI w = [c] ∧ (c = 48 ∨ c = 49) ∧ w.natAbs.log2 < 1920 := by
        rcases hw4 with rfl | rfl
        · exact ⟨48, rfl, .inl rfl, by decide⟩
        · exact ⟨49, rfl, .inr rfl, by decide⟩
      obtain ⟨c, e, hc, hlog⟩ := key
      exists e
      refine ⟨p ++ [c], by simp, by simp [hlp], fun w hm => ?_⟩
      rcases List.mem_append.mp hm with hm | hm
      · exact hp w hm
      · simp at hm; subst hm; exact .inr hc
    · rintro ρ acc ⟨p, rfl, rfl, hlp, hp⟩
      rw [List.length_map] at hlp
      exists line
      refine W_join1 (by omega) ?_
      exists line
      exact q _ _ _ _ _ (by omega) hp hd2
  · exists line
    refine ⟨fun hw1 => ?_, fun hw1 => ?_⟩
    · exists line
      refine hD _ _ _ hd1 (by decide) (by decide) fun r d2 h4 h5 hd2 => ?_
      exists line
      refine ⟨fun hr => ?_, fun hr => ?_⟩
      · have hm : m.toNat ≤ 1000 := by omega
        exists line
        have e : (List.replicate m.toNat [45]).flatten = List.replicate m.toNat 45 := by
          generalize m.toNat = n
          induction n with
          | zero => rfl
          | succ n ih => rw [List.replicate_succ, List.flatten_cons, ih, List.replicate_succ]; rfl
        rw [e]
        exact q _ _ _ _ _ (by rw [List.length_replicate]; omega) (fun c hc => .inl (List.eq_of_mem_replicate hc)) hd2
      · exists line
        exact fin _ _ h2 h3 hd2
    · exists line
      exact fin _ _ h2 h3 hd1
end
end GN
end

section
set_option linter.all false
set_option maxRecDepth 100000
namespace GN
/-! lists of texts; loops over lists that are known -/
theorem For_nil {t : MT} {b : Env → Option Fl} {ρ : Env} {Q : Fl → Prop} : W (forLoop t b [] ρ) Q ↔ Q (.nx ρ) := by simp only [forLoop, W_some]
theorem For_cons {t : MT} {b : Env → Option Fl} {ρ : Env} {x : D} {r : List D} {Q : Fl → Prop} : W (forLoop t b (x :: r) ρ) Q ↔ W (bindT t x ρ) fun ρ1 => W (b ρ1) (onFl (fun ρ => W (forLoop t b r ρ) Q) Q) := by
  simp only [forLoop, W_bind]
  refine W_cg fun ρ1 => W_bind.trans (W_cg fun f => ?_)
  cases f with
  | nx ρ2 => exact Iff.rfl
  | ct ρ2 => exact Iff.rfl
  | bk ρ2 => exact W_some
  | rt d ρ2 => exact W_some
def strL (l : List (List Nat)) : List D := l.map D.str
theorem plain_strs : ∀ l : List (List Nat), D.plainL (strL l) = true
  | [] => rfl
  | x :: r => by simp [strL, D.plainL, D.plain]; exact plain_strs r
theorem deep_strs : ∀ l : List (List Nat), D.deepL (strL l) ≤ 1
  | [] => by simp [strL, D.deepL]
  | x :: r => by
    have := deep_strs r
    simp only [strL] at this ⊢
    simp [D.deepL, D.deep]; omega
theorem frz_strs : ∀ l : List (List Nat), D.frzL (strL l) = strL l
  | [] => rfl
  | x :: r => by
    have := frz_strs r
    simp only [strL, List.map_cons, D.frzL, D.frz] at this ⊢
    rw [this]
theorem frz_ints : ∀ l : List Int, D.frzL (l.map D.int) = l.map D.int
  | [] => rfl
  | x :: r => by simp only [List.map_cons, D.frzL, D.frz, frz_ints r]
theorem len_strs {l : List (List Nat)} : (strL l).length = l.length := by simp [strL]
theorem deep_tstrs {l : List (List Nat)} : (D.tup (strL l)).deep ≤ 60 := by
  have := deep_strs l
  simp only [D.deep]; omega
theorem eqvL_strs : ∀ l m : List (List Nat), D.eqvL (strL l) (strL m) = decide (l = m)
  | [], [] => by simp [strL, D.eqvL]
  | [], y :: s => by simp [strL, D.eqvL]
  | x :: r, [] => by simp [strL, D.eqvL]
  | x :: r, y :: s => by
    have := eqvL_strs r s
    simp only [strL] at this ⊢
    simp only [List.map_cons, D.eqvL, D.eqv, this]
    rw [Bool.eq_iff_iff]; simp
theorem insBy_strs (x : List Nat) : ∀ l : List (List Nat), insBy D.ltD (.str x) (strL l) = strL (insBy strLt x l)
  | [] => rfl
  | y :: r => by
    have := insBy_strs x r
    simp only [strL] at this ⊢
    simp only [List.map_cons, insBy]
    rw [show D.ltD (.str y) (.str x) = strLt y x from rfl]
    split
    · rw [this]; rfl
    · rfl
theorem sortBy_strs : ∀ l : List (List Nat), sortBy D.ltD (strL l) = strL (sortBy strLt l)
  | [] => rfl
  | x :: r => by
    have := sortBy_strs r
    simp only [strL] at this ⊢
    simp only [List.map_cons, sortBy, this]
    exact insBy_strs x _
theorem W_sortStrs {o : Ow} {l : List (List Nat)} {Q : D → Prop} (h : l.length ≤ line) (q : Q (.lst .own (strL (sortBy strLt l)))) : W (evSorted (.lst o (strL l))) Q := by
  cases l with
  | nil => exact ⟨_, rfl, q⟩
  | cons x r =>
    rw [← sortBy_strs] at q
    refine ⟨_, ?_, q⟩
    show evSorted (.lst o (.str x :: strL r)) = _
    simp only [evSorted]
    rw [if_pos]; rfl
    refine ⟨⟨rfl, by simp [D.deep], by simpa [strL] using h⟩, ?_⟩
    simp [List.all_eq_true, strL, D.shp]
theorem insBy_ints (x : Int) : ∀ l : List Int, insBy D.ltD (.int x) (l.map D.int) = (insBy (fun a b => decide (a < b)) x l).map D.int
  | [] => rfl
  | y :: r => by
    simp only [List.map_cons, insBy]
    rw [show D.ltD (.int y) (.int x) = decide (y < x) from rfl, insBy_ints x r]
    split <;> rfl
theorem sortBy_ints : ∀ l : List Int, sortBy D.ltD (l.map D.int) = (sortBy (fun a b => decide (a < b)) l).map D.int
  | [] => rfl
  | x :: r => by
    simp only [List.map_cons, sortBy, sortBy_ints r]
    exact insBy_ints x _
theorem W_sortInts {o : Ow} {l : List Int} {Q : D → Prop} (h : l.length ≤ line) (q : Q (.lst .own ((sortBy (fun a b => decide (a < b)) l).map D.int))) : W (evSorted (.lst o (l.map D.int))) Q := by
  cases l with
  | nil => exact ⟨_, rfl, q⟩
  | cons x r =>
    rw [← sortBy_ints] at q
    refine ⟨_, ?_, q⟩
    show evSorted (.lst o (.int x :: r.map D.int)) = _
    simp only [evSorted]
    rw [if_pos]; rfl
    refine ⟨⟨rfl, by simp [D.deep], by simpa using h⟩, ?_⟩
    simp [List.all_eq_true, D.shp]
theorem sortBy_len {α : Type} (lt : α → α → Bool) : ∀ l : List α, (sortBy lt l).length = l.length
  | [] => rfl
  | x :: r => by
    have ins : ∀ l : List α, (insBy lt x l).length = l.length + 1 := fun l => by
      induction l with
      | nil => rfl
      | cons y s ih => unfold insBy; split <;> simp [ih]
    rw [sortBy, ins, sortBy_len lt r, List.length_cons]
theorem rangeD_eq : ∀ (n : Nat) (lo : Int), rangeD lo n = (rangeL lo n).map D.int
  | 0, _ => rfl
  | n + 1, lo => by rw [rangeD, rangeL, List.map_cons, rangeD_eq n]
theorem rangeL_len : ∀ (n : Nat) (lo : Int), (rangeL lo n).length = n
  | 0, _ => rfl
  | n + 1, lo => by rw [rangeL, List.length_cons, rangeL_len n]
mutual
/-- the very same -/
def sameD : D → D → Bool
  | .non, e => match e with | .non => true | _ => false
  | .bl a, e => match e with | .bl b => a == b | _ => false
  | .int a, e => match e with | .int b => a == b | _ => false
  | .str a, e => match e with | .str b => a == b | _ => false
  | .tup a, e => match e with | .tup b => sameL a b | _ => false
  | .lst o a, e => match e with | .lst p b => decide (o = p) && sameL a b | _ => false
  | .dct _ _ _, _ => false
def sameL : List D → List D → Bool
  | [], e => e.isEmpty
  | a :: r, e => match e with | b :: s => sameD a b && sameL r s | [] => false
end
mutual
theorem sameD_eq : ∀ a b : D, sameD a b = true → a = b
  | .non, b, h => by cases b <;> simp_all [sameD]
  | .bl _, b, h => by cases b <;> simp_all [sameD]
  | .int _, b, h => by cases b <;> simp_all [sameD]
  | .str _, b, h => by cases b <;> simp_all [sameD]
  | .tup a, b, h => by
    cases b <;> simp only [sameD] at h <;> try (cases h; done)
    rw [sameL_eq _ _ h]
  | .lst o a, b, h => by
    cases b <;> simp only [sameD] at h <;> try (cases h; done)
    simp only [Bool.and_eq_true, decide_eq_true_eq] at h
    rw [h.1, sameL_eq _ _ h.2]
  | .dct _ _ _, b, h => by simp [sameD] at h
theorem sameL_eq : ∀ a b : List D, sameL a b = true → a = b
  | [], b, h => by cases b <;> simp_all [sameL]
  | x :: r, b, h => by
    cases b with
    | nil => simp [sameL] at h
    | cons y s =>
      simp only [sameL, Bool.and_eq_true] at h
      rw [sameD_eq _ _ h.1, sameL_eq _ _ h.2]
end
end GN
end

section
set_option linter.all false
set_option maxRecDepth 100000
namespace GN
local macro_rules
  | `(tactic| exists $es,*) => `(tactic| (repeat (first | simp only [A_var, A_cst, A_gbl, A_idx, A_prim, A_and, A_or, A_not, A_ite, A_chain, A_tup, A_lst, A_ali, As_nil, As_cons, P_v, P_s, U_v, U_s, T_v, T_t, Ts_nil, Ts_cons, E_at, E_frz, E_fz, E_mv, E_po, E_tup, E_lst, E_call, E_and, E_or, E_not, E_ite, E_comp, C_turn, E_pop0, E_pop1, Os_nil, Os_ow, Os_pl, Os_fl, Os_ml, I_own, I_take, I_rng, I_enum, I_zip, I_zip3, I_rev, I_revT, I_revR, sq_L, sq_T, it_L, it_T, it_S, rg_1, rg_2, S_nil, S_cons, S_asg, S_setI, S_setD, S_setE, E_mt, E_mtp, E_dctK, W_dK1, S_sda, rg_3, W_itO_L, W_itO_D, W_putO_L, W_putO_D, E_dct, S_app, S_ext, S_ins, S_expr, S_ali, S_ife, S_for, S_while, S_ret, S_retN, S_brk, S_cont, S_pass, W_asB, W_asI, W_ownL, W_anyL, W_shL, Nx_nx, Nx_rt, Nx_bk, Nx_ct, W_some, Br_true, Br_false, wipe, refill, emptyL, lendBack, refill_nil, refill_nx, refill_rt, W_none, W_map, eqvL_nil, eqv_nil, W_add, W_addS, W_addT, W_addL, W_sub, W_mul, W_mulS, W_fdiv, W_mod, W_pow, W_neg, W_lt, W_le, W_gt, W_ge, W_eqI, W_neI, W_eqS, W_neS, W_eqTT, W_neTT, W_eqLL, W_neLL, W_eqB, W_neB, W_in, W_notin, W_isN, W_isNotN, W_isB, W_isNotB, W_pidx, W_itemT, W_itemL, W_itemS, W_slcL_ft, W_slcL_tf, W_slcT_ft, W_slcT_tf, W_slcS_ft, W_slcS_tf, W_lenL, W_lenT, W_lenS, W_tupL, W_tupT, W_lstL, W_lstT, W_intI, W_intB, W_strI, W_sum, W_band, W_bor, W_inv, W_shl, W_shr, W_sortedD, W_inRg, W_ninRg, W_all, W_any, W_isi, W_sorted, W_sortSet, W_lstRg, W_repr, W_join, W_max2, W_min2, W_abs, at_0, at_1, at_2, at_3, ixAt_0, ixAt_1, ixAt_2, get_zero, get_succ, put_zero, put_succ, Int.reduceToNat, Int.reducePow, Int.reduceLE, Int.reduceLT, Int.reduceAdd, Int.reduceSub, Int.reduceMul, Int.reduceDiv, Int.reduceMod, Int.reduceNeg, Int.reduceEq, Int.reduceGT, Nat.reduceAdd, Nat.reduceSub, Nat.reduceMul, Nat.reduceLT, Nat.reduceLeDiff, Nat.reduceEqDiff, Nat.zero_add, Nat.lt_add_left_iff_pos, D.plain, D.plainL, Ow.isOwn, D.frz, Ow.frz, List.isEmpty_nil, List.isEmpty_cons, List.length_cons, List.length_nil, Bool.and_true, Bool.true_and, Bool.not_true, Bool.not_false, Bool.false_eq_true, if_false, if_true, reduceIte, true_and, and_true, decide_true, decide_false, decide_eq_true_eq, List.map_cons, List.map_nil, List.set_cons_zero, List.take_succ_cons, List.take_zero, Int.toNat_zero, List.set_cons_succ, List.getElem?_cons_zero, List.getElem?_cons_succ, Option.bind_some, Option.map_some, Int.cast_ofNat_Int, Int.natCast_zero, Int.natCast_one, List.any_cons, List.any_nil, tyIs, sing_eq, false_and, and_false, Bool.or_false, Bool.or_true, Bool.false_or, Bool.true_or, plain_ints, List.length_map, $[$es:term],*] | (refine And.intro ?_ ?_; focus (first | decide | omega | exact Or.inr rfl | exact Or.inl ⟨deep_cons_ints, by decide⟩ | exact Or.inl ⟨deep_lst_ints, by decide⟩ | exact deep_cons_ints | exact ⟨deep_cons_ints, by decide⟩ | exact ⟨deep_lst_ints, by decide⟩ | (apply sm_l <;> omega) | (apply sm_r <;> omega) | (simp [line, D.plain, D.plainL]; done) | (simp [line, D.plain, D.plainL, len_strs]; done) | (simp [line, D.plain, D.plainL, len_strs]; omega))))))
/-! all rows of so many worths -/
def rowsB : MSs := (.cons (.asg (.v 1) (.lst (.ow (.at_ (.tup .nil)) .nil))) (.cons (.for_ (.v 2) (.rng (.ow (.at_ (.var 0)) .nil)) (.cons (.asg (.v 3) (.lst .nil)) (.cons (.for_ (.v 4) (.take 1) (.cons (.ext (.v 3) (.lst (.ow (.at_ (.prim .add (.cons (.var 4) (.cons (.tup (.cons (.cst (.int 0)) .nil)) .nil)))) (.ow (.at_ (.prim .add (.cons (.var 4) (.cons (.tup (.cons (.cst (.int 1)) .nil)) .nil)))) .nil)))) .nil)) (.cons (.asg (.v 1) (.fz 3)) .nil)))) (.cons (.ret (.at_ (.prim .tuple (.cons (.var 1) .nil)))) .nil)))
def rowsL : Nat → List (List Int)
  | 0 => [[]]
  | n + 1 => (rowsL n).flatMap fun r => [r ++ [0], r ++ [1]]
def rowsD (l : List (List Int)) : List D := l.map rowI
theorem len_rows {l : List (List Int)} : (rowsD l).length = l.length := by simp [rowsD]
theorem plain_rowI {r : List Int} : (rowI r).plain = true := by simp [rowI, D.plain, plain_ints]
theorem plain_rowsD : ∀ l : List (List Int), D.plainL (rowsD l) = true
  | [] => rfl
  | x :: r => by
    have := plain_rowsD r
    simp only [rowsD, List.map_cons, D.plainL, plain_rowI, Bool.true_and] at this ⊢
    exact this
theorem frz_rowsD : ∀ l : List (List Int), D.frzL (rowsD l) = rowsD l
  | [] => rfl
  | x :: r => by
    have := frz_rowsD r
    simp only [rowsD, List.map_cons, D.frzL, rowI, D.frz, frz_ints] at this ⊢
    rw [this]
theorem flat2_len {α β : Type} {f g : α → β} : ∀ l : List α, (l.flatMap fun r => [f r, g r]).length = 2 * l.length
  | [] => rfl
  | x :: r => by
    simp only [List.flatMap_cons, List.length_append, List.length_cons, List.length_nil, flat2_len r]; omega
theorem rowsL_len : ∀ n, (rowsL n).length = 2 ^ n
  | 0 => rfl
  | n + 1 => by rw [rowsL, flat2_len, rowsL_len n, Nat.pow_succ]; omega
theorem rowsL_mem : ∀ {n : Nat} {r : List Int}, r ∈ rowsL n ↔ r.length = n ∧ ∀ w ∈ r, w = 0 ∨ w = 1
  | 0, r => by
    simp only [rowsL, List.mem_singleton]
    constructor
    · rintro rfl; simp
    · rintro ⟨h, _⟩; exact List.length_eq_zero_iff.mp h
  | n + 1, r => by
    simp only [rowsL, List.mem_flatMap, List.mem_cons, List.not_mem_nil, or_false]
    constructor
    · rintro ⟨x, hx, h⟩
      obtain ⟨h1, h2⟩ := rowsL_mem.mp hx
      rcases h with rfl | rfl <;> refine ⟨by simp [h1], fun w hw => ?_⟩ <;> (rcases List.mem_append.mp hw with hw | hw; exact h2 w hw; simp at hw; omega)
    · rintro ⟨h1, h2⟩
      rcases List.eq_nil_or_concat r with rfl | ⟨x, w, rfl⟩
      · simp at h1
      · rw [List.concat_eq_append] at h1 h2 ⊢
        refine ⟨x, rowsL_mem.mpr ⟨by simpa using h1, fun y hy => h2 y (by simp [hy])⟩, ?_⟩
        rcases h2 w (by simp) with rfl | rfl
        · exact .inl rfl
        · exact .inr rfl
theorem flat_snoc {α β : Type} {f : α → List β} {l : List α} {i : Nat} {x : α} (h : l[i]? = some x) : (l.take (i + 1)).flatMap f = (l.take i).flatMap f ++ f x := by
  rw [List.take_succ, h]
  simp
theorem rows_W {C : Cfg} {m : Int} {Q : Fl → Prop} (h0 : 0 ≤ m) (h1 : m ≤ 12) (q : ∀ x y z u, Q (.rt (.tup (rowsD (rowsL m.toNat))) [some (.int m), x, y, z, u])) : W (exs C rowsB [some (.int m), none, none, none, none]) Q := by
  exists rowsB
  refine for_W0 (fun i ρ => ∃ o x y z, ρ = [some (.int m), some (.lst o (rowsD (rowsL i))), x, y, z]) ⟨_, _, _, _, rfl⟩ ?_ ?_
  · rintro i x ρ hi ⟨o, x', y, z, rfl⟩
    have hi2 := (List.getElem?_eq_some_iff.mp hi).1
    rw [rangeD_length] at hi2
    have h2 := rowsL_len i
    have h3 : 2 ^ i ≤ 2 ^ 12 := Nat.pow_le_pow_right (by decide) (by omega)
    have h4 : ∀ r ∈ rowsL i, r.length = i := fun r hr => (rowsL_mem.mp hr).1
    have e4 : rowsL (i + 1) = (rowsL i).flatMap fun r => [r ++ [0], r ++ [1]] := rfl
    rw [e4]
    generalize rowsL i = l at h2 h4 ⊢
    exists plain_rowsD
    refine for_W0 (fun j ρ => ∃ z, ρ = [some (.int m), none, some x, some (.lst .own (rowsD ((l.take j).flatMap fun r => [r ++ [0], r ++ [1]]))), z]) ⟨_, rfl⟩ ?_ ?_
    · rintro j x ρ hj ⟨z, rfl⟩
      rw [rowsD, List.getElem?_map] at hj
      obtain ⟨one, ho, rfl⟩ := Option.map_eq_some_iff.mp hj
      have hj2 := (List.getElem?_eq_some_iff.mp ho).1
      have ho2 := h4 one (List.mem_of_getElem? ho)
      rw [flat_snoc ho]
      have hl : ((l.take j).flatMap fun r => [r ++ [(0 : Int)], r ++ [1]]).length ≤ 2 * l.length := by
        rw [flat2_len, List.length_take]; omega
      have ho3 : (D.int 0 :: []).length + one.length ≤ line := by simp only [List.length_cons, List.length_nil, line]; omega
      exists rowI, plain_ints, onFl_nx, List.length_map
      have pl : ∀ b : Int, D.plainL (List.map D.int one ++ [D.int b]) = true := fun b => by
        have := plain_ints (one ++ [b])
        rwa [List.map_append] at this
      refine ⟨pl 0, by decide, by simp only [line]; omega, pl 1, by decide, by rw [len_rows]; simp only [line]; omega, some (rowI one), ?_⟩
      simp [rowsD, rowI]
    · rintro ρ ⟨z, rfl⟩
      rw [len_rows, List.take_length]
      exists frz_rowsD, onFl_nx
      exact ⟨_, _, _, _, rfl⟩
  · rintro ρ ⟨o, x, y, z, rfl⟩
    rw [rangeD_length]
    exists plain_rowsD
    exact q _ _ _ _
end GN
end

section
set_option linter.all false
set_option maxRecDepth 100000
namespace GN
/-! comprehensions that leave all as it is -/
section
variable {C : Cfg} {own : List Nat} {t : MT} {c e : ME} {ρ : Env} {α : Type} {g : α → D}
theorem comp_filt (f : α → Option D) {l : List α} {Q : List D × Env → Prop} (h : ∀ a ∈ l, W (compF C t c e (g a) ρ) fun p => p.1 = f a ∧ wipe p.2 own = ρ) (hl : l.length ≤ line) (q : Q (l.filterMap f, ρ)) : W (compLoop own (compF C t c e) (l.map g) ρ []) Q := by
  refine comp_W0 (fun i ρ' acc => ρ' = ρ ∧ acc = (l.take i).filterMap f) ⟨rfl, rfl⟩ ?_ ?_
  · rintro i x ρ' acc hi ⟨rfl, rfl⟩
    rw [List.getElem?_map] at hi
    obtain ⟨a, ha, rfl⟩ := Option.map_eq_some_iff.mp hi
    have hlt := (List.getElem?_eq_some_iff.mp ha).1
    refine (h a (List.mem_of_getElem? ha)).mono fun p hp => ?_
    have e1 : (l.take (i + 1)).filterMap f = (l.take i).filterMap f ++ (f a).toList := by
      rw [List.take_succ, ha, List.filterMap_append]
      simp [List.filterMap_cons]
      cases f a <;> rfl
    have e2 : ((l.take i).filterMap f).length ≤ i := Nat.le_trans (List.length_filterMap_le _ _) (by rw [List.length_take]; omega)
    rw [hp.1]
    cases hf : f a with
    | none => exact ⟨hp.2, by rw [e1, hf]; simp⟩
    | some d => exact ⟨by omega, hp.2, by rw [e1, hf]; rfl⟩
  · rintro ρ' acc ⟨rfl, rfl⟩
    rw [List.length_map, List.take_length]
    exact q
theorem comp_map (f : α → D) {l : List α} {Q : List D × Env → Prop} (h : ∀ a ∈ l, W (compF C t c e (g a) ρ) fun p => p.1 = some (f a) ∧ wipe p.2 own = ρ) (hl : l.length ≤ line) (q : Q (l.map f, ρ)) : W (compLoop own (compF C t c e) (l.map g) ρ []) Q :=
  comp_filt (fun a => some (f a)) h hl (by rw [List.filterMap_eq_map']; exact q)
theorem comp_keep (p : α → Bool) (f : α → D) {l : List α} {Q : List D × Env → Prop} (h : ∀ a ∈ l, W (compF C t c e (g a) ρ) fun r => r.1 = (if p a = true then some (f a) else none) ∧ wipe r.2 own = ρ) (hl : l.length ≤ line) (q : Q ((l.filter p).map f, ρ)) : W (compLoop own (compF C t c e) (l.map g) ρ []) Q :=
  comp_filt (fun a => if p a = true then some (f a) else none) h hl (by
    have : ∀ l : List α, (l.filterMap fun a => if p a = true then some (f a) else none) = (l.filter p).map f := fun l => by
      induction l with
      | nil => rfl
      | cons x r ih => by_cases hx : p x = true <;> simp [hx, ih]
    rw [this]; exact q)
end
theorem zipD_map {α β : Type} {g : α → D} {h : β → D} : ∀ {l : List α} {m : List β}, zipD (l.map g) (m.map h) = (l.zip m).map fun p => .tup [g p.1, h p.2]
  | [], _ => by simp [zipD]
  | x :: r, [] => by simp [zipD]
  | x :: r, y :: s => by simp [zipD, zipD_map (l := r) (m := s)]
theorem enumD_map {α : Type} {g : α → D} : ∀ {l : List α} {k : Nat}, enumD k (l.map g) = (l.zipIdx k).map fun p => .tup [.int p.2, g p.1]
  | [], _ => by simp [enumD]
  | x :: r, k => by simp [enumD, enumD_map (l := r) (k := k + 1)]
theorem enumD_strs {l : List (List Nat)} {k : Nat} : enumD k (strL l) = (l.zipIdx k).map fun p => .tup [.int p.2, .str p.1] := enumD_map
theorem bools_map {α : Type} {f : α → Bool} : ∀ l : List α, boolsD (l.map fun a => .bl (f a)) = some (l.map f)
  | [] => rfl
  | x :: r => by simp [boolsD, bools_map r]
theorem W_boolsM {α : Type} {f : α → Bool} {l : List α} {Q : List Bool → Prop} : W (boolsD (l.map fun a => .bl (f a))) Q ↔ Q (l.map f) := by rw [bools_map, W_some]
theorem all_idM {α : Type} {f : α → Bool} {l : List α} : (l.map f).all id = l.all f := by simp
theorem any_idM {α : Type} {f : α → Bool} {l : List α} : (l.map f).any id = l.any f := by simp
theorem W_allM {α : Type} {f : α → Bool} {l : List α} {o : Ow} {Q : D → Prop} : W (evPrim .all [.lst o (l.map fun a => .bl (f a))]) Q ↔ Q (.bl (l.all f)) := by
  rw [W_all, bools_map, W_some]; simp
theorem W_anyM {α : Type} {f : α → Bool} {l : List α} {o : Ow} {Q : D → Prop} : W (evPrim .any [.lst o (l.map fun a => .bl (f a))]) Q ↔ Q (.bl (l.any f)) := by
  rw [W_any, bools_map, W_some]; simp
theorem eqvL_ints : ∀ a b : List Int, D.eqvL (a.map D.int) (b.map D.int) = decide (a = b)
  | [], [] => rfl
  | [], y :: s => by simp [D.eqvL]
  | x :: r, [] => by simp [D.eqvL]
  | x :: r, y :: s => by
    simp only [List.map_cons, D.eqvL, D.eqv, eqvL_ints r s]
    rw [Bool.eq_iff_iff]; simp
theorem eqv_row (a b : List Int) : (rowI a).eqv (rowI b) = decide (a = b) := eqvL_ints a b
theorem deep_rowI (a : List Int) : (rowI a).deep ≤ 2 := by
  have : ∀ l : List Int, D.deepL (l.map D.int) ≤ 1 := fun l => by
    induction l with
    | nil => simp [D.deepL]
    | cons x r ih => simp [D.deepL, D.deep, ih]
  simp only [rowI, D.deep]; have := this a; omega
theorem deepL_le {n : Nat} : ∀ {l : List D}, (∀ x ∈ l, x.deep ≤ n) → D.deepL l ≤ n
  | [], _ => by simp [D.deepL]
  | x :: r, h => by
    have h1 := h x (by simp)
    have h2 := deepL_le (l := r) fun y hy => h y (by simp [hy])
    simp only [D.deepL]; omega
theorem plainL_of {l : List D} (h : ∀ x ∈ l, x.plain = true) : D.plainL l = true := by
  induction l with
  | nil => rfl
  | cons x r ih => simp [D.plainL, h x (by simp), ih fun y hy => h y (by simp [hy])]
theorem insBy_mem {α : Type} {lt : α → α → Bool} {x y : α} : ∀ {l : List α}, y ∈ insBy lt x l ↔ y = x ∨ y ∈ l
  | [] => by simp [insBy]
  | z :: r => by
    unfold insBy
    split
    · rw [List.mem_cons, insBy_mem (l := r), List.mem_cons]
      constructor
      · rintro (h | h | h)
        · exact .inr (.inl h)
        · exact .inl h
        · exact .inr (.inr h)
      · rintro (h | h | h)
        · exact .inr (.inl h)
        · exact .inl h
        · exact .inr (.inr h)
    · simp
theorem sortBy_mem {α : Type} {lt : α → α → Bool} {y : α} : ∀ {l : List α}, y ∈ sortBy lt l ↔ y ∈ l
  | [] => Iff.rfl
  | x :: r => by rw [sortBy, insBy_mem, sortBy_mem (l := r), List.mem_cons]
/-- sorted, of things of one shape -/
theorem W_sortShp {o : Ow} {l : List D} {Q : D → Prop} (h1 : l.length ≤ line) (h2 : ∀ x ∈ l, headS x = true ∧ x.deep ≤ 60) (h3 : ∀ x ∈ l, ∀ y ∈ l, D.shp x y = true) (q : Q (.lst .own (sortBy D.ltD l))) : W (evSorted (.lst o l)) Q := by
  cases l with
  | nil => exact ⟨_, rfl, q⟩
  | cons x r =>
    refine ⟨_, ?_, q⟩
    simp only [evSorted]
    rw [if_pos]
    exact ⟨⟨(h2 x (by simp)).1, (h2 x (by simp)).2, h1⟩, List.all_eq_true.mpr fun y hy => h3 x (by simp) y hy⟩
theorem shpL_ints : ∀ {a b : List Int}, a.length = b.length → D.shpL (a.map D.int) (b.map D.int) = true
  | [], [], _ => rfl
  | x :: r, y :: s, h => by simp [D.shpL, D.shp, shpL_ints (a := r) (b := s) (by simpa using h)]
  | [], y :: s, h => by simp at h
  | x :: r, [], h => by simp at h
theorem shp_row {a b : List Int} (h : a.length = b.length) : D.shp (rowI a) (rowI b) = true := shpL_ints h
def pairD (p : List Int × List Int) : D := .tup [rowI p.1, rowI p.2]
theorem shp_pair {p q : List Int × List Int} (h1 : p.1.length = q.1.length) (h2 : p.2.length = q.2.length) : D.shp (pairD p) (pairD q) = true := by
  simp [pairD, D.shp, D.shpL, shp_row h1, shp_row h2]
theorem deep_pair (p : List Int × List Int) : (pairD p).deep ≤ 3 := by
  have a := deep_rowI p.1
  have b := deep_rowI p.2
  simp only [pairD, D.deep, D.deepL]; omega
theorem plain_pair (p : List Int × List Int) : (pairD p).plain = true := by
  have : ∀ l : List Int, D.plainL (l.map D.int) = true := fun l => by
    induction l with
    | nil => rfl
    | cons x r ih => simp [D.plainL, D.plain, ih]
  simp [pairD, rowI, D.plain, D.plainL, this]
theorem eqv_pair (p q : List Int × List Int) : (pairD p).eqv (pairD q) = decide (p = q) := by
  simp only [pairD, D.eqv, D.eqvL, eqv_row, Bool.and_true]
  rw [Bool.eq_iff_iff]; simp [Prod.ext_iff]
theorem any_pair (l : List (List Int × List Int)) (p : List Int × List Int) : ((l.map pairD).any fun x => x.eqv (pairD p)) = decide (p ∈ l) := by
  rw [Bool.eq_iff_iff]; simp [eqv_pair]
theorem any_row (l : List (List Int)) (b : List Int) : ((l.map rowI).any fun x => x.eqv (rowI b)) = decide (b ∈ l) := by
  rw [Bool.eq_iff_iff]; simp [eqv_row]
theorem in_rows {o : Ow} {l : List (List Int)} {b : List Int} : evIn (rowI b) (.lst o (l.map rowI)) = some (decide (b ∈ l)) := by
  have h1 := deep_rowI b
  have h2 : D.deepL (l.map rowI) ≤ 2 := deepL_le fun x hx => by
    obtain ⟨a, _, rfl⟩ := List.mem_map.mp hx
    exact deep_rowI a
  simp only [evIn]
  rw [if_pos ⟨by omega, by omega⟩, any_row]
theorem in_pairs {o : Ow} {l : List (List Int × List Int)} {b : List Int × List Int} : evIn (pairD b) (.lst o (l.map pairD)) = some (decide (b ∈ l)) := by
  have h1 := deep_pair b
  have h2 : D.deepL (l.map pairD) ≤ 3 := deepL_le fun x hx => by
    obtain ⟨a, _, rfl⟩ := List.mem_map.mp hx
    exact deep_pair a
  simp only [evIn]
  rw [if_pos ⟨by omega, by omega⟩, any_pair]
theorem plain_pairsD (l : List (List Int × List Int)) : D.plainL (l.map pairD) = true := plainL_of fun x hx => by
  obtain ⟨a, _, rfl⟩ := List.mem_map.mp hx
  exact plain_pair a
theorem frz_row (r : List Int) : (rowI r).frz = rowI r := by simp only [rowI, D.frz, frz_ints]
theorem frz_pairsD : ∀ l : List (List Int × List Int), D.frzL (l.map pairD) = l.map pairD
  | [] => rfl
  | x :: r => by simp only [List.map_cons, D.frzL, pairD, D.frz, frz_row, frz_pairsD r]
/-- a row with another part at k -/
def spl (r : List Int) (k : Nat) (b : Int) : List Int := r.take k ++ b :: r.drop (k + 1)
theorem plain_intsP (l : List Int) : D.plainL (l.map D.int) = true := plainL_of fun x hx => by
  obtain ⟨a, _, rfl⟩ := List.mem_map.mp hx
  rfl
theorem spl_map (r : List Int) (k : Nat) (b : Int) : List.take k (r.map D.int) ++ [D.int b] ++ List.drop (k + 1) (r.map D.int) = (spl r k b).map D.int := by simp [spl]
theorem spl_tup (r : List Int) (k : Nat) (b : Int) : D.tup (List.take k (r.map D.int) ++ [D.int b] ++ List.drop (k + 1) (r.map D.int)) = rowI (spl r k b) := by rw [spl_map]; rfl
theorem spl_ok (r : List Int) (k : Nat) (b : Int) : D.plainL (List.take k (r.map D.int)) = true ∧ D.plainL (List.drop (k + 1) (r.map D.int)) = true ∧ D.plainL (List.take k (r.map D.int) ++ [D.int b]) = true ∧
    D.plainL (List.take k (r.map D.int) ++ [D.int b] ++ List.drop (k + 1) (r.map D.int)) = true ∧ (List.take k (r.map D.int)).length ≤ r.length ∧ (List.drop (k + 1) (r.map D.int)).length ≤ r.length := by
  refine ⟨by rw [← List.map_take]; exact plain_intsP _, by rw [← List.map_drop]; exact plain_intsP _, ?_, by rw [spl_map]; exact plain_intsP _, by simp only [List.length_take, List.length_map]; omega, by simp only [List.length_drop, List.length_map]; omega⟩
  have := plain_intsP (r.take k ++ [b])
  simpa using this
theorem spl_len {r : List Int} {k : Nat} {b : Int} (h : k < r.length) : (spl r k b).length = r.length := by simp only [spl, List.length_append, List.length_take, List.length_cons, List.length_drop]; omega
theorem in_false {α : Type} {o : Ow} {l : List α} : evIn (.bl true) (.lst o (l.map fun _ => D.bl false)) = some false := by
  have h2 : D.deepL (l.map fun _ => D.bl false) ≤ 1 := deepL_le fun x hx => by
    obtain ⟨a, _, rfl⟩ := List.mem_map.mp hx
    exact Nat.le_refl _
  simp only [evIn]
  rw [if_pos ⟨by decide, by omega⟩]
  congr 1
  rw [List.any_eq_false]
  intro x hx
  obtain ⟨a, _, rfl⟩ := List.mem_map.mp hx
  decide
end GN
end

section
set_option linter.all false
set_option maxRecDepth 100000
namespace GN
local macro_rules
  | `(tactic| exists $es,*) => `(tactic| (repeat (first | simp only [A_var, A_cst, A_gbl, A_idx, A_prim, A_and, A_or, A_not, A_ite, A_chain, A_tup, A_lst, A_ali, As_nil, As_cons, P_v, P_s, U_v, U_s, T_v, T_t, Ts_nil, Ts_cons, E_at, E_frz, E_fz, E_mv, E_po, E_tup, E_lst, E_call, E_and, E_or, E_not, E_ite, E_comp, C_turn, E_pop0, E_pop1, Os_nil, Os_ow, Os_pl, Os_fl, Os_ml, I_own, I_take, I_rng, I_enum, I_zip, I_zip3, I_rev, I_revT, I_revR, sq_L, sq_T, it_L, it_T, it_S, rg_1, rg_2, S_nil, S_cons, S_asg, S_setI, S_setD, S_setE, E_mt, E_mtp, E_dctK, W_dK1, S_sda, rg_3, W_itO_L, W_itO_D, W_putO_L, W_putO_D, E_dct, S_app, S_ext, S_ins, S_expr, S_ali, S_ife, S_for, S_while, S_ret, S_retN, S_brk, S_cont, S_pass, W_asB, W_asI, W_ownL, W_anyL, W_shL, Nx_nx, Nx_rt, Nx_bk, Nx_ct, W_some, Br_true, Br_false, wipe, refill, emptyL, lendBack, refill_nil, refill_nx, refill_rt, W_none, W_map, eqvL_nil, eqv_nil, W_add, W_addS, W_addT, W_addL, W_sub, W_mul, W_mulS, W_fdiv, W_mod, W_pow, W_neg, W_lt, W_le, W_gt, W_ge, W_eqI, W_neI, W_eqS, W_neS, W_eqTT, W_neTT, W_eqLL, W_neLL, W_eqB, W_neB, W_in, W_notin, W_isN, W_isNotN, W_isB, W_isNotB, W_pidx, W_itemT, W_itemL, W_itemS, W_slcL_ft, W_slcL_tf, W_slcT_ft, W_slcT_tf, W_slcS_ft, W_slcS_tf, W_lenL, W_lenT, W_lenS, W_tupL, W_tupT, W_lstL, W_lstT, W_intI, W_intB, W_strI, W_sum, W_band, W_bor, W_inv, W_shl, W_shr, W_sortedD, W_inRg, W_ninRg, W_all, W_any, W_isi, W_sorted, W_sortSet, W_lstRg, W_repr, W_join, W_max2, W_min2, W_abs, at_0, at_1, at_2, at_3, ixAt_0, ixAt_1, ixAt_2, get_zero, get_succ, put_zero, put_succ, Int.reduceToNat, Int.reducePow, Int.reduceLE, Int.reduceLT, Int.reduceAdd, Int.reduceSub, Int.reduceMul, Int.reduceDiv, Int.reduceMod, Int.reduceNeg, Int.reduceEq, Int.reduceGT, Nat.reduceAdd, Nat.reduceSub, Nat.reduceMul, Nat.reduceLT, Nat.reduceLeDiff, Nat.reduceEqDiff, Nat.zero_add, Nat.lt_add_left_iff_pos, D.plain, D.plainL, Ow.isOwn, D.frz, Ow.frz, List.isEmpty_nil, List.isEmpty_cons, List.length_cons, List.length_nil, Bool.and_true, Bool.true_and, Bool.not_true, Bool.not_false, Bool.false_eq_true, if_false, if_true, reduceIte, true_and, and_true, decide_true, decide_false, decide_eq_true_eq, List.map_cons, List.map_nil, List.set_cons_zero, List.take_succ_cons, List.take_zero, Int.toNat_zero, List.set_cons_succ, List.getElem?_cons_zero, List.getElem?_cons_succ, Option.bind_some, Option.map_some, Int.cast_ofNat_Int, Int.natCast_zero, Int.natCast_one, List.any_cons, List.any_nil, tyIs, sing_eq, false_and, and_false, Bool.or_false, Bool.or_true, Bool.false_or, Bool.true_or, plain_ints, List.length_map, $[$es:term],*] | (refine And.intro ?_ ?_; focus (first | decide | omega | exact Or.inr rfl | exact Or.inl ⟨deep_cons_ints, by decide⟩ | exact Or.inl ⟨deep_lst_ints, by decide⟩ | exact deep_cons_ints | exact ⟨deep_cons_ints, by decide⟩ | exact ⟨deep_lst_ints, by decide⟩ | (apply sm_l <;> omega) | (apply sm_r <;> omega) | (simp [line, D.plain, D.plainL]; done) | (simp [line, D.plain, D.plainL, len_strs]; done) | (simp [line, D.plain, D.plainL, len_strs]; omega))))))
/-! products and rows -/
def holdsRowB : MSs := (.cons (.ret (.po .all (.ow (.comp [2, 3] (.t [(.v 2), (.v 3)]) (.zip (.own (.at_ (.var 0))) (.own (.at_ (.var 1)))) (.at_ (.cst (.bl true))) (.at_ (.or (.prim (.cmp .eq) (.cons (.var 2) (.cons (.cst (.str [45])) .nil))) (.prim (.cmp .eq) (.cons (.var 2) (.cons (.prim .str (.cons (.var 3) .nil)) .nil)))))) .nil))) .nil)
def holdsAllB : MSs := (.cons (.ret (.po .all (.ow (.comp [2, 3] (.t [(.v 2), (.v 3)]) (.zip (.own (.at_ (.var 0))) (.own (.at_ (.var 1)))) (.at_ (.cst (.bl true))) (.at_ (.or (.prim (.cmp .eq) (.cons (.var 2) (.cons (.cst (.str [45])) .nil))) (.prim (.cmp .eq) (.cons (.var 2) (.cons (.var 3) .nil)))))) .nil))) .nil)
def meetB : MSs := (.cons (.ret (.po .all (.ow (.comp [2, 3] (.t [(.v 2), (.v 3)]) (.zip (.own (.at_ (.var 0))) (.own (.at_ (.var 1)))) (.at_ (.cst (.bl true))) (.at_ (.or (.prim (.cmp .eq) (.cons (.var 2) (.cons (.cst (.str [45])) .nil))) (.or (.prim (.cmp .eq) (.cons (.var 3) (.cons (.cst (.str [45])) .nil))) (.prim (.cmp .eq) (.cons (.var 2) (.cons (.var 3) .nil))))))) .nil))) .nil)
def cubeB : MSs := (.cons (.ret (.po (.joinC []) (.ow (.comp [1, 2] (.t [(.v 1), (.v 2)]) (.zip (.own (.at_ (.idx (.var 0) (.cst (.int 0))))) (.own (.at_ (.idx (.var 0) (.cst (.int 1)))))) (.at_ (.cst (.bl true))) (.at_ (.ite (.prim (.cmp .eq) (.cons (.var 1) (.cons (.var 2) .nil))) (.prim .str (.cons (.var 1) .nil)) (.cst (.str [45]))))) .nil))) .nil)
def lawHoldsB : MSs := (.cons (.for_ (.t [(.v 2), (.v 3)]) (.zip (.own (.at_ (.var 0))) (.own (.at_ (.var 1)))) (.cons (.ife (.at_ (.and (.prim (.cmp .ne) (.cons (.var 2) (.cons (.cst (.str [45])) .nil))) (.prim (.cmp .ne) (.cons (.prim .int (.cons (.var 2) .nil)) (.cons (.var 3) .nil))))) (.cons (.ret (.at_ (.cst (.bl false)))) .nil) .nil) .nil)) (.cons (.ret (.at_ (.cst (.bl true)))) .nil))
def hr (p : List Nat) (r : List Int) : Bool := (p.zip r).all fun a => a.1 == 45 || a.1 == 48 + a.2.toNat
def ha (p q : List Nat) : Bool := (p.zip q).all fun a => a.1 == 45 || a.1 == a.2
def mt (p q : List Nat) : Bool := (p.zip q).all fun a => a.1 == 45 || (a.2 == 45 || a.1 == a.2)
def cube (a b : List Int) : List Nat := (a.zip b).map fun x => if x.1 = x.2 then 48 + x.1.toNat else 45
def Bits (r : List Int) : Prop := ∀ w ∈ r, w = 0 ∨ w = 1
def Signs (p : List Nat) : Prop := ∀ c ∈ p, c = 45 ∨ c = 48 ∨ c = 49
def signD (c : Nat) : D := .str [c]
theorem decI_bit {w : Int} (h : w = 0 ∨ w = 1) : decI w = [48 + w.toNat] ∧ w.natAbs.log2 < 1920 := by
  rcases h with rfl | rfl
  · exact ⟨rfl, by decide⟩
  · exact ⟨rfl, by decide⟩
theorem holdsRow_W {C : Cfg} {p : List Nat} {r : List Int} {Q : Fl → Prop} (h1 : Bits r) (hl : p.length ≤ 1000) (q : ∀ x y, Q (.rt (.bl (hr p r)) [some (.str p), some (rowI r), x, y])) : W (exs C holdsRowB [some (.str p), some (rowI r), none, none]) Q := by
  exists holdsRowB, rowI, plain_ints, zipD_map
  refine comp_map (fun a : Nat × Int => .bl (a.1 == 45 || a.1 == 48 + a.2.toNat)) ?_ (by rw [List.length_zip]; simp only [line]; omega) ?_
  · rintro ⟨c, w⟩ hm
    obtain ⟨e, hlog⟩ := decI_bit (h1 w (List.of_mem_zip hm).2)
    exists e
    refine ⟨fun hc => ?_, fun hc => ?_⟩
    · exists line
      simp [hc]
    · exists e
      congr 2; rw [Bool.eq_iff_iff]; simp at hc ⊢; simp [hc]
  · exists W_boolsM, all_idM, List.nil_append
    exact q _ _
theorem holdsAll_W {C : Cfg} {p r : List Nat} {Q : Fl → Prop} (hl : p.length ≤ 1000) (q : ∀ x y, Q (.rt (.bl (ha p r)) [some (.str p), some (.str r), x, y])) : W (exs C holdsAllB [some (.str p), some (.str r), none, none]) Q := by
  exists holdsAllB, zipD_map
  refine comp_map (fun a : Nat × Nat => .bl (a.1 == 45 || a.1 == a.2)) ?_ (by rw [List.length_zip]; simp only [line]; omega) ?_
  · rintro ⟨c, w⟩ hm
    exists line
    refine ⟨fun hc => ?_, fun hc => ?_⟩
    · exists line
      simp [hc]
    · exists line
      congr 2; rw [Bool.eq_iff_iff]; simp at hc ⊢; simp [hc]
  · exists W_boolsM, all_idM, List.nil_append
    exact q _ _
theorem meet_W {C : Cfg} {p r : List Nat} {Q : Fl → Prop} (hl : p.length ≤ 1000) (q : ∀ x y, Q (.rt (.bl (mt p r)) [some (.str p), some (.str r), x, y])) : W (exs C meetB [some (.str p), some (.str r), none, none]) Q := by
  exists meetB, zipD_map
  refine comp_map (fun a : Nat × Nat => .bl (a.1 == 45 || (a.2 == 45 || a.1 == a.2))) ?_ (by rw [List.length_zip]; simp only [line]; omega) ?_
  · rintro ⟨c, w⟩ hm
    exists line
    refine ⟨fun hc => ?_, fun hc => ?_⟩
    · exists line
      simp [hc]
    · exists line
      refine ⟨fun hc2 => ?_, fun hc2 => ?_⟩
      · exists line
        simp [hc, hc2]
      · exists line
        congr 2; rw [Bool.eq_iff_iff]; simp at hc hc2 ⊢; simp [hc, hc2]
  · exists W_boolsM, all_idM, List.nil_append
    exact q _ _
theorem W_joinC {o : Ow} {α : Type} {f : α → Nat} {l : List α} {Q : D → Prop} (h : l.length ≤ 1000) (q : Q (.str (l.map f))) : W (evJoin (.str []) (.lst o (l.map fun a => .str [f a]))) Q := by
  have : (l.map fun a => D.str [f a]) = (l.map f).map fun c => D.str [c] := by simp
  rw [this]
  exact W_join1 (by simpa using h) q
theorem cube_W {C : Cfg} {a b : List Int} {Q : Fl → Prop} (h1 : Bits a) (hl : a.length ≤ 1000) (q : ∀ x y, Q (.rt (.str (cube a b)) [some (.tup [rowI a, rowI b]), x, y])) : W (exs C cubeB [some (.tup [rowI a, rowI b]), none, none]) Q := by
  exists cubeB, rowI, plain_ints, zipD_map
  refine comp_map (fun a : Int × Int => .str [if a.1 = a.2 then 48 + a.1.toNat else 45]) ?_ (by rw [List.length_zip]; simp only [line]; omega) ?_
  · rintro ⟨c, w⟩ hm
    obtain ⟨e, hlog⟩ := decI_bit (h1 c (List.of_mem_zip hm).1)
    exists e
    refine ⟨fun hc => ?_, fun hc => ?_⟩
    · exists e
      simp [hc]
    · exists line
      simp [hc]
  · exists line
    refine W_joinC (by rw [List.length_zip]; omega) ?_
    exists line
    exact q _ _
theorem lawHolds_W {C : Cfg} {p : List Nat} {r : List Int} {Q : Fl → Prop} (h1 : Bits r) (h2 : Signs p) (q : ∀ x y, Q (.rt (.bl (hr p r)) [some (.str p), some (rowI r), x, y])) : W (exs C lawHoldsB [some (.str p), some (rowI r), none, none]) Q := by
  exists lawHoldsB, rowI, plain_ints, zipD_map
  refine for_W0 (fun i ρ => ((p.zip r).take i).all (fun a => a.1 == 45 || a.1 == 48 + a.2.toNat) = true ∧ ∃ x y, ρ = [some (.str p), some (.tup (r.map D.int)), x, y]) ⟨rfl, _, _, rfl⟩ ?_ ?_
  · rintro i x ρ hi ⟨hall, x', y, rfl⟩
    rw [List.getElem?_map] at hi
    obtain ⟨⟨c, w⟩, ha, rfl⟩ := Option.map_eq_some_iff.mp hi
    have hm := List.mem_of_getElem? ha
    have hw := h1 w (List.of_mem_zip hm).2
    have hc := h2 c (List.of_mem_zip hm).1
    have e1 : ((p.zip r).take (i + 1)).all (fun a => a.1 == 45 || a.1 == 48 + a.2.toNat) = (c == 45 || c == 48 + w.toNat) := by
      rw [List.take_succ, ha, List.all_append, hall]; simp
    rw [e1]
    exists onFl_nx
    refine ⟨fun hc1 => ?_, fun hc1 => ?_⟩
    · have hc2 : c = 48 ∨ c = 49 := by simp at hc1; omega
      have ei : evPrim .int [.str [c]] = some (.int ((c - 48 : Nat) : Int)) := by
        simp only [evPrim, evInt]; rw [if_pos (by omega)]
      exists onFl_nx
      refine W_eq ei ?_
      exists onFl_nx
      refine ⟨fun hq => ?_, fun hq => ?_⟩
      · exists onFl_nx, onFl_rt
        have : hr p r = false := by
          rw [hr, List.all_eq_false]
          refine ⟨(c, w), hm, ?_⟩
          simp at hq ⊢; omega
        rw [← this]
        exact q _ _
      · exists onFl_nx
        simp at hq
        refine ⟨by simp; omega, _, _, rfl⟩
    · exists onFl_nx
      simp at hc1
      exact ⟨by simp [hc1], _, _, rfl⟩
  · rintro ρ ⟨hall, x, y, rfl⟩
    rw [List.length_map, List.take_length] at hall
    exists line
    have := q x y
    rw [show hr p r = true from hall] at this
    exact this
end GN
end

section
set_option linter.all false
set_option maxRecDepth 100000
namespace GN
/-! values by their kinds: ways to write things as D -/
def tp {α : Type} (f : α → D) (l : List α) : D := .tup (l.map f)
def lo {α : Type} (o : Ow) (f : α → D) (l : List α) : D := .lst o (l.map f)
def p2 {α β : Type} (f : α → D) (g : β → D) (p : α × β) : D := .tup [f p.1, g p.2]
def p3 {α β γ : Type} (f : α → D) (g : β → D) (h : γ → D) (p : α × β × γ) : D := .tup [f p.1, g p.2.1, h p.2.2]
def sg (c : Nat) : D := .str [c]
/-- can be told on -/
class Pl {α : Type} (f : α → D) : Prop where pl : ∀ a, (f a).plain = true
/-- not deep, and told apart by == -/
class Ec {α : Type} (f : α → D) (n : outParam Nat) : Prop where
  dp : ∀ a, (f a).deep ≤ n
  eq : ∀ a b, (f a).eqv (f b) = true ↔ a = b
section
variable {α β γ : Type} {f : α → D} {g : β → D} {h : γ → D} {n m k : Nat}
theorem plainL_map [Pl f] : ∀ l : List α, D.plainL (l.map f) = true
  | [] => rfl
  | x :: r => by rw [List.map_cons, D.plainL, Pl.pl, plainL_map r]; rfl
instance : Pl D.int := ⟨fun _ => rfl⟩
instance : Pl D.str := ⟨fun _ => rfl⟩
instance : Pl D.bl := ⟨fun _ => rfl⟩
instance : Pl sg := ⟨fun _ => rfl⟩
instance [Pl f] : Pl (tp f) := ⟨fun l => plainL_map l⟩
instance [Pl f] [Pl g] : Pl (p2 f g) := ⟨fun p => by simp [p2, D.plain, D.plainL, Pl.pl]⟩
instance [Pl f] [Pl g] [Pl h] : Pl (p3 f g h) := ⟨fun p => by simp [p3, D.plain, D.plainL, Pl.pl]⟩
instance [Pl f] : Pl (lo .shr f) := ⟨fun l => by simp [lo, D.plain, plainL_map, Ow.isOwn]⟩
theorem plain_tp [Pl f] {l : List α} : (tp f l).plain = true := Pl.pl l
theorem plain_lo [Pl f] {l : List α} {o : Ow} : (lo o f l).plain = !o.isOwn := by simp [lo, D.plain, plainL_map]
theorem plain_p2 [Pl f] [Pl g] {p : α × β} : (p2 f g p).plain = true := Pl.pl p
theorem plain_p3 [Pl f] [Pl g] [Pl h] {p : α × β × γ} : (p3 f g h p).plain = true := Pl.pl p
theorem plainL_tk [Pl f] {l : List α} {xs : List D} (e : xs = l.map f) : D.plainL xs = true := by rw [e]; exact plainL_map l
mutual
theorem frz_plain : ∀ d : D, d.plain = true → d.frz = d
  | .tup xs, h => by rw [D.frz, frzL_plain xs (by simpa [D.plain] using h)]
  | .lst o xs, h => by
    simp only [D.plain, Bool.and_eq_true, Bool.not_eq_true'] at h
    rw [D.frz, frzL_plain xs h.2]
    cases o <;> first | rfl | (simp [Ow.isOwn] at h)
  | .dct o ks xs, h => by
    simp only [D.plain, Bool.and_eq_true, Bool.not_eq_true'] at h
    rw [D.frz, frzL_plain xs h.2]
    cases o <;> first | rfl | (simp [Ow.isOwn] at h)
  | .non, _ => rfl | .bl _, _ => rfl | .int _, _ => rfl | .str _, _ => rfl
theorem frzL_plain : ∀ l : List D, D.plainL l = true → D.frzL l = l
  | [], _ => rfl
  | x :: r, h => by
    simp only [D.plainL, Bool.and_eq_true] at h
    rw [D.frzL, frz_plain x h.1, frzL_plain r h.2]
end
theorem frz_tp [Pl f] {l : List α} : (tp f l).frz = tp f l := frz_plain _ plain_tp
theorem frz_p2 [Pl f] [Pl g] {p : α × β} : (p2 f g p).frz = p2 f g p := frz_plain _ plain_p2
theorem frz_lo [Pl f] {l : List α} {o : Ow} : (lo o f l).frz = lo o.frz f l := by simp only [lo, D.frz, frzL_plain _ (plainL_map l)]
theorem frz_lo2 [Pl f] {l : List (List α)} {o p : Ow} : (lo o (lo p f) l).frz = lo o.frz (lo p.frz f) l := by
  have : ∀ l : List (List α), D.frzL (l.map (lo p f)) = l.map (lo p.frz f) := fun l => by
    induction l with
    | nil => rfl
    | cons x r ih => rw [List.map_cons, D.frzL, frz_lo, ih]; rfl
  simp only [lo, D.frz]
  exact congrArg _ (this l)
theorem deepL_map [Ec f n] (l : List α) : D.deepL (l.map f) ≤ n := deepL_le fun x hx => by
  obtain ⟨a, _, rfl⟩ := List.mem_map.mp hx
  exact Ec.dp a
theorem eqvL_map [Ec f n] : ∀ l m : List α, D.eqvL (l.map f) (m.map f) = true ↔ l = m
  | [], [] => by simp [D.eqvL]
  | [], y :: s => by simp [D.eqvL]
  | x :: r, [] => by simp [D.eqvL]
  | x :: r, y :: s => by simp [D.eqvL, eqvL_map r s, Ec.eq]
instance : Ec D.int 1 := ⟨fun _ => Nat.le_refl _, fun a b => by simp [D.eqv]⟩
instance : Ec D.str 1 := ⟨fun _ => Nat.le_refl _, fun a b => by simp [D.eqv]⟩
instance : Ec D.bl 1 := ⟨fun _ => Nat.le_refl _, fun a b => by simp [D.eqv]⟩
instance : Ec sg 1 := ⟨fun _ => Nat.le_refl _, fun a b => by simp [sg, D.eqv]⟩
instance [Ec f n] : Ec (tp f) (n + 1) := ⟨fun l => by have := deepL_map (f := f) l; simp only [tp, D.deep]; omega, fun a b => by simp only [tp, D.eqv]; exact eqvL_map a b⟩
instance {o : Ow} [Ec f n] : Ec (lo o f) (n + 1) := ⟨fun l => by have := deepL_map (f := f) l; simp only [lo, D.deep]; omega, fun a b => by simp only [lo, D.eqv]; exact eqvL_map a b⟩
instance [Ec f n] [Ec g m] : Ec (p2 f g) (max n m + 1) := ⟨fun p => by have := Ec.dp (f := f) p.1; have := Ec.dp (f := g) p.2; simp only [p2, D.deep, D.deepL]; omega, fun a b => by simp [p2, D.eqv, D.eqvL, Ec.eq, Prod.ext_iff]⟩
instance [Ec f n] [Ec g m] [Ec h k] : Ec (p3 f g h) (max n (max m k) + 1) := ⟨fun p => by have := Ec.dp (f := f) p.1; have := Ec.dp (f := g) p.2.1; have := Ec.dp (f := h) p.2.2; simp only [p3, D.deep, D.deepL]; omega, fun a b => by simp [p3, D.eqv, D.eqvL, Ec.eq, Prod.ext_iff]⟩
theorem eqv_ec [Ec f n] [DecidableEq α] (a b : α) : (f a).eqv (f b) = decide (a = b) := by rw [Bool.eq_iff_iff, Ec.eq]; simp
/-! ### folding -/
theorem fold_tp {l : List α} : D.tup (l.map f) = tp f l := rfl
theorem fold_lo {o : Ow} {l : List α} : D.lst o (l.map f) = lo o f l := rfl
def mapD {α : Type} (f : α → D) (l : List α) : List D := l.map f
theorem fold_mapD {o : Ow} {l : List α} : D.lst o (mapD f l) = lo o f l := rfl
theorem fold_app {o : Ow} {l : List α} {x : α} : D.lst o (l.map f ++ [f x]) = lo o f (l ++ [x]) := by simp [lo]
theorem fold_ext {o : Ow} {l r : List α} : D.lst o (l.map f ++ r.map f) = lo o f (l ++ r) := by simp [lo]
theorem fold_appT {l : List α} {x : α} : D.tup (l.map f ++ [f x]) = tp f (l ++ [x]) := by simp [tp]
theorem fold_extT {l r : List α} : D.tup (l.map f ++ r.map f) = tp f (l ++ r) := by simp [tp]
theorem fold_set {o : Ow} {l : List α} {i : Nat} {x : α} : D.lst o ((l.map f).set i (f x)) = lo o f (l.set i x) := by simp [lo]
theorem fold_dropLast {o : Ow} {l : List α} : D.lst o (l.map f).dropLast = lo o f l.dropLast := by simp [lo]
theorem fold_erase {o : Ow} {l : List α} {i : Nat} : D.lst o ((l.map f).eraseIdx i) = lo o f (l.eraseIdx i) := by
  simp only [lo, List.eraseIdx_eq_take_drop_succ, List.map_append, List.map_take, List.map_drop]
theorem fold_p2 {a : α} {b : β} : D.tup [f a, g b] = p2 f g (a, b) := rfl
theorem lo_nil {o : Ow} : D.lst o [] = lo o f [] := rfl
theorem tp_nil : D.tup [] = tp f [] := rfl
theorem lo_one {o : Ow} {a : α} : D.lst o [f a] = lo o f [a] := rfl
theorem tp_one {a : α} : D.tup [f a] = tp f [a] := rfl
theorem tp_two {a b : α} : D.tup [f a, f b] = tp f [a, b] := rfl
theorem eras_map {l : List α} {i : Nat} : (l.map f).eraseIdx i = (l.eraseIdx i).map f := by
  simp only [List.eraseIdx_eq_take_drop_succ, List.map_append, List.map_take, List.map_drop]
/-! ### what is asked of values -/
variable {l r : List α} {o p : Ow} {Q : D → Prop}
theorem W_ownLo {R : List D → Prop} : W (ownL (lo .own f l)) R ↔ R (l.map f) := W_some
theorem W_shLo {R : List D → Prop} : W (shL (lo .own f l)) R ↔ R (l.map f) := W_some
theorem W_anyLo {R : Ow × List D → Prop} : W (anyL (lo o f l)) R ↔ R (o, l.map f) := W_some
theorem it_tp [Pl f] {R : List D → Prop} : W (itemsOf (tp f l)) R ↔ R (l.map f) := by rw [tp, it_T]; simp [plainL_map]
theorem it_lo [Pl f] {R : List D → Prop} : W (itemsOf (lo o f l)) R ↔ R (l.map f) := by rw [lo, it_L]; simp [plainL_map]
theorem sq_tp [Pl f] {R : List D → Prop} : W (seqOf (tp f l)) R ↔ R (l.map f) := by rw [tp, sq_T]; simp [plainL_map]
theorem sq_lo [Pl f] {R : List D → Prop} : W (seqOf (lo o f l)) R ↔ R (l.map f) := by rw [lo, sq_L]; simp [plainL_map]
theorem rev_map : (l.map f).reverse = l.reverse.map f := by rw [List.map_reverse]
theorem it_str {s : List Nat} {R : List D → Prop} : W (itemsOf (.str s)) R ↔ R (s.map sg) := it_S
/-- the item told by an index, which may be below nought -/
def gt {α : Type} [Inhabited α] (l : List α) (i : Int) : α := (at_ l i).getD default
theorem W_at [Inhabited α] {i : Int} {R : α → Prop} : W (at_ l i) R ↔ (-(l.length : Int) ≤ i ∧ i < l.length) ∧ R (gt l i) := by
  unfold gt
  have hs : (-(l.length : Int) ≤ i ∧ i < l.length) ↔ (at_ l i).isSome = true := by
    unfold at_ ixAt
    split
    · split
      · simp; omega
      · simp; omega
    · split
      · simp; omega
      · simp; omega
  rw [hs]
  cases h : at_ l i with
  | none => simp [W_none]
  | some x => simp [W_some]
theorem at_map {i : Int} : at_ (l.map f) i = (at_ l i).map f := by
  simp only [at_, List.length_map]
  cases ixAt l.length i <;> simp
theorem W_itTp {i : Int} : W (evItem (tp f l) (.int i)) Q ↔ W (at_ l i) fun a => Q (f a) := by
  rw [tp, W_itemT, at_map, W_map]
theorem W_itLo {i : Int} : W (evItem (lo o f l) (.int i)) Q ↔ W (at_ l i) fun a => Q (f a) := by
  rw [lo, W_itemL, at_map, W_map]
theorem gt_nat [Inhabited α] {i : Nat} (h : i < l.length) : gt l (i : Int) = l[i] := by
  unfold gt; rw [at_nat (List.getElem?_eq_getElem h)]; rfl
theorem gt_getD [Inhabited α] {i : Nat} : gt l (i : Int) = l.getD i default := by
  by_cases h : i < l.length
  · rw [gt_nat h]; simp [List.getD, h]
  · unfold gt at_ ixAt
    rw [if_pos (by omega), if_neg (by omega)]
    simp [List.getD, Nat.le_of_not_lt h]
theorem gt_int [Inhabited α] {i : Int} (h : 0 ≤ i) : gt l i = l.getD i.toNat default := by
  have := gt_getD (l := l) (i := i.toNat)
  rwa [Int.toNat_of_nonneg h] at this
theorem gt_mem [Inhabited α] {i : Int} (h : -(l.length : Int) ≤ i ∧ i < l.length) : gt l i ∈ l := by
  have : W (at_ l i) (fun a => a = gt l i) := W_at.mpr ⟨h, rfl⟩
  obtain ⟨a, e, rfl⟩ := this
  unfold at_ at e
  obtain ⟨j, _, e⟩ := Option.bind_eq_some_iff.mp e
  exact List.mem_of_getElem? e
theorem gt_last [Inhabited α] {x : α} : gt (l ++ [x]) (-1) = x := by
  unfold gt at_ ixAt
  rw [if_neg (by decide), if_pos (by simp; omega)]
  have : ((-1 : Int) + ((l ++ [x]).length : Int)).toNat = l.length := by simp; omega
  rw [this]
  simp
theorem W_lenTp : W (evPrim .len [tp f l]) Q ↔ Q (.int l.length) := by rw [tp, W_lenT, List.length_map]
theorem W_lenLo : W (evPrim .len [lo o f l]) Q ↔ Q (.int l.length) := by rw [lo, W_lenL, List.length_map]
theorem cut_map {i j : Option Int} : cut (l.map f) i j = (cut l i j).map f := by
  simp [cut, List.map_take, List.map_drop]
theorem W_slTp [Pl f] {a b : Bool} {ds : List D} {i j : Option Int} (e : optInt ds [a, b] = some [i, j]) : W (evPrim (.slc a b) (tp f l :: ds)) Q ↔ Q (tp f (cut l i j)) := by
  rw [tp, W_slcT e, cut_map, fold_tp]; simp [plainL_map]
theorem W_slLo [Pl f] {a b : Bool} {ds : List D} {i j : Option Int} (e : optInt ds [a, b] = some [i, j]) : W (evPrim (.slc a b) (lo o f l :: ds)) Q ↔ Q (lo .own f (cut l i j)) := by
  rw [lo, W_slcL e, cut_map, fold_lo]; simp [plainL_map]
theorem W_slTp_ft [Pl f] {j : Int} : W (evPrim (.slc false true) [tp f l, .int j]) Q ↔ Q (tp f (cut l none (some j))) := W_slTp rfl
theorem W_slTp_tf [Pl f] {j : Int} : W (evPrim (.slc true false) [tp f l, .int j]) Q ↔ Q (tp f (cut l (some j) none)) := W_slTp rfl
theorem W_slTp_tt [Pl f] {i j : Int} : W (evPrim (.slc true true) [tp f l, .int i, .int j]) Q ↔ Q (tp f (cut l (some i) (some j))) := W_slTp rfl
theorem W_slLo_ft [Pl f] {j : Int} : W (evPrim (.slc false true) [lo o f l, .int j]) Q ↔ Q (lo .own f (cut l none (some j))) := W_slLo rfl
theorem W_slLo_tf [Pl f] {j : Int} : W (evPrim (.slc true false) [lo o f l, .int j]) Q ↔ Q (lo .own f (cut l (some j) none)) := W_slLo rfl
theorem W_slLo_tt [Pl f] {i j : Int} : W (evPrim (.slc true true) [lo o f l, .int i, .int j]) Q ↔ Q (lo .own f (cut l (some i) (some j))) := W_slLo rfl
theorem W_slcS_tt {s : List Nat} {i j : Int} : W (evPrim (.slc true true) [.str s, .int i, .int j]) Q ↔ s.length ≤ line ∧ Q (.str (cut s (some i) (some j))) := W_slcS rfl
theorem W_revLo [Pl f] : W (evPrim .rev [lo o f l]) Q ↔ Q (lo .own f l.reverse) := by
  rw [lo]; simp only [evPrim, evRev, plainL_map, if_true, W_some, ← List.map_reverse, fold_lo]
theorem W_revTp [Pl f] : W (evPrim .rev [tp f l]) Q ↔ Q (tp f l.reverse) := by
  rw [tp]; simp only [evPrim, evRev, plainL_map, if_true, W_some, ← List.map_reverse, fold_tp]
theorem W_lrevLo [Pl f] : W (evPrim .lrev [lo o f l]) Q ↔ Q (lo .own f l.reverse) := by
  rw [lo]; simp only [evPrim, evLrev, plainL_map, if_true, W_some, ← List.map_reverse, fold_lo]
theorem W_addTp [Pl f] : W (evPrim .add [tp f l, tp f r]) Q ↔ l.length + r.length ≤ line ∧ Q (tp f (l ++ r)) := by
  simp only [tp, W_addT, List.length_map, plainL_map, and_true, List.map_append]
theorem W_addTp1 [Pl f] {x : α} : W (evPrim .add [tp f l, .tup [f x]]) Q ↔ l.length + 1 ≤ line ∧ Q (tp f (l ++ [x])) := W_addTp (r := [x])
theorem W_add1Tp [Pl f] {x : α} : W (evPrim .add [.tup [f x], tp f l]) Q ↔ 1 + l.length ≤ line ∧ Q (tp f ([x] ++ l)) := W_addTp (l := [x])
theorem W_addTpT [Pl f] {ys : List D} : W (evPrim .add [tp f l, .tup ys]) Q ↔ (l.length + ys.length ≤ line ∧ D.plainL ys = true) ∧ Q (.tup (mapD f l ++ ys)) := by
  simp only [tp, W_addT, List.length_map, plainL_map, true_and, mapD]
theorem W_addTtp [Pl f] {ys : List D} : W (evPrim .add [.tup ys, tp f l]) Q ↔ (ys.length + l.length ≤ line ∧ D.plainL ys = true) ∧ Q (.tup (ys ++ mapD f l)) := by
  simp only [tp, W_addT, List.length_map, plainL_map, and_true, mapD]
theorem plainL_mapD [Pl f] : D.plainL (mapD f l) = true := plainL_map l
theorem mapD_len : (mapD f l).length = l.length := List.length_map ..
theorem W_addLo [Pl f] : W (evPrim .add [lo o f l, lo p f r]) Q ↔ (o ≠ .ext ∧ p ≠ .ext ∧ l.length + r.length ≤ line) ∧ Q (lo .own f (l ++ r)) := by
  simp only [lo, W_addL, List.length_map, plainL_map, and_true, List.map_append]
theorem W_addLo1 [Pl f] {x : α} : W (evPrim .add [lo o f l, .lst p [f x]]) Q ↔ (o ≠ .ext ∧ p ≠ .ext ∧ l.length + 1 ≤ line) ∧ Q (lo .own f (l ++ [x])) := W_addLo (r := [x])
theorem W_add1Lo [Pl f] {x : α} : W (evPrim .add [.lst p [f x], lo o f l]) Q ↔ (p ≠ .ext ∧ o ≠ .ext ∧ 1 + l.length ≤ line) ∧ Q (lo .own f ([x] ++ l)) := W_addLo (l := [x])
theorem W_tupS {s : List Nat} {Q : D → Prop} : W (evPrim .tuple [.str s]) Q ↔ s.length ≤ line ∧ Q (tp sg s) := by simp only [evPrim, evTuple, W_if, W_some]; rfl
theorem W_lstS {s : List Nat} {Q : D → Prop} : W (evPrim .list [.str s]) Q ↔ s.length ≤ line ∧ Q (lo .own sg s) := by simp only [evPrim, evList, W_if, W_some]; rfl
theorem W_tupLo [Pl f] : W (evPrim .tuple [lo o f l]) Q ↔ Q (tp f l) := by rw [lo, W_tupL, fold_tp]; simp [plainL_map]
theorem W_tupTp [Pl f] : W (evPrim .tuple [tp f l]) Q ↔ Q (tp f l) := by rw [tp, W_tupT]; simp [plainL_map]
theorem W_lstLo [Pl f] : W (evPrim .list [lo o f l]) Q ↔ Q (lo .own f l) := by rw [lo, W_lstL, fold_lo]; simp [plainL_map]
theorem W_lstTp [Pl f] : W (evPrim .list [tp f l]) Q ↔ Q (lo .own f l) := by rw [tp, W_lstT, fold_lo]; simp [plainL_map]
theorem W_sumTp {l : List Int} {Q : D → Prop} : W (evPrim .sum [tp .int l]) Q ↔ Q (.int l.sum) := by rw [tp, W_sumT, ints_map, W_some]
def stepL {α : Type} (l : List α) (i k : Int) : List α := (PySem.sliceRange (min i l.length) l.length k).filterMap (l[·]?)
theorem stepL_mem {α : Type} {l : List α} {i k : Int} {x : α} (h : x ∈ stepL l i k) : x ∈ l := by
  obtain ⟨j, _, e⟩ := List.mem_filterMap.mp h
  exact List.mem_of_getElem? e
theorem W_stpLo [Pl f] {i k : Int} : W (evPrim .stp [lo o f l, .int i, .int k]) Q ↔ (0 ≤ i ∧ 1 ≤ k) ∧ Q (lo .own f (stepL l i k)) := by
  have e : ∀ ix : List Nat, ix.filterMap ((l.map f)[·]?) = (ix.filterMap (l[·]?)).map f := fun ix => by
    rw [List.map_filterMap]
    congr 1
    funext j
    simp
  rw [lo, W_stp, plainL_map, List.length_map, e]
  simp only [true_and]
  rfl
theorem mtTy_lo : mtTy .lcount (lo o f l) = true := rfl
theorem mtTy_lo2 : mtTy .lindex (lo o f l) = true := rfl
theorem mt_lcount {l : List Int} {k : Int} : W (evMt .lcount (lo o .int l) [.int k]) Q ↔ Q (.int (l.count k : Nat)) := by
  simp only [evMt, lo, ints_map, Option.map_some, W_some]
theorem mt_scount {s : List Nat} {c : Nat} : W (evMt .scount (.str s) [.str [c]]) Q ↔ Q (.int (s.count c : Nat)) := by
  simp only [evMt, W_some]
theorem mt_ssplit {s y : List Nat} : W (evMt .ssplit (.str s) [.str y]) Q ↔ ((y ≠ [] ∧ (y.all fun c => decide (c < 256)) = true) ∧ s.length + 2 ≤ line) ∧ Q (lo .own D.str (splitY y 0 s)) := by
  simp only [evMt, W_if, W_some, lo]
theorem mt_sends {s t : List Nat} : W (evMt .sends (.str s) [.str t]) Q ↔ Q (.bl (endsW s t)) := by
  simp only [evMt, W_some]
theorem mtTy_sp {s : List Nat} : mtTy .ssplit (.str s) = true := rfl
theorem mtTy_se {s : List Nat} : mtTy .sends (.str s) = true := rfl
theorem W_sumLo {l : List Int} : W (evPrim .sum [lo o .int l]) Q ↔ Q (.int l.sum) := by rw [lo, W_sum, ints_map, W_some]
theorem bls_map : ∀ l : List Bool, boolsD (l.map D.bl) = some l
  | [] => rfl
  | x :: r => by simp [boolsD, bls_map r]
theorem strs_map : ∀ l : List (List Nat), strsD (l.map D.str) = some l
  | [] => rfl
  | x :: r => by simp [strsD, strs_map r]
theorem W_allLo {l : List Bool} : W (evPrim .all [lo o .bl l]) Q ↔ Q (.bl (l.all id)) := by rw [lo, W_all, bls_map, W_some]
theorem W_anyLoB {l : List Bool} : W (evPrim .any [lo o .bl l]) Q ↔ Q (.bl (l.any id)) := by rw [lo, W_any, bls_map, W_some]
theorem W_joinLo {s : List Nat} {l : List (List Nat)} : W (evPrim (.joinC s) [lo o .str l]) Q ↔ (l.map List.length).sum + l.length * s.length ≤ line ∧ Q (.str (joinS s l)) := by
  rw [W_join, lo]
  simp only [evJoin, strs_map, Option.bind_some, W_if, W_some]
theorem W_joinSg {l : List Nat} : W (evPrim (.joinC []) [lo o sg l]) Q ↔ l.length ≤ line ∧ Q (.str l) := by
  rw [W_join, lo]
  have e : strsD (l.map sg) = some (l.map fun c => [c]) := by
    induction l with
    | nil => rfl
    | cons x r ih => simp only [List.map_cons, strsD, sg, ih, Option.map_some]
  have e2 : ((l.map fun c => [c]).map List.length).sum = l.length := by
    clear e
    induction l with
    | nil => rfl
    | cons x r ih => simp only [List.map_cons, List.sum_cons, List.length_cons, List.length_nil, ih]; omega
  have e3 : joinS [] (l.map fun c => [c]) = l := by
    clear e e2
    induction l with
    | nil => rfl
    | cons x r ih =>
      cases r with
      | nil => rfl
      | cons y s => simp only [List.map_cons, joinS] at ih ⊢; rw [ih]; rfl
  simp only [evJoin, e, Option.bind_some, W_if, W_some, e2, e3, List.length_nil, Nat.mul_zero, Nat.add_zero]
theorem W_eqE [Ec f n] [DecidableEq α] {a b : α} (hn : n ≤ 60 := by decide) : W (evPrim (.cmp .eq) [f a, f b]) Q ↔ Q (.bl (decide (a = b))) := by
  rw [W_eqD, eqv_ec]
  have := Ec.dp (f := f) a
  have := Ec.dp (f := f) b
  simp only [true_and, and_iff_right_iff_imp]; exact fun _ => .inl ⟨by omega, by omega⟩
theorem W_neE [Ec f n] [DecidableEq α] {a b : α} (hn : n ≤ 60 := by decide) : W (evPrim (.cmp .ne) [f a, f b]) Q ↔ Q (.bl (!decide (a = b))) := by
  rw [W_neD, eqv_ec]
  have := Ec.dp (f := f) a
  have := Ec.dp (f := f) b
  simp only [true_and, and_iff_right_iff_imp]; exact fun _ => .inl ⟨by omega, by omega⟩
theorem W_eqTp [Ec f n] [DecidableEq α] (hn : n ≤ 59 := by decide) : W (evPrim (.cmp .eq) [tp f l, tp f r]) Q ↔ Q (.bl (decide (l = r))) := W_eqE (f := tp f) (by omega)
theorem W_neTp [Ec f n] [DecidableEq α] (hn : n ≤ 59 := by decide) : W (evPrim (.cmp .ne) [tp f l, tp f r]) Q ↔ Q (.bl (!decide (l = r))) := W_neE (f := tp f) (by omega)
theorem W_eqLo [Ec f n] [DecidableEq α] (hn : n ≤ 59 := by decide) : W (evPrim (.cmp .eq) [lo o f l, lo p f r]) Q ↔ Q (.bl (decide (l = r))) := by
  rw [W_eqD]
  have a := Ec.dp (f := lo o f) l
  have b := Ec.dp (f := lo p f) r
  have e : (lo o f l).eqv (lo p f r) = decide (l = r) := by
    rw [Bool.eq_iff_iff]; simp only [lo, D.eqv]; rw [eqvL_map]; simp
  rw [e]; simp only [and_iff_right_iff_imp]; exact fun _ => .inl ⟨by omega, by omega⟩
theorem W_neLo [Ec f n] [DecidableEq α] (hn : n ≤ 59 := by decide) : W (evPrim (.cmp .ne) [lo o f l, lo p f r]) Q ↔ Q (.bl (!decide (l = r))) := by
  rw [W_neD]
  have a := Ec.dp (f := lo o f) l
  have b := Ec.dp (f := lo p f) r
  have e : (lo o f l).eqv (lo p f r) = decide (l = r) := by
    rw [Bool.eq_iff_iff]; simp only [lo, D.eqv]; rw [eqvL_map]; simp
  rw [e]; simp only [and_iff_right_iff_imp]; exact fun _ => .inl ⟨by omega, by omega⟩
theorem W_eqLoN [Ec f n] [DecidableEq α] (hn : n ≤ 59 := by decide) : W (evPrim (.cmp .eq) [lo o f l, .lst p []]) Q ↔ Q (.bl (decide (l = []))) := W_eqLo (r := []) hn
theorem W_neLoN [Ec f n] [DecidableEq α] (hn : n ≤ 59 := by decide) : W (evPrim (.cmp .ne) [lo o f l, .lst p []]) Q ↔ Q (.bl (!decide (l = []))) := W_neLo (r := []) hn
theorem W_eqTpN [Ec f n] [DecidableEq α] (hn : n ≤ 59 := by decide) : W (evPrim (.cmp .eq) [tp f l, .tup []]) Q ↔ Q (.bl (decide (l = []))) := W_eqTp (r := []) hn
theorem W_neTpN [Ec f n] [DecidableEq α] (hn : n ≤ 59 := by decide) : W (evPrim (.cmp .ne) [tp f l, .tup []]) Q ↔ Q (.bl (!decide (l = []))) := W_neTp (r := []) hn
theorem W_eqLo2 [Ec f n] [DecidableEq α] {a b : α} (hn : n ≤ 59 := by decide) : W (evPrim (.cmp .eq) [lo o f l, .lst p [f a, f b]]) Q ↔ Q (.bl (decide (l = [a, b]))) := W_eqLo (r := [a, b]) hn
theorem W_neLo2 [Ec f n] [DecidableEq α] {a b : α} (hn : n ≤ 59 := by decide) : W (evPrim (.cmp .ne) [lo o f l, .lst p [f a, f b]]) Q ↔ Q (.bl (!decide (l = [a, b]))) := W_neLo (r := [a, b]) hn
theorem W_eqLo1 [Ec f n] [DecidableEq α] {a : α} (hn : n ≤ 59 := by decide) : W (evPrim (.cmp .eq) [lo o f l, .lst p [f a]]) Q ↔ Q (.bl (decide (l = [a]))) := W_eqLo (r := [a]) hn
theorem cut_mem {i j : Option Int} {x : α} (h : x ∈ cut l i j) : x ∈ l := List.mem_of_mem_drop (List.mem_of_mem_take h)
theorem any_ec [Ec f n] [DecidableEq α] {a : α} : ((l.map f).any fun x => x.eqv (f a)) = decide (a ∈ l) := by
  rw [Bool.eq_iff_iff]; simp [Ec.eq]
theorem in_tp [Ec f n] [DecidableEq α] {a : α} {R : Bool → Prop} (hn : n ≤ 59 := by decide) : W (evIn (f a) (tp f l)) R ↔ R (decide (a ∈ l)) := by
  have h1 := Ec.dp (f := f) a
  have h2 := deepL_map (f := f) l
  simp only [tp, evIn]
  rw [if_pos ⟨by omega, by omega⟩, any_ec, W_some]
theorem in_S2 {a b c : List Nat} {R : Bool → Prop} : W (evIn (.str a) (.tup [.str b, .str c])) R ↔ R (decide (a ∈ [b, c])) := (show W (evIn (D.str a) (tp D.str [b, c])) R ↔ _ from in_tp (f := D.str) (l := [b, c])).trans (Iff.of_eq (congrArg R (decide_eq_decide.mpr Iff.rfl)))
theorem in_I2 {a b c : Int} {R : Bool → Prop} : W (evIn (.int a) (.tup [.int b, .int c])) R ↔ R (decide (a ∈ [b, c])) := (show W (evIn (D.int a) (tp D.int [b, c])) R ↔ _ from in_tp (f := D.int) (l := [b, c])).trans (Iff.of_eq (congrArg R (decide_eq_decide.mpr Iff.rfl)))
theorem in_lo [Ec f n] [DecidableEq α] {a : α} {R : Bool → Prop} (hn : n ≤ 59 := by decide) : W (evIn (f a) (lo o f l)) R ↔ R (decide (a ∈ l)) := by
  have h1 := Ec.dp (f := f) a
  have h2 := deepL_map (f := f) l
  simp only [lo, evIn]
  rw [if_pos ⟨by omega, by omega⟩, any_ec, W_some]
theorem in_str {c : Nat} {s : List Nat} {R : Bool → Prop} : W (evIn (.str [c]) (.str s)) R ↔ R (decide (c ∈ s)) := by
  simp only [evIn, W_some]
  rw [show s.contains c = decide (c ∈ s) by rw [Bool.eq_iff_iff]; simp]
theorem W_sortLoI {l : List Int} (h : l.length ≤ line) (q : Q (lo .own .int (sortBy (fun a b => decide (a < b)) l))) : W (evPrim .sorted [lo o .int l]) Q := W_sorted.mpr (W_sortInts h q)
theorem W_sortLoS {l : List (List Nat)} (h : l.length ≤ line) (q : Q (lo .own .str (sortBy strLt l))) : W (evPrim .sorted [lo o .str l]) Q := W_sorted.mpr (W_sortStrs h q)
/-- sorted, by an order of one's own -/
theorem insBy_map {lt : α → α → Bool} {x : α} (e : ∀ a ∈ l, (f a).ltD (f x) = lt a x) : insBy D.ltD (f x) (l.map f) = (insBy lt x l).map f := by
  induction l with
  | nil => rfl
  | cons y s ih =>
    simp only [List.map_cons, insBy, e y (by simp)]
    split
    · rw [ih fun a h => e a (by simp [h])]; rfl
    · rfl
theorem sortBy_map {lt : α → α → Bool} : ∀ {l : List α}, (∀ a ∈ l, ∀ b ∈ l, (f a).ltD (f b) = lt a b) → sortBy D.ltD (l.map f) = (sortBy lt l).map f
  | [], _ => rfl
  | x :: s, e => by
    simp only [List.map_cons, sortBy]
    rw [sortBy_map fun a ha b hb => e a (by simp [ha]) b (by simp [hb])]
    refine insBy_map fun a ha => e a ?_ x (by simp)
    exact List.mem_cons_of_mem _ (sortBy_mem.mp ha)
theorem W_sortLo [Ec f n] (lt : α → α → Bool) (h1 : l.length ≤ line) (h2 : ∀ x ∈ l, headS (f x) = true) (h3 : ∀ x ∈ l, ∀ y ∈ l, D.shp (f x) (f y) = true) (h4 : ∀ x ∈ l, ∀ y ∈ l, (f x).ltD (f y) = lt x y) (q : Q (lo .own f (sortBy lt l))) (hn : n ≤ 60 := by decide) : W (evPrim .sorted [lo o f l]) Q := by
  refine W_sorted.mpr (W_sortShp (by simpa using h1) ?_ ?_ ?_)
  · intro x hx
    obtain ⟨a, ha, rfl⟩ := List.mem_map.mp hx
    exact ⟨h2 a ha, Nat.le_trans (Ec.dp a) hn⟩
  · intro x hx y hy
    obtain ⟨a, ha, rfl⟩ := List.mem_map.mp hx
    obtain ⟨b, hb, rfl⟩ := List.mem_map.mp hy
    exact h3 a ha b hb
  · rw [sortBy_map h4]; exact q
theorem in_p2 [Ec f n] [DecidableEq α] {w : α} {x : α × α} {R : Bool → Prop} (hn : n ≤ 59 := by decide) : W (evIn (f w) (p2 f f x)) R ↔ R (decide (w = x.1 ∨ w = x.2)) := by
  have h0 := Ec.dp (f := f) w
  have h1 := Ec.dp (f := f) x.1
  have h2 := Ec.dp (f := f) x.2
  simp only [p2, evIn]
  rw [if_pos ⟨by omega, by simp only [D.deepL]; omega⟩, W_some]
  have : ([f x.1, f x.2].any fun y => y.eqv (f w)) = decide (w = x.1 ∨ w = x.2) := by
    rw [Bool.eq_iff_iff]; simp only [List.any_cons, List.any_nil, Bool.or_false, Bool.or_eq_true, Ec.eq, decide_eq_true_eq]
    exact ⟨fun h => h.imp Eq.symm Eq.symm, fun h => h.imp Eq.symm Eq.symm⟩
  rw [this]
/-! types -/
theorem ty_int {t : Ty} {i : Int} : tyIs t (.int i) = decide (t = .int) := by cases t <;> rfl
theorem ty_bl {t : Ty} {i : Bool} : tyIs t (.bl i) = (decide (t = .bool) || decide (t = .int)) := by cases t <;> rfl
theorem ty_str {t : Ty} {i : List Nat} : tyIs t (.str i) = decide (t = .str) := by cases t <;> rfl
theorem ty_tup {t : Ty} {i : List D} : tyIs t (.tup i) = decide (t = .tuple) := by cases t <;> rfl
theorem ty_lst {t : Ty} {o : Ow} {i : List D} : tyIs t (.lst o i) = decide (t = .list) := by cases t <;> rfl
theorem ty_dct {t : Ty} {o : Ow} {k : List Ky} {i : List D} : tyIs t (.dct o k i) = decide (t = .dict) := by cases t <;> rfl
theorem ty_non {t : Ty} : tyIs t .non = false := by cases t <;> rfl
theorem ty_tp {t : Ty} : tyIs t (tp f l) = tyIs t (.tup []) := by cases t <;> rfl
theorem ty_lo {t : Ty} : tyIs t (lo o f l) = tyIs t (.lst o []) := by cases t <;> rfl
theorem ty_p2 {t : Ty} {x : α × β} : tyIs t (p2 f g x) = tyIs t (.tup []) := by cases t <;> rfl
theorem isNon_tp : isNon (tp f l) = false := rfl
theorem isNon_lo : isNon (lo o f l) = false := rfl
/-! targets -/
variable {C : Cfg} {ρ : Env}
theorem T_p2 {a b : MT} {x : α × β} {R : Env → Prop} : W (bindT (.t [a, b]) (p2 f g x) ρ) R ↔ W (bindT a (f x.1) ρ) fun ρ1 => W (bindT b (g x.2) ρ1) R := by
  rw [p2, T_t, Ts_cons]; exact W_cg fun _ => Ts_cons.trans (W_cg fun _ => Ts_nil)
theorem T_p3 {a b c : MT} {x : α × β × γ} {R : Env → Prop} : W (bindT (.t [a, b, c]) (p3 f g h x) ρ) R ↔ W (bindT a (f x.1) ρ) fun ρ1 => W (bindT b (g x.2.1) ρ1) fun ρ2 => W (bindT c (h x.2.2) ρ2) R := by
  rw [p3, T_t, Ts_cons]; exact W_cg fun _ => Ts_cons.trans (W_cg fun _ => Ts_cons.trans (W_cg fun _ => Ts_nil))
theorem W_itP2_0 {x : α × β} : W (evItem (p2 f g x) (.int 0)) Q ↔ Q (f x.1) := by rw [p2, W_itemT, at_0, W_some]
theorem W_itP2_1 {x : α × β} : W (evItem (p2 f g x) (.int 1)) Q ↔ Q (g x.2) := by rw [p2, W_itemT, at_1, W_some]
theorem W_itP3_0 {x : α × β × γ} : W (evItem (p3 f g h x) (.int 0)) Q ↔ Q (f x.1) := by rw [p3, W_itemT, at_0, W_some]
theorem W_itP3_1 {x : α × β × γ} : W (evItem (p3 f g h x) (.int 1)) Q ↔ Q (g x.2.1) := by rw [p3, W_itemT, at_1, W_some]
theorem W_itP3_2 {x : α × β × γ} : W (evItem (p3 f g h x) (.int 2)) Q ↔ Q (h x.2.2) := by rw [p3, W_itemT, at_2, W_some]
theorem ty_p3 {t : Ty} {x : α × β × γ} : tyIs t (p3 f g h x) = tyIs t (.tup []) := by cases t <;> rfl
theorem W_itP2G [Inhabited α] {x : α × α} {i : Int} : W (evItem (p2 f f x) (.int i)) Q ↔ (-2 ≤ i ∧ i < 2) ∧ Q (f (gt [x.1, x.2] i)) := W_itTpG (f := f) (l := [x.1, x.2])
where W_itTpG {α : Type} {f : α → D} {l : List α} {Q : D → Prop} [Inhabited α] {i : Int} : W (evItem (tp f l) (.int i)) Q ↔ (-(l.length : Int) ≤ i ∧ i < l.length) ∧ Q (f (gt l i)) := by rw [W_itTp, W_at]
/-! ### loops -/
theorem for_P {t : MT} {b : Env → Option Fl} {R : Fl → Prop} (I : List α → Env → Prop) (h0 : I [] ρ)
    (hs : ∀ pre x suf ρ, l = pre ++ x :: suf → I pre ρ → W (bindT t (f x) ρ) fun ρ1 => W (b ρ1) (onFl (I (pre ++ [x])) R)) (hd : ∀ ρ, I l ρ → R (.nx ρ)) : W (forLoop t b (l.map f) ρ) R := by
  refine for_W0 (fun i ρ => I (l.take i) ρ) h0 ?_ ?_
  · intro i x ρ hi h
    rw [List.getElem?_map] at hi
    obtain ⟨a, ha, rfl⟩ := Option.map_eq_some_iff.mp hi
    have e : l.take (i + 1) = l.take i ++ [a] := by rw [List.take_succ, ha]; rfl
    show W (bindT t (f a) ρ) fun ρ1 => W (b ρ1) (onFl (fun ρ => I (l.take (i + 1)) ρ) R)
    rw [e]
    refine hs _ a (l.drop (i + 1)) ρ ?_ h
    have hl := (List.getElem?_eq_some_iff.mp ha).1
    have := (List.getElem?_eq_some_iff.mp ha).2
    rw [← this]; simp
  · intro ρ h
    rw [List.length_map, List.take_length] at h
    exact hd ρ h
theorem for_PE {t : MT} {b : Env → Option Fl} {R : Fl → Prop} (I : List α → Env → Prop) (h0 : I [] ρ)
    (hs : ∀ pre x suf ρ, l = pre ++ x :: suf → I pre ρ → W (bindT t (.tup [.int pre.length, f x]) ρ) fun ρ1 => W (b ρ1) (onFl (I (pre ++ [x])) R)) (hd : ∀ ρ, I l ρ → R (.nx ρ)) : W (forLoop t b (enumD 0 (l.map f)) ρ) R := by
  rw [enumD_map]
  refine for_W0 (fun i ρ => I (l.take i) ρ) h0 ?_ ?_
  · intro i x ρ hi h
    rw [List.getElem?_map, List.getElem?_zipIdx] at hi
    obtain ⟨a, ha, rfl⟩ := Option.map_eq_some_iff.mp hi
    obtain ⟨c, hc, rfl⟩ := Option.map_eq_some_iff.mp ha
    have e : l.take (i + 1) = l.take i ++ [c] := by rw [List.take_succ, hc]; rfl
    have hl := (List.getElem?_eq_some_iff.mp hc).1
    have := hs (l.take i) c (l.drop (i + 1)) ρ (by rw [← (List.getElem?_eq_some_iff.mp hc).2]; simp) h
    rw [List.length_take, Nat.min_eq_left (Nat.le_of_lt hl)] at this
    rw [Nat.zero_add]
    show W (bindT t (.tup [.int (i : Int), f c]) ρ) fun ρ1 => W (b ρ1) (onFl (fun ρ => I (l.take (i + 1)) ρ) R)
    rw [e]
    exact this
  · intro ρ h
    rw [List.length_map, List.length_zipIdx, List.take_length] at h
    exact hd ρ h
theorem for_R {N : Nat} {t : MT} {b : Env → Option Fl} {R : Fl → Prop} (I : Nat → Env → Prop) (h0 : I 0 ρ)
    (hs : ∀ i ρ, i < N → I i ρ → W (bindT t (.int (i : Int)) ρ) fun ρ1 => W (b ρ1) (onFl (I (i + 1)) R)) (hd : ∀ ρ, I N ρ → R (.nx ρ)) : W (forLoop t b (rangeD 0 N) ρ) R := by
  refine for_W0 I h0 ?_ ?_
  · intro i x ρ hi h
    have hx := rangeD_at hi
    have hi2 := (List.getElem?_eq_some_iff.mp hi).1
    rw [rangeD_length] at hi2
    rw [Int.zero_add] at hx
    subst hx
    exact hs i ρ hi2 h
  · intro ρ h
    rw [rangeD_length] at h
    exact hd ρ h
theorem for_R1 {a : Int} {N : Nat} {t : MT} {b : Env → Option Fl} {R : Fl → Prop} (I : Nat → Env → Prop) (h0 : I 0 ρ)
    (hs : ∀ i ρ, i < N → I i ρ → W (bindT t (.int (a + (i : Int))) ρ) fun ρ1 => W (b ρ1) (onFl (I (i + 1)) R)) (hd : ∀ ρ, I N ρ → R (.nx ρ)) : W (forLoop t b (rangeD a N) ρ) R := by
  refine for_W0 I h0 ?_ ?_
  · intro i x ρ hi h
    have hx := rangeD_at hi
    have hi2 := (List.getElem?_eq_some_iff.mp hi).1
    rw [rangeD_length] at hi2
    subst hx
    exact hs i ρ hi2 h
  · intro ρ h
    rw [rangeD_length] at h
    exact hd ρ h
/-- all turns alike -/
theorem for_A {t : MT} {b : Env → Option Fl} {R : Fl → Prop} (I : Env → Prop) (h0 : I ρ)
    (hs : ∀ x ρ, x ∈ l → I ρ → W (bindT t (f x) ρ) fun ρ1 => W (b ρ1) (onFl I R)) (hd : ∀ ρ, I ρ → R (.nx ρ)) : W (forLoop t b (l.map f) ρ) R :=
  for_P (fun _ => I) h0 (fun pre x suf ρ e h => hs x ρ (by rw [e]; simp) h) hd
theorem for_AR {a : Int} {N : Nat} {t : MT} {b : Env → Option Fl} {R : Fl → Prop} (I : Env → Prop) (h0 : I ρ)
    (hs : ∀ (i : Nat) ρ, i < N → I ρ → W (bindT t (.int (a + (i : Int))) ρ) fun ρ1 => W (b ρ1) (onFl I R)) (hd : ∀ ρ, I ρ → R (.nx ρ)) : W (forLoop t b (rangeD a N) ρ) R :=
  for_R1 (fun _ => I) h0 hs hd
section
variable {own : List Nat} {t : MT} {c e : ME}
/-- a comprehension that leaves all as it is -/
theorem comp_M (h : α → β) {R : List D × Env → Prop} (hb : ∀ a ∈ l, W (compF C t c e (f a) ρ) fun p => p.1 = some (g (h a)) ∧ wipe p.2 own = ρ) (hl : l.length ≤ line) (q : R (mapD g (l.map h), ρ)) : W (compLoop own (compF C t c e) (l.map f) ρ []) R :=
  comp_map (fun a => g (h a)) hb hl (by rw [mapD, List.map_map] at q; exact q)
theorem comp_K (k : α → Bool) (h : α → β) {R : List D × Env → Prop} (hb : ∀ a ∈ l, W (compF C t c e (f a) ρ) fun p => p.1 = (if k a = true then some (g (h a)) else none) ∧ wipe p.2 own = ρ) (hl : l.length ≤ line) (q : R (mapD g ((l.filter k).map h), ρ)) : W (compLoop own (compF C t c e) (l.map f) ρ []) R :=
  comp_keep k (fun a => g (h a)) hb hl (by rw [mapD, List.map_map] at q; exact q)
theorem comp_F (k : α → Bool) {R : List D × Env → Prop} (hb : ∀ a ∈ l, W (compF C t c e (f a) ρ) fun p => p.1 = (if k a = true then some (f a) else none) ∧ wipe p.2 own = ρ) (hl : l.length ≤ line) (q : R (mapD f (l.filter k), ρ)) : W (compLoop own (compF C t c e) (l.map f) ρ []) R :=
  comp_keep k f hb hl q
theorem comp_MR {N : Nat} (h : Nat → β) {R : List D × Env → Prop} (hb : ∀ i, i < N → W (compF C t c e (.int (i : Int)) ρ) fun p => p.1 = some (g (h i)) ∧ wipe p.2 own = ρ) (hl : N ≤ line) (q : R (mapD g ((List.range N).map h), ρ)) : W (compLoop own (compF C t c e) (rangeD 0 N) ρ []) R := by
  have er : ∀ (n : Nat) (k : Nat), rangeD (k : Int) n = (List.range' k n).map fun i : Nat => D.int (i : Int) := fun n => by
    induction n with
    | zero => intro k; rfl
    | succ n ih =>
      intro k
      have := ih (k + 1)
      rw [rangeD, List.range'_succ, List.map_cons, ← this]
      simp
  have e0 := er N 0
  rw [show ((0 : Nat) : Int) = 0 from rfl] at e0
  rw [e0]
  refine comp_M (f := fun i : Nat => D.int (i : Int)) (g := g) h (fun a ha => hb a ?_) (by simpa using hl) (by rw [← List.range_eq_range']; exact q)
  simp at ha
  omega
theorem rangeD_nat : ∀ N : Nat, rangeD 0 N = (List.range N).map fun i : Nat => D.int (i : Int) := fun N => by
  apply List.ext_getElem?
  intro i
  rcases Nat.lt_or_ge i N with h | h
  · have h2 : i < (rangeD 0 N).length := by rw [rangeD_length]; exact h
    have := rangeD_at (List.getElem?_eq_getElem h2)
    rw [List.getElem?_eq_getElem h2, this]
    simp [h]
  · rw [List.getElem?_eq_none (by rw [rangeD_length]; exact h), List.getElem?_eq_none (by simpa using h)]
theorem comp_KR {N : Nat} (k : Nat → Bool) (h : Nat → β) {R : List D × Env → Prop} (hb : ∀ i, i < N → W (compF C t c e (.int (i : Int)) ρ) fun p => p.1 = (if k i = true then some (g (h i)) else none) ∧ wipe p.2 own = ρ) (hl : N ≤ line) (q : R (mapD g (((List.range N).filter k).map h), ρ)) : W (compLoop own (compF C t c e) (rangeD 0 N) ρ []) R := by
  rw [rangeD_nat]
  exact comp_K (f := fun i : Nat => D.int (i : Int)) (g := g) k h (fun i hi => hb i (List.mem_range.mp hi)) (by simpa using hl) q
theorem comp_KE (k : Nat → α → Bool) (h : Nat → α → β) {R : List D × Env → Prop} (hb : ∀ (i : Nat) a, l[i]? = some a → W (compF C t c e (.tup [.int (i : Int), f a]) ρ) fun p => p.1 = (if k i a = true then some (g (h i a)) else none) ∧ wipe p.2 own = ρ) (hl : l.length ≤ line) (q : R (mapD g ((l.zipIdx.filter fun p => k p.2 p.1).map fun p => h p.2 p.1), ρ)) : W (compLoop own (compF C t c e) (enumD 0 (l.map f)) ρ []) R := by
  rw [enumD_map]
  refine comp_K (f := fun p : α × Nat => D.tup [.int p.2, f p.1]) (g := g) (fun p => k p.2 p.1) (fun p => h p.2 p.1) (fun a ha => hb a.2 a.1 ?_) (by simpa using hl) q
  exact List.mem_zipIdx_iff_getElem?.mp ha
theorem comp_ME (h : Nat → α → β) {R : List D × Env → Prop} (hb : ∀ (i : Nat) a, l[i]? = some a → W (compF C t c e (.tup [.int (i : Int), f a]) ρ) fun p => p.1 = some (g (h i a)) ∧ wipe p.2 own = ρ) (hl : l.length ≤ line) (q : R (mapD g ((l.zipIdx).map fun p => h p.2 p.1), ρ)) : W (compLoop own (compF C t c e) (enumD 0 (l.map f)) ρ []) R := by
  rw [enumD_map]
  refine comp_M (f := fun p : α × Nat => D.tup [.int p.2, f p.1]) (g := g) (fun p => h p.2 p.1) (fun a ha => hb a.2 a.1 ?_) (by simpa using hl) q
  exact List.mem_zipIdx_iff_getElem?.mp ha
/-- a comprehension that may leave names otherwise -/
theorem comp_X (E : Env → Prop) (h : α → β) {R : List D × Env → Prop} (h0 : E ρ) (hb : ∀ a ρ, a ∈ l → E ρ → W (compF C t c e (f a) ρ) fun p => p.1 = some (g (h a)) ∧ E (wipe p.2 own)) (hl : l.length ≤ line) (q : ∀ ρ, E ρ → R (mapD g (l.map h), ρ)) : W (compLoop own (compF C t c e) (l.map f) ρ []) R := by
  refine comp_W0 (fun i ρ acc => E ρ ∧ acc = ((l.take i).map h).map g) ⟨h0, rfl⟩ ?_ ?_
  · rintro i x ρ acc hi ⟨hE, rfl⟩
    rw [List.getElem?_map] at hi
    obtain ⟨a, ha, rfl⟩ := Option.map_eq_some_iff.mp hi
    have hlt := (List.getElem?_eq_some_iff.mp ha).1
    refine (hb a ρ (List.mem_of_getElem? ha) hE).mono fun p hp => ?_
    rw [hp.1]
    refine ⟨by simp only [List.length_map, List.length_take]; omega, hp.2, ?_⟩
    rw [List.take_succ, ha]; simp
  · rintro ρ acc ⟨hE, rfl⟩
    rw [List.length_map, List.take_length]
    exact q ρ hE
theorem comp_XR {N : Nat} (E : Env → Prop) (h : Nat → β) {R : List D × Env → Prop} (h0 : E ρ) (hb : ∀ i ρ, i < N → E ρ → W (compF C t c e (.int (i : Int)) ρ) fun p => p.1 = some (g (h i)) ∧ E (wipe p.2 own)) (hl : N ≤ line) (q : ∀ ρ, E ρ → R (mapD g ((List.range N).map h), ρ)) : W (compLoop own (compF C t c e) (rangeD 0 N) ρ []) R := by
  refine comp_W0 (fun i ρ acc => E ρ ∧ acc = ((List.range i).map h).map g) ⟨h0, rfl⟩ ?_ ?_
  · rintro i x ρ acc hi ⟨hE, rfl⟩
    have hx := rangeD_at hi
    have hi2 := (List.getElem?_eq_some_iff.mp hi).1
    rw [rangeD_length] at hi2
    rw [Int.zero_add] at hx
    subst hx
    refine (hb i ρ hi2 hE).mono fun p hp => ?_
    rw [hp.1]
    refine ⟨by simp only [List.length_map, List.length_range]; omega, hp.2, ?_⟩
    rw [List.range_succ]; simp
  · rintro ρ acc ⟨hE, rfl⟩
    rw [rangeD_length]
    exact q ρ hE
/-- a comprehension that goes on with a state -/
theorem comp_P {R : List D × Env → Prop} (I : List α → Env → List D → Prop) (h0 : I [] ρ [])
    (hs : ∀ pre x suf ρ acc, l = pre ++ x :: suf → I pre ρ acc → W (compF C t c e (f x) ρ) fun p => match p.1 with
      | some d => acc.length < line ∧ I (pre ++ [x]) (wipe p.2 own) (acc ++ [d])
      | none => I (pre ++ [x]) (wipe p.2 own) acc) (hd : ∀ ρ acc, I l ρ acc → R (acc, ρ)) : W (compLoop own (compF C t c e) (l.map f) ρ []) R := by
  refine comp_W0 (fun i ρ acc => I (l.take i) ρ acc) h0 ?_ ?_
  · intro i x ρ acc hi h
    rw [List.getElem?_map] at hi
    obtain ⟨a, ha, rfl⟩ := Option.map_eq_some_iff.mp hi
    have e : l.take (i + 1) = l.take i ++ [a] := by rw [List.take_succ, ha]; rfl
    rw [e]
    refine hs _ a (l.drop (i + 1)) ρ acc ?_ h
    rw [← (List.getElem?_eq_some_iff.mp ha).2]; simp
  · intro ρ acc h
    rw [List.length_map, List.take_length] at h
    exact hd ρ acc h
/-- so many draws -/
theorem comp_D {N : Nat} {a : Int} {R : List D × Env → Prop} (E : Env → Prop) (P : β → Prop) (h0 : E ρ)
    (hs : ∀ (i : Nat) ρ, i < N → E ρ → W (compF C t c e (.int (a + (i : Int))) ρ) fun p => (∃ b, p.1 = some (g b) ∧ P b) ∧ E (wipe p.2 own)) (hl : N ≤ line) (hd : ∀ ρ (bs : List β), E ρ → bs.length = N → (∀ b ∈ bs, P b) → R (mapD g bs, ρ)) : W (compLoop own (compF C t c e) (rangeD a N) ρ []) R := by
  refine comp_W0 (fun i ρ acc => E ρ ∧ ∃ bs : List β, acc = bs.map g ∧ bs.length = i ∧ ∀ b ∈ bs, P b) ⟨h0, [], rfl, rfl, fun b h => nomatch h⟩ ?_ ?_
  · rintro i x ρ acc hi ⟨hE, bs, rfl, hb, hp⟩
    have hx := rangeD_at hi
    have hi2 := (List.getElem?_eq_some_iff.mp hi).1
    rw [rangeD_length] at hi2
    subst hx
    refine (hs i ρ hi2 hE).mono fun p hq => ?_
    obtain ⟨⟨b, e, hbp⟩, hE2⟩ := hq
    rw [e]
    refine ⟨by rw [List.length_map]; omega, hE2, bs ++ [b], by simp, by simp [hb], fun y hy => ?_⟩
    rcases List.mem_append.mp hy with hy | hy
    · exact hp y hy
    · simp at hy; rw [hy]; exact hbp
  · rintro ρ acc ⟨hE, bs, rfl, hb, hp⟩
    rw [rangeD_length] at hb
    exact hd ρ bs hE hb hp
end
end
theorem zip_map {α β : Type} {f : α → D} {g : β → D} {l : List α} {m : List β} : zipD (l.map f) (m.map g) = (l.zip m).map (p2 f g) := zipD_map
theorem zip3_map {α β γ : Type} {f : α → D} {g : β → D} {h : γ → D} : ∀ {l : List α} {m : List β} {k : List γ}, zip3D (l.map f) (m.map g) (k.map h) = (l.zip (m.zip k)).map (p3 f g h)
  | [], _, _ => by simp [zip3D]
  | x :: r, [], _ => by simp [zip3D]
  | x :: r, y :: s, [] => by simp [zip3D]
  | x :: r, y :: s, z :: u => by simp [zip3D, zip3_map (l := r) (m := s) (k := u), p3]
end GN
namespace GN
section
variable {α : Type} {f : α → D} {l : List α} {o : Ow} {Q : D → Prop} {C C1 : Cfg} {j : Nat} {d : Dm}
theorem W_itTpG [Inhabited α] {i : Int} : W (evItem (tp f l) (.int i)) Q ↔ (-(l.length : Int) ≤ i ∧ i < l.length) ∧ Q (f (gt l i)) := by rw [W_itTp, W_at]
theorem W_itLoG [Inhabited α] {i : Int} : W (evItem (lo o f l) (.int i)) Q ↔ (-(l.length : Int) ≤ i ∧ i < l.length) ∧ Q (f (gt l i)) := by rw [W_itLo, W_at]
theorem W_itStr {s : List Nat} {i : Int} : W (evItem (.str s) (.int i)) Q ↔ (s.length ≤ line ∧ -(s.length : Int) ≤ i ∧ i < s.length) ∧ Q (.str [gt s i]) := by rw [W_itemS, W_at]; simp only [and_assoc]
theorem W_itT0 {x : D} {r : List D} : W (evItem (.tup (x :: r)) (.int 0)) Q ↔ Q x := by rw [W_itemT, at_0, W_some]
theorem W_itT1 {x y : D} {r : List D} : W (evItem (.tup (x :: y :: r)) (.int 1)) Q ↔ Q y := by rw [W_itemT, at_1, W_some]
theorem W_itT2 {x y z : D} {r : List D} : W (evItem (.tup (x :: y :: z :: r)) (.int 2)) Q ↔ Q z := by rw [W_itemT, at_2, W_some]
theorem W_itT3 {x y z u : D} {r : List D} : W (evItem (.tup (x :: y :: z :: u :: r)) (.int 3)) Q ↔ Q u := by rw [W_itemT, at_3, W_some]
theorem W_itL0 {x : D} {r : List D} : W (evItem (.lst o (x :: r)) (.int 0)) Q ↔ Q x := by rw [W_itemL, at_0, W_some]
theorem W_itL1 {x y : D} {r : List D} : W (evItem (.lst o (x :: y :: r)) (.int 1)) Q ↔ Q y := by rw [W_itemL, at_1, W_some]
theorem W_itL2 {x y z : D} {r : List D} : W (evItem (.lst o (x :: y :: z :: r)) (.int 2)) Q ↔ Q z := by rw [W_itemL, at_2, W_some]
theorem W_itL3 {x y z u : D} {r : List D} : W (evItem (.lst o (x :: y :: z :: u :: r)) (.int 3)) Q ↔ Q u := by rw [W_itemL, at_3, W_some]
theorem W_liI {i : Int} (l : List Int) : W (evItem (.lst o (l.map D.int)) (.int i)) Q ↔ (-(l.length : Int) ≤ i ∧ i < l.length) ∧ Q (.int (gt l i)) := W_itLoG
theorem W_liS {i : Int} (l : List (List Nat)) : W (evItem (.lst o (l.map D.str)) (.int i)) Q ↔ (-(l.length : Int) ≤ i ∧ i < l.length) ∧ Q (.str (gt l i)) := W_itLoG
theorem W_liI2 {i a b : Int} : W (evItem (.lst o [.int a, .int b]) (.int i)) Q ↔ (-2 ≤ i ∧ i < 2) ∧ Q (.int (gt [a, b] i)) := W_liI [a, b]
theorem W_liI3 {i a b c : Int} : W (evItem (.lst o [.int a, .int b, .int c]) (.int i)) Q ↔ (-3 ≤ i ∧ i < 3) ∧ Q (.int (gt [a, b, c] i)) := W_liI [a, b, c]
theorem W_liI4 {i a b c d : Int} : W (evItem (.lst o [.int a, .int b, .int c, .int d]) (.int i)) Q ↔ (-4 ≤ i ∧ i < 4) ∧ Q (.int (gt [a, b, c, d] i)) := W_liI [a, b, c, d]
theorem W_liI5 {i a b c d e : Int} : W (evItem (.lst o [.int a, .int b, .int c, .int d, .int e]) (.int i)) Q ↔ (-5 ≤ i ∧ i < 5) ∧ Q (.int (gt [a, b, c, d, e] i)) := W_liI [a, b, c, d, e]
theorem W_liI6 {i a b c d e f : Int} : W (evItem (.lst o [.int a, .int b, .int c, .int d, .int e, .int f]) (.int i)) Q ↔ (-6 ≤ i ∧ i < 6) ∧ Q (.int (gt [a, b, c, d, e, f] i)) := W_liI [a, b, c, d, e, f]
theorem W_liI7 {i a b c d e f g : Int} : W (evItem (.lst o [.int a, .int b, .int c, .int d, .int e, .int f, .int g]) (.int i)) Q ↔ (-7 ≤ i ∧ i < 7) ∧ Q (.int (gt [a, b, c, d, e, f, g] i)) := W_liI [a, b, c, d, e, f, g]
theorem W_liI8 {i a b c d e f g h : Int} : W (evItem (.lst o [.int a, .int b, .int c, .int d, .int e, .int f, .int g, .int h]) (.int i)) Q ↔ (-8 ≤ i ∧ i < 8) ∧ Q (.int (gt [a, b, c, d, e, f, g, h] i)) := W_liI [a, b, c, d, e, f, g, h]
theorem W_liS2 {i : Int} {a b : List Nat} : W (evItem (.lst o [.str a, .str b]) (.int i)) Q ↔ (-2 ≤ i ∧ i < 2) ∧ Q (.str (gt [a, b] i)) := W_liS [a, b]
theorem W_liS3 {i : Int} {a b c : List Nat} : W (evItem (.lst o [.str a, .str b, .str c]) (.int i)) Q ↔ (-3 ≤ i ∧ i < 3) ∧ Q (.str (gt [a, b, c] i)) := W_liS [a, b, c]
theorem W_liS4 {i : Int} {a b c d : List Nat} : W (evItem (.lst o [.str a, .str b, .str c, .str d]) (.int i)) Q ↔ (-4 ≤ i ∧ i < 4) ∧ Q (.str (gt [a, b, c, d] i)) := W_liS [a, b, c, d]
theorem W_liS5 {i : Int} {a b c d e : List Nat} : W (evItem (.lst o [.str a, .str b, .str c, .str d, .str e]) (.int i)) Q ↔ (-5 ≤ i ∧ i < 5) ∧ Q (.str (gt [a, b, c, d, e] i)) := W_liS [a, b, c, d, e]
theorem W_liS6 {i : Int} {a b c d e f : List Nat} : W (evItem (.lst o [.str a, .str b, .str c, .str d, .str e, .str f]) (.int i)) Q ↔ (-6 ≤ i ∧ i < 6) ∧ Q (.str (gt [a, b, c, d, e, f] i)) := W_liS [a, b, c, d, e, f]
theorem W_liS7 {i : Int} {a b c d e f g : List Nat} : W (evItem (.lst o [.str a, .str b, .str c, .str d, .str e, .str f, .str g]) (.int i)) Q ↔ (-7 ≤ i ∧ i < 7) ∧ Q (.str (gt [a, b, c, d, e, f, g] i)) := W_liS [a, b, c, d, e, f, g]
theorem W_liS8 {i : Int} {a b c d e f g h : List Nat} : W (evItem (.lst o [.str a, .str b, .str c, .str d, .str e, .str f, .str g, .str h]) (.int i)) Q ↔ (-8 ≤ i ∧ i < 8) ∧ Q (.str (gt [a, b, c, d, e, f, g, h] i)) := W_liS [a, b, c, d, e, f, g, h]
theorem W_liT2 {i : Int} {a b : List α} : W (evItem (.lst o [tp f a, tp f b]) (.int i)) Q ↔ (-2 ≤ i ∧ i < 2) ∧ Q (tp f (gt [a, b] i)) := W_itLoG (f := tp f) (l := [a, b])
theorem W_liT2t {i : Int} {a b : List α} : W (evItem (.tup [tp f a, tp f b]) (.int i)) Q ↔ (-2 ≤ i ∧ i < 2) ∧ Q (tp f (gt [a, b] i)) := W_itTpG (f := tp f) (l := [a, b])
theorem W_intS {c : Nat} : W (evPrim .int [.str [c]]) Q ↔ (48 ≤ c ∧ c ≤ 57) ∧ Q (.int ((c - 48 : Nat) : Int)) := by simp only [evPrim, evInt, W_if, W_some]
theorem W_mulLo [Pl f] {a : α} {k : Int} : W (evPrim .mul [.lst o [f a], .int k]) Q ↔ (o ≠ .ext ∧ -(2 ^ 63) ≤ k ∧ k < 2 ^ 63 ∧ k.toNat ≤ line) ∧ Q (lo .own f (List.replicate k.toNat a)) := by
  have e : (List.replicate k.toNat [f a]).flatten = (List.replicate k.toNat a).map f := by
    generalize k.toNat = n
    induction n with
    | zero => rfl
    | succ n ih => rw [List.replicate_succ, List.flatten_cons, ih, List.replicate_succ]; rfl
  simp only [evPrim, evMul, W_if, W_some, e, fold_lo, D.plainL, Pl.pl, Bool.and_true, true_and, List.length_cons, List.length_nil, Nat.zero_add, Nat.one_mul]
theorem W_maxLo {l : List Int} : W (evPrim .max [lo o .int l]) Q ↔ W (maxL l) fun m => Q (.int m) := by
  simp only [evPrim, evMax, lo, ints_map, Option.bind_some, W_map]
theorem W_minLo {l : List Int} : W (evPrim .min [lo o .int l]) Q ↔ W (minL l) fun m => Q (.int m) := by
  simp only [evPrim, evMin, lo, ints_map, Option.bind_some, W_map]
theorem kAt_mem {ks : List Ky} {k : Kx} : (kAt ks k).isSome = decide (Ky.x k ∈ ks) := by
  rw [Bool.eq_iff_iff, decide_eq_true_eq, kAt, List.findIdx?_isSome, List.any_eq_true]
  simp
theorem in_dct {ks : List Ky} {vs : List D} {w : Int} {R : Bool → Prop} : W (evIn (.int w) (.dct .own ks vs)) R ↔ R (decide (Ky.x (.i w) ∈ ks)) := by
  simp only [evIn, kxOf, Option.map_some, W_some, kAt_mem]
theorem W_ownD {ks : List Ky} {vs : List D} {R : List Ky × List D → Prop} : W (ownD (.dct .own ks vs)) R ↔ R (ks, vs) := W_some
theorem W_kxI {i : Int} {R : Kx → Prop} : W (kxOf (.int i)) R ↔ R (.i i) := W_some
theorem W_kxS {s : List Nat} {R : Kx → Prop} : W (kxOf (.str s)) R ↔ R (.s s) := W_some
/-- a dict whose keys are these whole numbers -/
def KeyD (L : List Int) (d : D) : Prop := ∃ ks vs, d = .dct .own ks vs ∧ ks.Nodup ∧ vs.length ≤ L.length ∧ ∀ w : Int, Ky.x (.i w) ∈ ks ↔ w ∈ L
theorem KeyD.nil : KeyD [] (.dct .own [] []) := ⟨[], [], rfl, List.nodup_nil, Nat.le_refl _, by simp⟩
theorem KeyD.set {L : List Int} {ks : List Ky} {vs : List D} {w : Int} {x : D} (h : KeyD L (.dct .own ks vs)) : KeyD (L ++ [w]) (setK ks vs (.i w) x) := by
  obtain ⟨ks', vs', e, h1, h2, h3⟩ := h
  cases e
  have hm := kAt_mem (ks := ks) (k := .i w)
  unfold setK
  cases hk : kAt ks (.i w) with
  | some n =>
    rw [hk] at hm
    have hw : Ky.x (.i w) ∈ ks := by simpa using hm.symm
    refine ⟨ks, _, rfl, h1, by simp; omega, fun v => ?_⟩
    rw [h3, List.mem_append, List.mem_singleton]
    exact ⟨.inl, fun h => h.elim id fun e => by rw [e]; exact (h3 w).mp hw⟩
  | none =>
    rw [hk] at hm
    have hw : ¬ Ky.x (.i w) ∈ ks := by simpa using hm.symm
    refine ⟨ks ++ [.x (.i w)], _, rfl, ?_, by simp; omega, fun v => ?_⟩
    · rw [List.nodup_append]
      exact ⟨h1, by simp, fun a ha b hb => by simp at hb; subst hb; intro e; exact hw (e ▸ ha)⟩
    · rw [List.mem_append, h3, List.mem_append, List.mem_singleton, List.mem_singleton]
      simp
theorem W_mulO {a b : Int} : W (evPrim .mul [.int a, .int b]) Q ↔ ((-18446744073709551616 < a ∧ a < 18446744073709551616) ∨ (-18446744073709551616 < b ∧ b < 18446744073709551616) ∨ a.natAbs.log2 + b.natAbs.log2 < 1000000) ∧ Q (.int (a * b)) := by
  rw [W_mul]; simp [small, or_assoc]
theorem gt_0 [Inhabited α] {x : α} {r : List α} : gt (x :: r) 0 = x := by unfold gt; rw [at_0]; rfl
theorem gt_1 [Inhabited α] {x y : α} {r : List α} : gt (x :: y :: r) 1 = y := by unfold gt; rw [at_1]; rfl
theorem W_pick {p : Prop} [Decidable p] {x y : D} : W (evItem (.lst o [x, y]) (.int (if p then 1 else 0))) Q ↔ Q (if p then y else x) := by
  by_cases h : p
  · rw [if_pos h, if_pos h, W_itemL, at_1, W_some]
  · rw [if_neg h, if_neg h, W_itemL, at_0, W_some]
theorem pick_int {p : Prop} [Decidable p] {a b : Int} : (if p then D.int a else D.int b) = D.int (if p then a else b) := by split <;> rfl
theorem pick_str {p : Prop} [Decidable p] {a b : List Nat} : (if p then D.str a else D.str b) = D.str (if p then a else b) := by split <;> rfl
theorem pick_bl {p : Prop} [Decidable p] {a b : Bool} : (if p then D.bl a else D.bl b) = D.bl (if p then a else b) := by split <;> rfl
theorem pick_tp {α : Type} {f : α → D} {p : Prop} [Decidable p] {a b : List α} : (if p then tp f a else tp f b) = tp f (if p then a else b) := by split <;> rfl
theorem gt_pick {α : Type} [Inhabited α] {p : Prop} [Decidable p] {x y : α} : gt [x, y] (if p then 1 else 0) = if p then y else x := by
  by_cases h : p
  · rw [if_pos h, if_pos h, gt_1]
  · rw [if_neg h, if_neg h, gt_0]
theorem pick_b {p : Prop} [Decidable p] : (-2 ≤ (if p then (1 : Int) else 0) ∧ (if p then (1 : Int) else 0) < 2) = True := by
  by_cases h : p <;> simp [h]
/-- a def's call, by the def -/
abbrev Runs (C1 : Cfg) (j : Nat) (C : Cfg) (d : Dm) : Prop := ∀ vs, C1.call j vs = runD C (some d) vs
theorem run_W {vs : List D} {Q : D × List (Option D) → Prop} (hj : Runs C1 j C d) (hl : vs.length = d.np) (h : W (exs C d.body (vs.map some ++ List.replicate (d.nn - d.np) none)) fun f => match f with
    | .rt v ρ => ρ.length = d.nn ∧ Q (v, (wipe ρ d.asg).take d.np)
    | .nx ρ => ρ.length = d.nn ∧ Q (.non, (wipe ρ d.asg).take d.np)
    | _ => False) : W (C1.call j vs) Q := by
  rw [hj]; exact D_run hl h
end
end GN
end

section
set_option linter.all false
set_option maxRecDepth 100000
namespace GN
local macro_rules
  | `(tactic| exists $es,*) => `(tactic| (repeat (first | simp only [A_var, A_cst, A_gbl, A_idx, A_prim, A_and, A_or, A_not, A_ite, A_chain, A_tup, A_lst, A_ali, As_nil, As_cons, P_v, P_s, U_v, U_s, T_v, T_t, Ts_nil, Ts_cons, E_at, E_frz, E_fz, E_mv, E_po, E_tup, E_lst, E_call, E_and, E_or, E_not, E_ite, E_comp, C_turn, E_pop0, E_pop1, Os_nil, Os_ow, Os_pl, Os_fl, Os_ml, I_own, I_take, I_rng, I_enum, I_zip, I_zip3, I_rev, I_revT, I_revR, sq_L, sq_T, it_L, it_T, rg_1, rg_2, S_nil, S_cons, S_asg, S_setI, S_setD, S_setE, E_mt, E_mtp, E_dctK, W_dK1, S_sda, rg_3, W_itO_L, W_itO_D, W_putO_L, W_putO_D, E_dct, S_app, S_ext, S_ins, S_expr, S_ali, S_ife, S_for, S_while, S_ret, S_retN, S_brk, S_cont, S_pass, W_asB, W_asI, W_ownL, W_anyL, W_shL, Nx_nx, Nx_rt, Nx_bk, Nx_ct, W_some, Br_true, Br_false, wipe, refill, emptyL, lendBack, refill_nil, refill_nx, refill_rt, W_none, W_map, eqvL_nil, eqv_nil, W_add, W_addS, W_addT, W_addL, W_sub, W_mulS, W_fdiv, W_mod, W_pow, W_neg, W_lt, W_le, W_gt, W_ge, W_eqI, W_neI, W_eqS, W_neS, W_eqTT, W_neTT, W_eqLL, W_neLL, W_eqB, W_neB, W_in, W_notin, W_isN, W_isNotN, W_isB, W_isNotB, W_pidx, W_slcS_ft, W_slcS_tf, W_lenL, W_lenT, W_lenS, W_tupL, W_tupT, W_lstL, W_lstT, W_intI, W_intB, W_strI, W_sum, W_band, W_bor, W_inv, W_shl, W_shr, W_sortedD, W_inRg, W_ninRg, W_all, W_any, W_isi, W_sortSet, W_lstRg, W_repr, W_max2, W_min2, W_abs, ixAt_0, ixAt_1, ixAt_2, get_zero, get_succ, put_zero, put_succ, mt_ssplit, mt_sends, mtTy_sp, mtTy_se, W_gtBI, A_tor, W_torN, W_torL, W_torE, eE_T, eE_L, W_addIB, W_addBI, W_subIB, W_subBI, W_strB, in_S2, in_I2, W_sumTp, W_stpLo, mtTy_lo, mtTy_lo2, mt_lcount, mt_scount, W_liS5, W_liS6, W_liS7, W_tupS, W_lstS, W_liS2, W_liS3, W_liS4, W_mulLo, W_maxLo, W_minLo, in_dct, W_ownD, W_kxI, W_kxS, W_itP3_0, W_itP3_1, W_itP3_2, ty_p3, ty_p2, W_intS, ty_int, ty_bl, ty_str, ty_tup, ty_lst, ty_dct, ty_non, pick_int, pick_str, pick_bl, pick_tp, fold_mapD, W_pick, gt_pick, pick_b, W_eqLo1, W_eqLo2, W_neLo2, W_liT2, sq_tp, sq_lo, rev_map, in_p2, W_mulO, W_itTpG, W_itLoG, W_itStr, W_itT0, W_itT1, W_itT2, W_itT3, W_itL0, W_itL1, W_itL2, W_itL3, W_liI2, W_liI3, W_liI4, W_liI5, W_liI6, W_liI7, W_liI8, W_liS8, gt_0, gt_1, W_ownLo, W_shLo, W_anyLo, it_tp, it_lo, it_str, W_lenTp, W_lenLo, W_slTp_ft, W_slTp_tf, W_slTp_tt, W_slLo_ft, W_slLo_tf, W_slLo_tt, W_slcS_tt, W_revLo, W_revTp, W_lrevLo, W_revS, A_alk, S_alk, shK, W_addTp, W_addTp1, W_add1Tp, W_addLo, W_addLo1, W_add1Lo, W_tupLo, W_tupTp, W_lstLo, W_lstTp, W_sumLo, W_allLo, W_anyLoB, W_joinLo, W_joinSg, W_eqTp, W_neTp, W_eqLo, W_neLo, W_eqLoN, W_neLoN, W_eqTpN, W_neTpN, in_tp, in_lo, in_str, ty_tp, ty_lo, isNon_tp, isNon_lo, T_p2, T_p3, W_itP2_0, W_itP2_1, fold_tp, fold_lo, fold_app, fold_ext, fold_appT, fold_extT, fold_set, fold_dropLast, fold_erase, plain_tp, plain_lo, plain_p2, plain_p3, frz_tp, frz_lo, frz_p2, zip_map, zip3_map, sg, line, onFl_nx, onFl_ct, onFl_bk, onFl_rt, Int.reduceToNat, Int.reducePow, Int.reduceLE, Int.reduceLT, Int.reduceAdd, Int.reduceSub, Int.reduceMul, Int.reduceDiv, Int.reduceMod, Int.reduceNeg, Int.reduceEq, Int.reduceGT, Nat.reduceAdd, Nat.reduceSub, Nat.reduceMul, Nat.reduceLT, Nat.reduceLeDiff, Nat.reduceEqDiff, Nat.zero_add, D.plain, D.plainL, Ow.isOwn, D.frz, Ow.frz, List.isEmpty_nil, List.isEmpty_cons, List.length_cons, List.length_nil, Bool.and_true, Bool.true_and, Bool.not_true, Bool.not_false, Bool.false_eq_true, if_false, if_true, reduceIte, true_and, and_true, decide_true, decide_false, decide_eq_true_eq, List.map_cons, List.map_nil, List.set_cons_zero, List.take_succ_cons, List.take_zero, Int.toNat_zero, List.set_cons_succ, List.getElem?_cons_zero, List.getElem?_cons_succ, Option.bind_some, Option.map_some, Int.cast_ofNat_Int, Int.natCast_zero, Int.natCast_one, List.any_cons, List.any_nil, sing_eq, false_and, and_false, Bool.or_false, Bool.or_true, Bool.false_or, Bool.true_or, List.eraseIdx_cons_zero, List.drop_zero, List.cons_append, or_true, true_or, at_0, at_1, at_2, at_3, List.nil_append, List.append_nil, eq_self, ne_eq, reduceCtorEq, not_false_eq_true, not_true_eq_false, plainL_map, Bool.not_eq_true', decide_eq_false_iff_not, List.length_append, List.length_map, Int.zero_add, Int.toNat_natCast, List.length_set, $[$es:term],*] | (refine And.intro ?_ ?_; focus (first | decide | omega | assumption | exact Or.inr rfl | (refine ⟨?_, ?_⟩ <;> first | decide | omega | assumption | exact Or.inr rfl) | (refine ⟨?_, ?_, ?_⟩ <;> first | decide | omega | assumption | exact Or.inr rfl))) | (show _ ≤ _; omega) | (show _ < _; omega) | (show _ ∨ _; omega))))
/-! products, rows, covers: what their defs answer -/
abbrev rw (r : List Int) : D := tp D.int r
structure Row (m : Nat) (r : List Int) : Prop where
  len : r.length = m
  bits : Bits r
structure Prd (m : Nat) (p : List Nat) : Prop where
  len : p.length = m
  sgn : Signs p
abbrev ch (a b : List Int) : D := .tup [rw a, rw b]
abbrev Res := D × List (Option D) → Prop
def S_law_draw (C : Cfg) (j : Nat) : Prop := Draws C j Deck2Ok
def S_law_deck (C : Cfg) (j : Nat) : Prop := ∀ (ns : List Int) (Q : Res), ns.length ≤ 63 → (∀ d x, Deck2Ok d → Q (d, [x])) → W (C.call j [.lst .ext (ns.map D.int)]) Q
def S_law_many (C : Cfg) (j : Nat) : Prop := ∀ (d : D) (Q : Res), Deck2Ok d → (∀ (m : Nat) d', 1 ≤ m → m ≤ 6 → Deck2Ok d' → Q (.int m, [some d'])) → W (C.call j [d]) Q
def S_law_row (C : Cfg) (j : Nat) : Prop := ∀ (d : D) (m : Nat) (Q : Res), Deck2Ok d → m ≤ 1000 → (∀ r d', Row m r → Deck2Ok d' → Q (rw r, [some d', some (.int m)])) → W (C.call j [d, .int m]) Q
def S_law_change (C : Cfg) (j : Nat) : Prop := ∀ (d : D) (m : Nat) (Q : Res), Deck2Ok d → 1 ≤ m → m ≤ 1000 → (∀ a b d', Row m a → Row m b → Deck2Ok d' → Q (ch a b, [some d', some (.int m)])) → W (C.call j [d, .int m]) Q
def S_law_product (C : Cfg) (j : Nat) : Prop := ∀ (d : D) (m : Nat) (Q : Res), Deck2Ok d → m ≤ 1000 → (∀ p d', Prd m p → Deck2Ok d' → Q (.str p, [some d', some (.int m)])) → W (C.call j [d, .int m]) Q
def S_holds_row (C : Cfg) (j : Nat) : Prop := ∀ (p : List Nat) (r : List Int) (Q : Res), Bits r → p.length ≤ 1000 → Q (.bl (hr p r), [some (.str p), some (rw r)]) → W (C.call j [.str p, rw r]) Q
def S_holds_all (C : Cfg) (j : Nat) : Prop := ∀ (p q : List Nat) (Q : Res), p.length ≤ 1000 → Q (.bl (ha p q), [some (.str p), some (.str q)]) → W (C.call j [.str p, .str q]) Q
def S_meet (C : Cfg) (j : Nat) : Prop := ∀ (p q : List Nat) (Q : Res), p.length ≤ 1000 → Q (.bl (mt p q), [some (.str p), some (.str q)]) → W (C.call j [.str p, .str q]) Q
def S_cube_of (C : Cfg) (j : Nat) : Prop := ∀ (a b : List Int) (Q : Res), Bits a → a.length ≤ 1000 → Q (.str (cube a b), [some (ch a b)]) → W (C.call j [ch a b]) Q
def S_law_holds (C : Cfg) (j : Nat) : Prop := ∀ (p : List Nat) (r : List Int) (Q : Res), Bits r → Signs p → Q (.bl (hr p r), [some (.str p), some (rw r)]) → W (C.call j [.str p, rw r]) Q
/-- all rows, the last worth the slowest -/
def rowsM : Nat → List (List Int)
  | 0 => [[]]
  | n + 1 => (rowsM n).map (· ++ [0]) ++ (rowsM n).map (· ++ [1])
theorem rowsM_len : ∀ n, (rowsM n).length = 2 ^ n
  | 0 => rfl
  | n + 1 => by rw [rowsM, List.length_append, List.length_map, List.length_map, rowsM_len n, Nat.pow_succ]; omega
theorem rowsM_mem : ∀ {n : Nat} {r : List Int}, r ∈ rowsM n ↔ Row n r
  | 0, r => by
    simp only [rowsM, List.mem_singleton]
    constructor
    · rintro rfl; exact ⟨rfl, fun w h => nomatch h⟩
    · rintro ⟨h, _⟩; exact List.length_eq_zero_iff.mp h
  | n + 1, r => by
    simp only [rowsM, List.mem_append, List.mem_map]
    constructor
    · rintro (⟨x, hx, rfl⟩ | ⟨x, hx, rfl⟩) <;> obtain ⟨h1, h2⟩ := rowsM_mem.mp hx <;> refine ⟨by simp [h1], fun w hw => ?_⟩ <;> (rcases List.mem_append.mp hw with hw | hw; exact h2 w hw; simp at hw; omega)
    · rintro ⟨h1, h2⟩
      rcases List.eq_nil_or_concat r with rfl | ⟨x, w, rfl⟩
      · simp at h1
      · rw [List.concat_eq_append] at h1 h2 ⊢
        have hx : Row n x := ⟨by simpa using h1, fun y hy => h2 y (by simp [hy])⟩
        rcases h2 w (by simp) with rfl | rfl
        · exact .inl ⟨x, rowsM_mem.mpr hx, rfl⟩
        · exact .inr ⟨x, rowsM_mem.mpr hx, rfl⟩
def S_law_rows (C : Cfg) (j : Nat) : Prop := ∀ (m : Nat) (Q : Res), m ≤ 6 → (∀ o, o ≠ .ext → Q (lo o rw (rowsM m), [some (.int m)])) → W (C.call j [.int m]) Q
def S_rows_of (C : Cfg) (j : Nat) : Prop := ∀ (m : Nat) (Q : Res), m ≤ 12 → Q (tp rw (rowsL m), [some (.int m)]) → W (C.call j [.int m]) Q
section
variable {C C1 : Cfg} {j c0 c1 c2 c3 : Nat}
/- law_deck:  -/
def B_deckC : MSs := (.cons (.ret (.lst (.ow (.po .list (.ow (.po (.slc false true) (.pl 0 (.ow (.at_ (.cst (.int 63))) .nil))) .nil)) (.ow (.at_ (.prim .add (.cons (.cst (.int 48271)) (.cons (.prim .mod (.cons (.prim .sum (.cons (.prim (.slc false true) (.cons (.var 0) (.cons (.cst (.int 63)) .nil))) .nil)) (.cons (.cst (.int 2147483629)) .nil))) .nil)))) (.ow (.at_ (.cst (.int 0))) .nil))))) .nil)
abbrev D_deckC : Dm := ⟨1, 1, [], B_deckC⟩
theorem T_law_deck (hj : Runs C1 j C D_deckC) : S_law_deck C1 j := by
  intro ns Q hl q
  refine run_W hj rfl ?_
  exact deck2_W hl fun d' x hd' => ⟨rfl, q _ _ hd'⟩
/- law_draw:  -/
def B_drawC : MSs := (.cons (.ali 2 0 0) (.cons (.ife (.at_ (.and (.prim (.cmp .ne) (.cons (.ali 0 0) (.cons (.lst .nil) .nil))) (.prim (.cmp .ge) (.cons (.idx (.ali 0 0) (.cst (.int 0))) (.cons (.prim .pow (.cons (.cst (.int 10)) (.cons (.cst (.int 18)) .nil))) .nil))))) (.cons (.asg (.v 5) (.at_ (.prim .mod (.cons (.idx (.ali 0 0) (.cst (.int 0))) (.cons (.var 1) .nil))))) (.cons (.setI (.s 0 (.cst (.int 0))) (.at_ (.cst (.int 0))) (.at_ (.prim .fdiv (.cons (.idx (.ali 0 0) (.cst (.int 0))) (.cons (.var 1) .nil))))) (.cons (.ret (.at_ (.var 5))) .nil))) .nil) (.cons (.setI (.v 0) (.at_ (.cst (.int 2))) (.at_ (.prim .add (.cons (.idx (.var 0) (.cst (.int 2))) (.cons (.cst (.int 1)) .nil))))) (.cons (.asg (.v 3) (.at_ (.idx (.var 0) (.cst (.int 1))))) (.cons (.ife (.at_ (.prim (.cmp .ne) (.cons (.ali 0 0) (.cons (.lst .nil) .nil)))) (.cons (.asg (.v 3) (.po .add (.ow (.at_ (.var 3)) (.ow (.pop (.s 0 (.cst (.int 0))) (.ow (.at_ (.cst (.int 0))) .nil)) .nil)))) .nil) .nil) (.cons (.asg (.v 4) (.at_ (.prim .mod (.cons (.prim .add (.cons (.prim .add (.cons (.prim .mul (.cons (.prim .mod (.cons (.var 3) (.cons (.cst (.int 2147483629)) .nil))) (.cons (.cst (.int 48271)) .nil))) (.cons (.prim .mul (.cons (.cst (.int 69621)) (.cons (.idx (.var 0) (.cst (.int 2))) .nil))) .nil))) (.cons (.cst (.int 7919)) .nil))) (.cons (.cst (.int 2147483647)) .nil))))) (.cons (.asg (.v 4) (.at_ (.prim .mod (.cons (.prim .add (.cons (.prim .add (.cons (.prim .mul (.cons (.var 4) (.cons (.var 4) .nil))) (.cons (.prim .mul (.cons (.cst (.int 39373)) (.cons (.var 4) .nil))) .nil))) (.cons (.idx (.var 0) (.cst (.int 2))) .nil))) (.cons (.cst (.int 2147483587)) .nil))))) (.cons (.setI (.v 0) (.at_ (.cst (.int 1))) (.at_ (.var 4))) (.cons (.ret (.at_ (.prim .mod (.cons (.prim .fdiv (.cons (.prim .mod (.cons (.prim .mul (.cons (.var 4) (.cons (.prim .add (.cons (.var 4) (.cons (.cst (.int 16807)) .nil))) .nil))) (.cons (.cst (.int 2147483563)) .nil))) (.cons (.cst (.int 64)) .nil))) (.cons (.var 1) .nil))))) .nil)))))))))
abbrev D_drawC : Dm := ⟨2, 6, [], B_drawC⟩
theorem T_law_draw (hj : Runs C1 j C D_drawC) : S_law_draw C1 j := by
  intro d most Q hd h1 h2 q
  refine run_W hj rfl ?_
  exact draw2_W hd h1 h2 fun r d' x y z u a b c => ⟨rfl, q _ _ a b c⟩
/- law_many: law_draw -/
def B_manyC (c0 : Nat) : MSs := (.cons (.asg (.v 1) (.call c0 (.pl 0 (.ow (.at_ (.cst (.int 8))) .nil)))) (.cons (.ife (.at_ (.prim (.cmp .gt) (.cons (.var 1) (.cons (.cst (.int 5)) .nil)))) (.cons (.ret (.at_ (.cst (.int 6)))) .nil) .nil) (.cons (.ret (.po .add (.ow (.at_ (.idx (.lst (.cons (.cst (.int 1)) (.cons (.cst (.int 3)) .nil))) (.prim .int (.cons (.prim (.cmp .gt) (.cons (.var 1) (.cons (.cst (.int 2)) .nil))) .nil)))) (.ow (.call c0 (.pl 0 (.ow (.at_ (.idx (.lst (.cons (.cst (.int 4)) (.cons (.cst (.int 3)) .nil))) (.prim .int (.cons (.prim (.cmp .gt) (.cons (.var 1) (.cons (.cst (.int 2)) .nil))) .nil)))) .nil))) .nil)))) .nil)))
abbrev D_manyC (c0 : Nat) : Dm := ⟨1, 2, [], B_manyC c0⟩
theorem T_law_many (hj : Runs C1 j C (D_manyC c0)) (h0 : S_law_draw C c0) : S_law_many C1 j := by
  intro d Q hd q
  refine run_W hj rfl ?_
  refine many_W h0 hd fun m d' x a b c => ⟨rfl, ?_⟩
  have := q m.toNat d' (by omega) (by omega) c
  rwa [Int.toNat_of_nonneg (by omega)] at this
/- law_row: law_draw -/
def B_rowC (c0 : Nat) : MSs := (.cons (.ret (.po .tuple (.ow (.comp [2] (.v 2) (.rng (.ow (.at_ (.var 1)) .nil)) (.at_ (.cst (.bl true))) (.call c0 (.pl 0 (.ow (.at_ (.cst (.int 2))) .nil)))) .nil))) .nil)
abbrev D_rowC (c0 : Nat) : Dm := ⟨2, 3, [], B_rowC c0⟩
theorem T_law_row (hj : Runs C1 j C (D_rowC c0)) (h0 : S_law_draw C c0) : S_law_row C1 j := by
  intro d m Q hd hm q
  refine run_W hj rfl ?_
  exact row_W h0 hd (by omega) (by omega) fun ws d' x a b c => ⟨rfl, q _ _ ⟨by omega, b⟩ c⟩
/- law_product: law_draw law_row -/
def B_productC (c0 : Nat) (c1 : Nat) : MSs := (.cons (.asg (.v 2) (.call c0 (.pl 0 (.ow (.at_ (.cst (.int 6))) .nil)))) (.cons (.ife (.at_ (.prim (.cmp .eq) (.cons (.var 2) (.cons (.cst (.int 0)) .nil)))) (.cons (.ret (.po (.joinC []) (.ow (.comp [4] (.v 4) (.own (.call c1 (.pl 0 (.ow (.at_ (.var 1)) .nil)))) (.at_ (.cst (.bl true))) (.at_ (.prim .str (.cons (.var 4) .nil)))) .nil))) .nil) .nil) (.cons (.ife (.and (.at_ (.prim (.cmp .eq) (.cons (.var 2) (.cons (.cst (.int 1)) .nil)))) (.po (.cmp .eq) (.ow (.call c0 (.pl 0 (.ow (.at_ (.cst (.int 4))) .nil))) (.ow (.at_ (.cst (.int 0))) .nil)))) (.cons (.ret (.at_ (.prim .mul (.cons (.cst (.str [45])) (.cons (.var 1) .nil))))) .nil) .nil) (.cons (.ret (.po (.joinC []) (.ow (.comp [3] (.v 3) (.rng (.ow (.at_ (.var 1)) .nil)) (.at_ (.cst (.bl true))) (.po .idx (.ow (.at_ (.cst (.str [48, 49, 45, 48, 49, 45, 45, 45]))) (.ow (.call c0 (.pl 0 (.ow (.at_ (.idx (.lst (.cons (.cst (.int 6)) (.cons (.cst (.int 4)) (.cons (.cst (.int 3)) (.cons (.cst (.int 8)) (.cons (.cst (.int 8)) (.cons (.cst (.int 5)) .nil))))))) (.var 2))) .nil))) .nil)))) .nil))) .nil))))
abbrev D_productC (c0 : Nat) (c1 : Nat) : Dm := ⟨2, 5, [], B_productC c0 c1⟩
theorem T_law_product (hj : Runs C1 j C (D_productC c0 c1)) (h0 : S_law_draw C c0) (h1 : S_law_row C c1) : S_law_product C1 j := by
  intro d m Q hd hm q
  refine run_W hj rfl ?_
  exact product_W h0 (fun d Q hd q => h1 _ _ _ hd hm fun r d' hr hd' => q r d' (by have := hr.len; omega) hr.bits hd') hd (by omega) (by omega) fun p d' x y z a b c => ⟨rfl, q _ _ ⟨by omega, b⟩ c⟩
/- holds_row:  -/
def B_holds_row : MSs := (.cons (.ret (.po .all (.ow (.comp [2, 3] (.t [(.v 2), (.v 3)]) (.zip (.own (.at_ (.var 0))) (.own (.at_ (.var 1)))) (.at_ (.cst (.bl true))) (.at_ (.or (.prim (.cmp .eq) (.cons (.var 2) (.cons (.cst (.str [45])) .nil))) (.prim (.cmp .eq) (.cons (.var 2) (.cons (.prim .str (.cons (.var 3) .nil)) .nil)))))) .nil))) .nil)
abbrev D_holds_row : Dm := ⟨2, 4, [], B_holds_row⟩
theorem T_holds_row (hj : Runs C1 j C D_holds_row) : S_holds_row C1 j := by
  intro p r Q h1 hl q
  refine run_W hj rfl ?_
  exact holdsRow_W h1 hl fun x y => ⟨rfl, q⟩
/- holds_all:  -/
def B_holds_all : MSs := (.cons (.ret (.po .all (.ow (.comp [2, 3] (.t [(.v 2), (.v 3)]) (.zip (.own (.at_ (.var 0))) (.own (.at_ (.var 1)))) (.at_ (.cst (.bl true))) (.at_ (.or (.prim (.cmp .eq) (.cons (.var 2) (.cons (.cst (.str [45])) .nil))) (.prim (.cmp .eq) (.cons (.var 2) (.cons (.var 3) .nil)))))) .nil))) .nil)
abbrev D_holds_all : Dm := ⟨2, 4, [], B_holds_all⟩
theorem T_holds_all (hj : Runs C1 j C D_holds_all) : S_holds_all C1 j := by
  intro p r Q hl q
  refine run_W hj rfl ?_
  exact holdsAll_W hl fun x y => ⟨rfl, q⟩
/- meet:  -/
def B_meet : MSs := (.cons (.ret (.po .all (.ow (.comp [2, 3] (.t [(.v 2), (.v 3)]) (.zip (.own (.at_ (.var 0))) (.own (.at_ (.var 1)))) (.at_ (.cst (.bl true))) (.at_ (.or (.prim (.cmp .eq) (.cons (.var 2) (.cons (.cst (.str [45])) .nil))) (.or (.prim (.cmp .eq) (.cons (.var 3) (.cons (.cst (.str [45])) .nil))) (.prim (.cmp .eq) (.cons (.var 2) (.cons (.var 3) .nil))))))) .nil))) .nil)
abbrev D_meet : Dm := ⟨2, 4, [], B_meet⟩
theorem T_meet (hj : Runs C1 j C D_meet) : S_meet C1 j := by
  intro p r Q hl q
  refine run_W hj rfl ?_
  exact meet_W hl fun x y => ⟨rfl, q⟩
/- cube_of:  -/
def B_cube_of : MSs := (.cons (.ret (.po (.joinC []) (.ow (.comp [1, 2] (.t [(.v 1), (.v 2)]) (.zip (.own (.at_ (.idx (.var 0) (.cst (.int 0))))) (.own (.at_ (.idx (.var 0) (.cst (.int 1)))))) (.at_ (.cst (.bl true))) (.at_ (.ite (.prim (.cmp .eq) (.cons (.var 1) (.cons (.var 2) .nil))) (.prim .str (.cons (.var 1) .nil)) (.cst (.str [45]))))) .nil))) .nil)
abbrev D_cube_of : Dm := ⟨1, 3, [], B_cube_of⟩
theorem T_cube_of (hj : Runs C1 j C D_cube_of) : S_cube_of C1 j := by
  intro a b Q h1 hl q
  refine run_W hj rfl ?_
  exact cube_W h1 hl fun x y => ⟨rfl, q⟩
/- law_holds:  -/
def B_law_holds : MSs := (.cons (.for_ (.t [(.v 2), (.v 3)]) (.zip (.own (.at_ (.var 0))) (.own (.at_ (.var 1)))) (.cons (.ife (.at_ (.and (.prim (.cmp .ne) (.cons (.var 2) (.cons (.cst (.str [45])) .nil))) (.prim (.cmp .ne) (.cons (.prim .int (.cons (.var 2) .nil)) (.cons (.var 3) .nil))))) (.cons (.ret (.at_ (.cst (.bl false)))) .nil) .nil) .nil)) (.cons (.ret (.at_ (.cst (.bl true)))) .nil))
abbrev D_law_holds : Dm := ⟨2, 4, [], B_law_holds⟩
theorem T_law_holds (hj : Runs C1 j C D_law_holds) : S_law_holds C1 j := by
  intro p r Q h1 h2 q
  refine run_W hj rfl ?_
  exact lawHolds_W h1 h2 fun x y => ⟨rfl, q⟩
/- rows_of:  -/
def B_rows_of : MSs := (.cons (.asg (.v 1) (.lst (.ow (.at_ (.tup .nil)) .nil))) (.cons (.for_ (.v 2) (.rng (.ow (.at_ (.var 0)) .nil)) (.cons (.asg (.v 3) (.lst .nil)) (.cons (.for_ (.v 4) (.take 1) (.cons (.ext (.v 3) (.lst (.ow (.at_ (.prim .add (.cons (.var 4) (.cons (.tup (.cons (.cst (.int 0)) .nil)) .nil)))) (.ow (.at_ (.prim .add (.cons (.var 4) (.cons (.tup (.cons (.cst (.int 1)) .nil)) .nil)))) .nil)))) .nil)) (.cons (.asg (.v 1) (.fz 3)) .nil)))) (.cons (.ret (.at_ (.prim .tuple (.cons (.var 1) .nil)))) .nil)))
abbrev D_rows_of : Dm := ⟨1, 5, [], B_rows_of⟩
theorem T_rows_of (hj : Runs C1 j C D_rows_of) : S_rows_of C1 j := by
  intro m Q hm q
  refine run_W hj rfl ?_
  exact rows_W (by omega) (by omega) fun x y z u => ⟨rfl, by rw [Int.toNat_natCast]; exact q⟩
/- law_rows:  -/
def B_law_rows : MSs := (.cons (.asg (.v 1) (.lst (.ow (.at_ (.tup .nil)) .nil))) (.cons (.for_ (.v 2) (.rng (.ow (.at_ (.var 0)) .nil)) (.cons (.asg (.v 1) (.po .add (.ow (.comp [3] (.v 3) (.take 1) (.at_ (.cst (.bl true))) (.at_ (.prim .add (.cons (.var 3) (.cons (.tup (.cons (.cst (.int 0)) .nil)) .nil))))) (.ow (.comp [3] (.v 3) (.take 1) (.at_ (.cst (.bl true))) (.at_ (.prim .add (.cons (.var 3) (.cons (.tup (.cons (.cst (.int 1)) .nil)) .nil))))) .nil)))) .nil)) (.cons (.ret (.mv 1)) .nil)))
abbrev D_law_rows : Dm := ⟨1, 4, [], B_law_rows⟩
theorem T_law_rows (hj : Runs C1 j C D_law_rows) : S_law_rows C1 j := by
  intro m Q hm q
  refine run_W hj rfl ?_; simp only [List.map_cons, List.map_nil, List.replicate, Nat.reduceSub, List.cons_append, List.nil_append]; exists B_law_rows
  refine for_R (fun i ρ => ∃ o, o ≠ .ext ∧ ∃ u2 u3, ρ = [some (.int m), some (lo o rw (rowsM i)), u2, u3]) ⟨.own, by decide, ⟨_, _, rfl⟩⟩ ?_ ?_
  · rintro i ρ hi ⟨o, ho, ⟨u2, u3, rfl⟩⟩
    have h2 := rowsM_len i
    have h3 : 2 ^ i ≤ 2 ^ 6 := Nat.pow_le_pow_right (by decide) (by omega)
    have h4 : ∀ r ∈ rowsM i, r.length = i := fun r hr => (rowsM_mem.mp hr).len
    rw [show rowsM (i + 1) = (rowsM i).map (· ++ [0]) ++ (rowsM i).map (· ++ [1]) from rfl]
    generalize rowsM i = l at h2 h4 ⊢
    exists line
    refine comp_M (g := rw) (· ++ [0]) (fun r hr => ?_) (by simp only [line]; omega) ?_
    · have := h4 r hr
      exists line
    exists line
    refine comp_M (g := rw) (· ++ [1]) (fun r hr => ?_) (by simp only [line]; omega) ?_
    · have := h4 r hr
      exists line
    exists line
    exact ⟨.own, by decide, ⟨_, _, rfl⟩⟩
  · rintro ρ ⟨o, ho, ⟨u2, u3, rfl⟩⟩
    exists line
    exact q _ ho
/- law_change: law_draw law_row -/
def B_changeC (c0 : Nat) (c1 : Nat) : MSs := (.cons (.asg (.v 2) (.call c0 (.pl 0 (.ow (.at_ (.cst (.int 8))) .nil)))) (.cons (.asg (.v 3) (.call c1 (.pl 0 (.ow (.at_ (.var 1)) .nil)))) (.cons (.ife (.at_ (.prim (.cmp .eq) (.cons (.var 2) (.cons (.cst (.int 0)) .nil)))) (.cons (.ret (.at_ (.tup (.cons (.var 3) (.cons (.var 3) .nil))))) .nil) .nil) (.cons (.ife (.at_ (.prim (.cmp .eq) (.cons (.var 2) (.cons (.cst (.int 1)) .nil)))) (.cons (.ret (.tup (.ow (.at_ (.var 3)) (.ow (.frz (.po .tuple (.ow (.comp [5] (.v 5) (.own (.at_ (.var 3))) (.at_ (.cst (.bl true))) (.at_ (.prim .sub (.cons (.cst (.int 1)) (.cons (.var 5) .nil))))) .nil))) .nil)))) .nil) .nil) (.cons (.ife (.at_ (.prim (.cmp .lt) (.cons (.var 2) (.cons (.cst (.int 4)) .nil)))) (.cons (.asg (.v 4) (.call c0 (.pl 0 (.ow (.at_ (.var 1)) .nil)))) (.cons (.ret (.at_ (.tup (.cons (.var 3) (.cons (.prim .add (.cons (.prim .add (.cons (.prim (.slc false true) (.cons (.var 3) (.cons (.var 4) .nil))) (.cons (.tup (.cons (.prim .sub (.cons (.cst (.int 1)) (.cons (.idx (.var 3) (.var 4)) .nil))) .nil)) .nil))) (.cons (.prim (.slc true false) (.cons (.var 3) (.cons (.prim .add (.cons (.var 4) (.cons (.cst (.int 1)) .nil))) .nil))) .nil))) .nil))))) .nil)) .nil) (.cons (.ret (.tup (.ow (.at_ (.var 3)) (.ow (.frz (.call c1 (.pl 0 (.ow (.at_ (.var 1)) .nil)))) .nil)))) .nil))))))
abbrev D_changeC (c0 : Nat) (c1 : Nat) : Dm := ⟨2, 6, [], B_changeC c0 c1⟩
theorem T_law_change (hj : Runs C1 j C (D_changeC c0 c1)) (h0 : S_law_draw C c0) (h1 : S_law_row C c1) : S_law_change C1 j := by
  intro d m Q hd hm0 hm q
  refine run_W hj rfl ?_; simp only [List.map_cons, List.map_nil, List.replicate, Nat.reduceSub, List.cons_append, List.nil_append]; exists B_changeC
  refine h0 _ _ _ hd (by decide) (by decide) fun way d1 w0 w1 hd1 => ?_
  exists line
  refine h1 _ _ _ hd1 hm fun a d2 ha hd2 => ?_
  exists line
  refine ⟨fun h => ?_, fun h => ?_⟩
  · exists line
    exact q _ _ _ ha ha hd2
  exists line
  refine ⟨fun h => ?_, fun h => ?_⟩
  · exists line
    refine comp_M (f := D.int) (g := D.int) (1 - ·) (fun r hr => ?_) (by have := ha.len; simp only [line]; omega) ?_
    · exists line
    exists line
    exact q _ _ _ ha ⟨by simp [ha.len], fun w hw => by
      obtain ⟨y, hy, rfl⟩ := List.mem_map.mp hw
      have := ha.bits y hy; omega⟩ hd2
  exists line
  refine ⟨fun h => ?_, fun h => ?_⟩
  · exists line
    refine h0 _ _ _ hd2 (by omega) (by omega) fun k d3 k0 k1 hd3 => ?_
    have hal := ha.len
    obtain ⟨k, rfl⟩ : ∃ n : Nat, k = n := ⟨k.toNat, by omega⟩
    exists cut_to, cut_from1
    have l1 : (a.take k).length ≤ 1000 := by rw [List.length_take]; omega
    have l2 : (a.drop (k + 1)).length ≤ 1000 := by rw [List.length_drop]; omega
    exists cut_to, cut_from1
    have hk : k < a.length := by omega
    refine q _ _ _ ha ⟨?_, ?_⟩ hd3
    · simp only [List.length_append, List.length_take, List.length_cons, List.length_nil, List.length_drop]; omega
    · intro w hw
      simp only [List.mem_append, List.mem_cons, List.not_mem_nil, or_false] at hw
      rcases hw with (hw | rfl) | hw
      · exact ha.bits w (List.mem_of_mem_take hw)
      · have := ha.bits _ (gt_mem (l := a) (i := (k : Int)) (by omega)); omega
      · exact ha.bits w (List.mem_of_mem_drop hw)
  exists line
  refine h1 _ _ _ hd2 hm fun b d3 hb hd3 => ?_
  exists line
  exact q _ _ _ ha hb hd3
end
/-! ### plain facts -/
theorem hr_cons {c : Nat} {p : List Nat} {w : Int} {r : List Int} : hr (c :: p) (w :: r) = ((c == 45 || c == 48 + w.toNat) && hr p r) := rfl
theorem ha_cons {c e : Nat} {p q : List Nat} : ha (c :: p) (e :: q) = ((c == 45 || c == e) && ha p q) := rfl
theorem mt_cons {c e : Nat} {p q : List Nat} : mt (c :: p) (e :: q) = ((c == 45 || (e == 45 || c == e)) && mt p q) := rfl
theorem Row_cons {m : Nat} {w : Int} {r : List Int} : Row (m + 1) (w :: r) ↔ (w = 0 ∨ w = 1) ∧ Row m r := by
  constructor
  · rintro ⟨h1, h2⟩
    exact ⟨h2 w (by simp), by simpa using h1, fun y hy => h2 y (by simp [hy])⟩
  · rintro ⟨h, h1, h2⟩
    exact ⟨by simp [h1], fun y hy => by
      rcases List.mem_cons.mp hy with rfl | hy
      · exact h
      · exact h2 y hy⟩
theorem Prd_cons {m : Nat} {c : Nat} {p : List Nat} : Prd (m + 1) (c :: p) ↔ (c = 45 ∨ c = 48 ∨ c = 49) ∧ Prd m p := by
  constructor
  · rintro ⟨h1, h2⟩
    exact ⟨h2 c (by simp), by simpa using h1, fun y hy => h2 y (by simp [hy])⟩
  · rintro ⟨h, h1, h2⟩
    exact ⟨by simp [h1], fun y hy => by
      rcases List.mem_cons.mp hy with rfl | hy
      · exact h
      · exact h2 y hy⟩
theorem mt_iff : ∀ {m : Nat} {p q : List Nat}, Prd m p → Prd m q → (mt p q = true ↔ ∃ r, Row m r ∧ hr p r = true ∧ hr q r = true)
  | 0, p, q, hp, hq => by
    have e1 := List.length_eq_zero_iff.mp hp.len
    have e2 := List.length_eq_zero_iff.mp hq.len
    subst e1; subst e2
    exact ⟨fun _ => ⟨[], ⟨rfl, fun w h => nomatch h⟩, rfl, rfl⟩, fun _ => rfl⟩
  | m + 1, [], q, hp, hq => by have := hp.len; simp at this
  | m + 1, c :: p, [], hp, hq => by have := hq.len; simp at this
  | m + 1, c :: p, e :: q, hp, hq => by
    obtain ⟨hc, hp⟩ := Prd_cons.mp hp
    obtain ⟨he, hq⟩ := Prd_cons.mp hq
    rw [mt_cons, Bool.and_eq_true, mt_iff hp hq]
    constructor
    · rintro ⟨h, r, hr1, h1, h2⟩
      have : ∃ w : Int, (w = 0 ∨ w = 1) ∧ (c == 45 || c == 48 + w.toNat) = true ∧ (e == 45 || e == 48 + w.toNat) = true := by
        rcases hc with rfl | rfl | rfl <;> rcases he with rfl | rfl | rfl <;> first | exact ⟨0, by decide⟩ | exact ⟨1, by decide⟩ | (simp at h)
      obtain ⟨w, hw, h3, h4⟩ := this
      exact ⟨w :: r, Row_cons.mpr ⟨hw, hr1⟩, by rw [hr_cons, h3, h1]; rfl, by rw [hr_cons, h4, h2]; rfl⟩
    · rintro ⟨r, hr1, h1, h2⟩
      cases r with
      | nil => have := hr1.len; simp at this
      | cons w r =>
        obtain ⟨hw, hr1⟩ := Row_cons.mp hr1
        rw [hr_cons, Bool.and_eq_true] at h1 h2
        refine ⟨?_, r, hr1, h1.2, h2.2⟩
        have a := h1.1; have b := h2.1
        rcases hc with rfl | rfl | rfl <;> rcases he with rfl | rfl | rfl <;> rcases hw with rfl | rfl <;> simp at a b ⊢
theorem row_of {m : Nat} {q : List Nat} (hq : Prd m q) : ∃ r, Row m r ∧ hr q r = true := by
  have : mt q q = true := by
    simp only [mt, List.all_eq_true]
    rintro ⟨a, b⟩ hm
    have : ∀ l : List Nat, (a, b) ∈ l.zip l → a = b := fun l => by
      induction l with
      | nil => simp
      | cons x r ih => simp; rintro (⟨rfl, rfl⟩ | h); rfl; exact ih h
    simp [this q hm]
  obtain ⟨r, h, h1, _⟩ := (mt_iff hq hq).mp this
  exact ⟨r, h, h1⟩
theorem ha_iff : ∀ {m : Nat} {p q : List Nat}, Prd m p → Prd m q → (ha p q = true ↔ ∀ r, Row m r → hr q r = true → hr p r = true)
  | 0, p, q, hp, hq => by
    have e1 := List.length_eq_zero_iff.mp hp.len
    have e2 := List.length_eq_zero_iff.mp hq.len
    subst e1; subst e2
    exact ⟨fun _ r hr1 _ => by rfl, fun _ => rfl⟩
  | m + 1, [], q, hp, hq => by have := hp.len; simp at this
  | m + 1, c :: p, [], hp, hq => by have := hq.len; simp at this
  | m + 1, c :: p, e :: q, hp, hq => by
    obtain ⟨hc, hp⟩ := Prd_cons.mp hp
    obtain ⟨he, hq⟩ := Prd_cons.mp hq
    rw [ha_cons, Bool.and_eq_true, ha_iff hp hq]
    constructor
    · rintro ⟨h, h1⟩ r hr1 h2
      cases r with
      | nil => have := hr1.len; simp at this
      | cons w r =>
        obtain ⟨hw, hr1⟩ := Row_cons.mp hr1
        rw [hr_cons, Bool.and_eq_true] at h2 ⊢
        refine ⟨?_, h1 r hr1 h2.2⟩
        have b := h2.1
        rcases hc with rfl | rfl | rfl <;> rcases he with rfl | rfl | rfl <;> rcases hw with rfl | rfl <;> simp at h b ⊢
    · intro h
      have : ∀ w : Int, (w = 0 ∨ w = 1) → (e == 45 || e == 48 + w.toNat) = true → ∀ r, Row m r → hr q r = true → (c == 45 || c == 48 + w.toNat) = true ∧ hr p r = true := fun w hw h3 r hr1 h2 => by
        have := h (w :: r) (Row_cons.mpr ⟨hw, hr1⟩) (by rw [hr_cons, h3, h2]; rfl)
        rwa [hr_cons, Bool.and_eq_true] at this
      obtain ⟨r0, hr0, hq0⟩ := row_of hq
      refine ⟨?_, fun r hr1 h2 => ?_⟩
      · have a := fun h3 => (this 0 (.inl rfl) h3 r0 hr0 hq0).1
        have b := fun h3 => (this 1 (.inr rfl) h3 r0 hr0 hq0).1
        rcases hc with rfl | rfl | rfl <;> rcases he with rfl | rfl | rfl <;> simp at a b ⊢
      · rcases he with rfl | rfl | rfl
        · exact (this 0 (.inl rfl) rfl r hr1 h2).2
        · exact (this 0 (.inl rfl) rfl r hr1 h2).2
        · exact (this 1 (.inr rfl) rfl r hr1 h2).2
theorem cube_prd {m : Nat} {a b : List Int} (ha : Row m a) (hb : Row m b) : Prd m (cube a b) := by
  refine ⟨by simp [cube, ha.len, hb.len], fun c hc => ?_⟩
  obtain ⟨⟨x, y⟩, hx, rfl⟩ := List.mem_map.mp hc
  have := ha.bits x (List.of_mem_zip hx).1
  simp only
  split
  · rcases this with rfl | rfl <;> simp
  · exact .inl rfl
theorem cube_comm {a b : List Int} : cube a b = cube b a := by
  induction a generalizing b with
  | nil => cases b <;> rfl
  | cons x r ih =>
    cases b with
    | nil => rfl
    | cons y s =>
      have := @ih s
      simp only [cube] at this ⊢
      simp only [List.zip_cons_cons, List.map_cons, this]
      by_cases h : x = y
      · simp [h]
      · have : y ≠ x := fun e => h e.symm
        simp [h, this]
end GN
end

section
set_option linter.all false
set_option maxRecDepth 100000
namespace L_k34
open GN
local macro_rules
  | `(tactic| exists $es,*) => `(tactic| (repeat (first | simp only [A_var, A_cst, A_gbl, A_idx, A_prim, A_and, A_or, A_not, A_ite, A_chain, A_tup, A_lst, A_ali, As_nil, As_cons, P_v, P_s, U_v, U_s, T_v, T_t, Ts_nil, Ts_cons, E_at, E_frz, E_fz, E_mv, E_po, E_tup, E_lst, E_call, E_and, E_or, E_not, E_ite, E_comp, C_turn, E_pop0, E_pop1, Os_nil, Os_ow, Os_pl, Os_fl, Os_ml, I_own, I_take, I_rng, I_enum, I_zip, I_zip3, I_rev, I_revT, I_revR, sq_L, sq_T, it_L, it_T, rg_1, rg_2, S_nil, S_cons, S_asg, S_setI, S_setD, S_setE, E_mt, E_mtp, E_dctK, W_dK1, S_sda, rg_3, W_itO_L, W_itO_D, W_putO_L, W_putO_D, E_dct, S_app, S_ext, S_ins, S_expr, S_ali, S_ife, S_for, S_while, S_ret, S_retN, S_brk, S_cont, S_pass, W_asB, W_asI, W_ownL, W_anyL, W_shL, Nx_nx, Nx_rt, Nx_bk, Nx_ct, W_some, Br_true, Br_false, wipe, refill, emptyL, lendBack, refill_nil, refill_nx, refill_rt, W_none, W_map, eqvL_nil, eqv_nil, W_add, W_addS, W_addT, W_addL, W_sub, W_mulS, W_fdiv, W_mod, W_pow, W_neg, W_lt, W_le, W_gt, W_ge, W_eqI, W_neI, W_eqS, W_neS, W_eqTT, W_neTT, W_eqLL, W_neLL, W_eqB, W_neB, W_in, W_notin, W_isN, W_isNotN, W_isB, W_isNotB, W_pidx, W_slcS_ft, W_slcS_tf, W_lenL, W_lenT, W_lenS, W_tupL, W_tupT, W_lstL, W_lstT, W_intI, W_intB, W_strI, W_sum, W_band, W_bor, W_inv, W_shl, W_shr, W_sortedD, W_inRg, W_ninRg, W_all, W_any, W_isi, W_sortSet, W_lstRg, W_repr, W_max2, W_min2, W_abs, ixAt_0, ixAt_1, ixAt_2, get_zero, get_succ, put_zero, put_succ, mt_ssplit, mt_sends, mtTy_sp, mtTy_se, W_gtBI, A_tor, W_torN, W_torL, W_torE, eE_T, eE_L, W_addIB, W_addBI, W_subIB, W_subBI, W_strB, in_S2, in_I2, W_sumTp, W_stpLo, mtTy_lo, mtTy_lo2, mt_lcount, mt_scount, W_liS5, W_liS6, W_liS7, W_tupS, W_lstS, W_liS2, W_liS3, W_liS4, W_mulLo, W_maxLo, W_minLo, in_dct, W_ownD, W_kxI, W_kxS, W_itP3_0, W_itP3_1, W_itP3_2, ty_p3, ty_p2, W_intS, ty_int, ty_bl, ty_str, ty_tup, ty_lst, ty_dct, ty_non, pick_int, pick_str, pick_bl, pick_tp, fold_mapD, W_pick, gt_pick, pick_b, W_eqLo1, W_eqLo2, W_neLo2, W_liT2, sq_tp, sq_lo, rev_map, in_p2, W_mulO, W_itTpG, W_itLoG, W_itStr, W_itT0, W_itT1, W_itT2, W_itT3, W_itL0, W_itL1, W_itL2, W_itL3, W_liI2, W_liI3, W_liI4, W_liI5, W_liI6, W_liI7, W_liI8, W_liS8, gt_0, gt_1, W_ownLo, W_shLo, W_anyLo, it_tp, it_lo, it_str, W_lenTp, W_lenLo, W_slTp_ft, W_slTp_tf, W_slTp_tt, W_slLo_ft, W_slLo_tf, W_slLo_tt, W_slcS_tt, W_revLo, W_revTp, W_lrevLo, W_revS, A_alk, S_alk, shK, W_addTp, W_addTp1, W_add1Tp, W_addLo, W_addLo1, W_add1Lo, W_tupLo, W_tupTp, W_lstLo, W_lstTp, W_sumLo, W_allLo, W_anyLoB, W_joinLo, W_joinSg, W_eqTp, W_neTp, W_eqLo, W_neLo, W_eqLoN, W_neLoN, W_eqTpN, W_neTpN, in_tp, in_lo, in_str, ty_tp, ty_lo, isNon_tp, isNon_lo, T_p2, T_p3, W_itP2_0, W_itP2_1, fold_tp, fold_lo, fold_app, fold_ext, fold_appT, fold_extT, fold_set, fold_dropLast, fold_erase, plain_tp, plain_lo, plain_p2, plain_p3, frz_tp, frz_lo, frz_p2, zip_map, zip3_map, sg, line, onFl_nx, onFl_ct, onFl_bk, onFl_rt, Int.reduceToNat, Int.reducePow, Int.reduceLE, Int.reduceLT, Int.reduceAdd, Int.reduceSub, Int.reduceMul, Int.reduceDiv, Int.reduceMod, Int.reduceNeg, Int.reduceEq, Int.reduceGT, Nat.reduceAdd, Nat.reduceSub, Nat.reduceMul, Nat.reduceLT, Nat.reduceLeDiff, Nat.reduceEqDiff, Nat.zero_add, D.plain, D.plainL, Ow.isOwn, D.frz, Ow.frz, List.isEmpty_nil, List.isEmpty_cons, List.length_cons, List.length_nil, Bool.and_true, Bool.true_and, Bool.not_true, Bool.not_false, Bool.false_eq_true, if_false, if_true, reduceIte, true_and, and_true, decide_true, decide_false, decide_eq_true_eq, List.map_cons, List.map_nil, List.set_cons_zero, List.take_succ_cons, List.take_zero, Int.toNat_zero, List.set_cons_succ, List.getElem?_cons_zero, List.getElem?_cons_succ, Option.bind_some, Option.map_some, Int.cast_ofNat_Int, Int.natCast_zero, Int.natCast_one, List.any_cons, List.any_nil, sing_eq, false_and, and_false, Bool.or_false, Bool.or_true, Bool.false_or, Bool.true_or, List.eraseIdx_cons_zero, List.drop_zero, List.cons_append, or_true, true_or, at_0, at_1, at_2, at_3, List.nil_append, List.append_nil, eq_self, ne_eq, reduceCtorEq, not_false_eq_true, not_true_eq_false, plainL_map, Bool.not_eq_true', decide_eq_false_iff_not, List.length_append, List.length_map, Int.zero_add, Int.toNat_natCast, List.length_set, $[$es:term],*] | (refine And.intro ?_ ?_; focus (first | decide | omega | assumption | exact Or.inr rfl | (refine ⟨?_, ?_⟩ <;> first | decide | omega | assumption | exact Or.inr rfl) | (refine ⟨?_, ?_, ?_⟩ <;> first | decide | omega | assumption | exact Or.inr rfl))) | (show _ ≤ _; omega) | (show _ < _; omega) | (show _ ∨ _; omega))))
def fuel : Nat := 1000
def lv : Nat := 3
abbrev cf (n : Nat) : Cfg := cfg ms consts fuel n
theorem c_law_deck {n : Nat} : S_law_deck (cf (n + 1)) 4 := T_law_deck (fun _ => rfl) 
theorem c_law_draw {n : Nat} : S_law_draw (cf (n + 1)) 5 := T_law_draw (fun _ => rfl) 
theorem c_law_many {n : Nat} : S_law_many (cf (n + 2)) 6 := T_law_many (fun _ => rfl) c_law_draw
theorem c_law_row {n : Nat} : S_law_row (cf (n + 2)) 7 := T_law_row (fun _ => rfl) c_law_draw
theorem c_law_change {n : Nat} : S_law_change (cf (n + 3)) 8 := T_law_change (fun _ => rfl) c_law_draw c_law_row
theorem c_law_product {n : Nat} : S_law_product (cf (n + 3)) 9 := T_law_product (fun _ => rfl) c_law_draw c_law_row
theorem c_holds_row {n : Nat} : S_holds_row (cf (n + 1)) 0 := T_holds_row (fun _ => rfl) 
theorem c_holds_all {n : Nat} : S_holds_all (cf (n + 1)) 1 := T_holds_all (fun _ => rfl) 
theorem c_meet {n : Nat} : S_meet (cf (n + 1)) 2 := T_meet (fun _ => rfl) 
theorem c_cube_of {n : Nat} : S_cube_of (cf (n + 1)) 3 := T_cube_of (fun _ => rfl) 
theorem c_law_holds {n : Nat} : S_law_holds (cf (n + 1)) 10 := T_law_holds (fun _ => rfl) 
theorem c_law_rows {n : Nat} : S_law_rows (cf (n + 1)) 11 := T_law_rows (fun _ => rfl) 
theorem is_c {n : Nat} {b c : Bool} {Q : Res} (q : Q (.bl (b == c), [some (.bl b), some (.bl c)])) : W ((cf (n + 1)).call 12 [.bl b, .bl c]) Q := by
  refine run_W (fun _ => rfl) rfl ?_; simp only [List.map_cons, List.map_nil, List.replicate, Nat.reduceSub, List.cons_append, List.nil_append]; exists f_law_is
  exact q
theorem fcomm {α : Type} {p q : α → Bool} {l : List α} : l.filter (fun a => p a && q a) = l.filter (fun a => q a && p a) := by
  congr 1; funext a; rw [Bool.and_comm]
def rowsBy (m : Nat) (p : List Nat) : List (List Int) := (rowsM m).filter (hr p)
theorem pair_c {n m : Nat} {p q : List Nat} {Q : Res} (hm : m ≤ 6) (hp : Prd m p) (hq : Prd m q) (k : Q (.bl true, [some (.int m), some (.str p), some (.str q)])) : W ((cf (n + 2)).call 13 [.int m, .str p, .str q]) Q := by
  have h3 : 2 ^ m ≤ 2 ^ 6 := Nat.pow_le_pow_right (by decide) hm
  have hl := rowsM_len m
  have pl := hp.len
  have ql := hq.len
  have le : ∀ (l : List (List Int)) (f : List Int → Bool), (l.filter f).length ≤ l.length := fun l f => List.length_filter_le _ _
  refine run_W (fun _ => rfl) rfl ?_; simp only [List.map_cons, List.map_nil, List.replicate, Nat.reduceSub, List.cons_append, List.nil_append]; exists f_law_pair_right
  refine c_law_rows _ _ hm fun o ho => ?_
  exists line
  refine comp_F (f := rw) (hr p) (fun r hr => ?_) (by simp only [line]; omega) ?_
  · have hb := (rowsM_mem.mp hr).bits
    exists line
    refine c_law_holds _ _ _ hb hp.sgn ?_
    exists line
    refine ⟨fun h => ?_, fun h => ?_⟩
    · exists h
    · exists h
  have l1 := le (rowsM m) (hr p)
  exists line
  refine c_law_rows _ _ hm fun o ho => ?_
  exists line
  refine comp_F (f := rw) (hr q) (fun r hr => ?_) (by simp only [line]; omega) ?_
  · have hb := (rowsM_mem.mp hr).bits
    exists line
    refine c_law_holds _ _ _ hb hq.sgn ?_
    exists line
    refine ⟨fun h => ?_, fun h => ?_⟩
    · exists h
    · exists h
  have l2 := le (rowsM m) (hr q)
  exists line
  refine comp_F (f := rw) (hr p) (fun r hr => ?_) (by simp only [line]; omega) ?_
  · have hb := (rowsM_mem.mp (List.mem_filter.mp hr).1).bits
    exists line
    refine c_law_holds _ _ _ hb hp.sgn ?_
    exists line
    refine ⟨fun h => ?_, fun h => ?_⟩
    · exists h
    · exists h
  exists line
  have e1 : ha p q = decide (((rowsM m).filter (hr q)).filter (hr p) = (rowsM m).filter (hr q)) := by
    rw [Bool.eq_iff_iff, ha_iff hp hq, decide_eq_true_eq, List.filter_eq_self]
    simp only [List.mem_filter, rowsM_mem, and_imp]
  have e2 : ha q p = decide (((rowsM m).filter (hr q)).filter (hr p) = (rowsM m).filter (hr p)) := by
    rw [Bool.eq_iff_iff, ha_iff hq hp, decide_eq_true_eq, List.filter_filter, fcomm, ← List.filter_filter, List.filter_eq_self]
    simp only [List.mem_filter, rowsM_mem, and_imp]
  have e3 : mt p q = !decide (((rowsM m).filter (hr q)).filter (hr p) = []) := by
    rw [Bool.eq_iff_iff, mt_iff hp hq, Bool.not_eq_true', decide_eq_false_iff_not, List.filter_filter, List.filter_eq_nil_iff]
    simp only [rowsM_mem, Bool.and_eq_true]
    constructor
    · rintro ⟨r, h1, h2⟩ h; exact h r h1 h2
    · intro h
      apply Classical.byContradiction
      intro h2; exact h fun r h3 h4 => h2 ⟨r, h3, h4⟩
  have e4 : mt q p = mt p q := by
    rw [Bool.eq_iff_iff, mt_iff hp hq, mt_iff hq hp]
    constructor <;> (rintro ⟨r, h1, h2, h3⟩; exact ⟨r, h1, h3, h2⟩)
  have qq : q.length ≤ 1000 ∧ p.length ≤ 1000 := by omega
  have l3 := le ((rowsM m).filter (hr q)) (hr p)
  refine c_holds_all _ _ _ (by first | exact qq.1 | exact qq.2) ?_
  exists line
  rw [e1]
  refine is_c ?_
  exists beq_self_eq_true
  refine c_meet _ _ _ (by first | exact qq.1 | exact qq.2) ?_
  exists line
  rw [e3]
  refine is_c ?_
  exists beq_self_eq_true
  refine c_holds_all _ _ _ (by first | exact qq.1 | exact qq.2) ?_
  exists line
  rw [e2]
  refine is_c ?_
  exists beq_self_eq_true
  refine c_meet _ _ _ (by first | exact qq.1 | exact qq.2) ?_
  exists line
  rw [e4, e3]
  refine is_c ?_
  exists beq_self_eq_true
  exact k
theorem cubes_c {n m : Nat} {a b : List Int} {Q : Res} (hm : m ≤ 6) (ha : Row m a) (hb : Row m b) (k : Q (.bl true, [some (.int m), some (ch a b)])) : W ((cf (n + 2)).call 14 [.int m, ch a b]) Q := by
  have al := ha.len
  have bl := hb.len
  have cp := cube_prd ha hb
  have cl := cp.len
  have key : ∀ r, Row m r → hr (cube a b) r = ((r.zip (a.zip b)).map fun x => decide (x.1 = x.2.1 ∨ x.1 = x.2.2)).all id := by
    clear k
    induction m generalizing a b with
    | zero => intro r hr; rw [List.length_eq_zero_iff.mp hr.len]; simp [cube, GN.hr]
    | succ m ih =>
      intro r hr
      cases a <;> simp at al
      cases b <;> simp at bl
      cases r with
      | nil => have := hr.len; simp at this
      | cons w r =>
      rename_i x a y b
      obtain ⟨hx, ha⟩ := Row_cons.mp ha
      obtain ⟨hy, hb⟩ := Row_cons.mp hb
      obtain ⟨hw, hr⟩ := Row_cons.mp hr
      have := ih (by omega) ha hb al bl (cube_prd ha hb) (cube_prd ha hb).len r hr
      rw [show cube (x :: a) (y :: b) = (if x = y then 48 + x.toNat else 45) :: cube a b from rfl, hr_cons, this]
      simp only [List.zip_cons_cons, List.map_cons, List.all_cons, id]
      congr 1
      rcases hx with rfl | rfl <;> rcases hy with rfl | rfl <;> rcases hw with rfl | rfl <;> decide
  refine run_W (fun _ => rfl) rfl ?_; simp only [List.map_cons, List.map_nil, List.replicate, Nat.reduceSub, List.cons_append, List.nil_append]; exists f_law_cube_right
  refine c_cube_of _ _ _ ha.bits (by omega) ?_
  exists cl
  refine c_cube_of _ _ _ hb.bits (by omega) ?_
  exists cube_comm (a := b), beq_self_eq_true, cl
  refine c_law_rows _ _ hm fun o ho => ?_
  exists line
  refine for_A (fun ρ => ∃ u3 u4 u5 u6, ρ = [some (.int m), some (ch a b), some (.str (cube a b)), u3, u4, u5, u6]) ⟨_, _, _, _, rfl⟩ ?_ ?_
  · rintro r ρ hr ⟨u3, u4, u5, u6, rfl⟩
    have hrow := rowsM_mem.mp hr
    exists line
    refine comp_M (f := p2 D.int (p2 D.int D.int)) (g := D.bl) (fun x => decide (x.1 = x.2.1 ∨ x.1 = x.2.2)) (fun x hx => ?_) ?_ ?_
    · exists line
    · simp only [List.length_zip, line]; have := hrow.len; omega
    exists line
    refine c_holds_row _ _ _ hrow.bits (by omega) ?_
    exists line
    rw [key r hrow]
    refine is_c ?_
    exists beq_self_eq_true
    exact ⟨_, _, _, _, rfl⟩
  · rintro ρ ⟨u3, u4, u5, u6, rfl⟩
    exists line
    exact k
abbrev Ps (m : Nat) (ps : List (List Nat)) : Prop := ∀ p ∈ ps, Prd m p
theorem law_c {n : Nat} {ns : List Int} {Q : Res} (hl : ns.length ≤ 63) (q : ∀ o, Q (.bl true, o)) : W ((cf (n + 4)).call 15 [.lst .ext (ns.map D.int)]) Q := by
  refine run_W (fun _ => rfl) rfl ?_; simp only [List.map_cons, List.map_nil, List.replicate, Nat.reduceSub, List.cons_append, List.nil_append]; exists f_law
  refine c_law_deck _ _ hl fun d x hd => ?_
  exists line
  refine for_AR (fun ρ => ∃ d, Deck2Ok d ∧ ∃ u0 u2 u3 u4 u5 u6 u7 u8 u9 u10, ρ = [u0, some d, u2, u3, u4, u5, u6, u7, u8, u9, u10]) ⟨d, hd, ⟨_, _, _, _, _, _, _, _, _, _, rfl⟩⟩ ?_ ?_
  · rintro i ρ hi ⟨d, hd, ⟨u0, u2, u3, u4, u5, u6, u7, u8, u9, u10, rfl⟩⟩
    exists line
    refine c_law_many _ _ hd fun m d m1 m6 hd => ?_
    exists line
    refine for_R (fun i ρ => ∃ d ps, Deck2Ok d ∧ ps.length = i ∧ Ps m ps ∧ ∃ u0 u2 u5 u6 u7 u8 u9 u10, ρ = [u0, some d, u2, some (.int m), some (lo .own .str ps), u5, u6, u7, u8, u9, u10]) ⟨d, [], hd, rfl, (fun p h => nomatch h), ⟨_, _, _, _, _, _, _, _, rfl⟩⟩ ?_ ?_
    · rintro i ρ hi ⟨d, ps, hd, hps, hall, ⟨u0, u2, u5, u6, u7, u8, u9, u10, rfl⟩⟩
      exists line
      refine c_law_draw _ _ _ hd (by decide) (by decide) fun way d w0 w1 hd => ?_
      exists line
      refine c_law_product _ _ _ hd (by omega) fun p d hp hd => ?_
      exists line
      have m1000 : m < 1073741824 := by omega
      have app : ∀ {p : List Nat}, Prd m p → Ps m (ps ++ [p]) := fun hp x hx => by
        rcases List.mem_append.mp hx with hx | hx
        · exact hall x hx
        · simp at hx; subst hx; exact hp
      refine ⟨fun h => ?_, fun h => ?_⟩
      · exists line
        refine ⟨fun h2 => ?_, fun h2 => ?_⟩
        · have hpos := List.length_pos_iff.mpr h2
          have hb := hall _ (gt_mem (l := ps) (i := -1) (by omega))
          have hlen := hb.len
          exists line
          refine c_law_draw _ _ _ hd (by omega) (by omega) fun k d k0 k1 hd => ?_
          obtain ⟨k, rfl⟩ : ∃ n : Nat, k = n := ⟨k.toNat, by omega⟩
          exists cut_to, cut_from1
          refine c_law_draw _ _ _ hd (by omega) (by omega) fun r d r0 r1 hd => ?_
          have l1 : ((gt ps (-1)).take k).length ≤ 6 ∧ ((gt ps (-1)).drop (k + 1)).length ≤ 6 := by rw [List.length_take, List.length_drop]; omega
          exists cut_to, cut_from1
          refine ⟨d, ps ++ [_], hd, by simp [hps], app ⟨?_, ?_⟩, ⟨_, _, _, _, _, _, _, _, rfl⟩⟩
          · simp only [List.length_append, List.length_take, List.length_cons, List.length_nil, List.length_drop]; omega
          · intro w hw
            simp only [List.mem_append, List.mem_cons, List.not_mem_nil, or_false] at hw
            rcases hw with (hw | rfl) | hw
            · exact hb.sgn w (List.mem_of_mem_take hw)
            · have := gt_mem (l := [48, 49, 45]) (i := r) (by simp; omega)
              simp at this; omega
            · exact hb.sgn w (List.mem_of_mem_drop hw)
        · exists line
          exact ⟨d, ps ++ [p], hd, by simp [hps], app hp, ⟨_, _, _, _, _, _, _, _, rfl⟩⟩
      · exists line
        exact ⟨d, ps ++ [p], hd, by simp [hps], app hp, ⟨_, _, _, _, _, _, _, _, rfl⟩⟩
    · rintro ρ ⟨d, ps, hd, hps, hall, ⟨u0, u2, u5, u6, u7, u8, u9, u10, rfl⟩⟩
      exists line
      refine for_A (fun ρ => ∃ u0 u2 u5 u6 u7 u8 u9 u10, ρ = [u0, some d, u2, some (.int m), none, u5, u6, u7, u8, u9, u10]) ⟨_, _, _, _, _, _, _, _, rfl⟩ ?_ ?_
      · rintro p ρ hp ⟨u0, u2, u5, u6, u7, u8, u9, u10, rfl⟩
        have hpr := hall p hp
        have hlen := hpr.len
        exists line
        refine c_law_rows _ _ m6 fun o ho => ?_
        exists line
        refine for_A (fun ρ => ∃ u0 u2 u5 u7 u8 u9 u10, ρ = [u0, some d, u2, some (.int m), none, u5, some (.str p), u7, u8, u9, u10]) ⟨_, _, _, _, _, _, _, rfl⟩ ?_ ?_
        · rintro r ρ hr ⟨u0, u2, u5, u7, u8, u9, u10, rfl⟩
          have hrow := rowsM_mem.mp hr
          exists line
          refine c_holds_row _ _ _ hrow.bits (by omega) ?_
          exists line
          refine c_law_holds _ _ _ hrow.bits hpr.sgn ?_
          exists line
          refine is_c ?_
          exists beq_self_eq_true
          exact ⟨_, _, _, _, _, _, _, rfl⟩
        · rintro ρ ⟨u0, u2, u5, u7, u8, u9, u10, rfl⟩
          exists line
          exact ⟨_, _, _, _, _, _, _, _, rfl⟩
      · rintro ρ ⟨u0, u2, u5, u6, u7, u8, u9, u10, rfl⟩
        exists line
        refine for_R (fun i ρ => ∃ u0 u2 u5 u6 u7 u8 u9 u10, ρ = [u0, some d, u2, some (.int m), some (lo .own .str ps), u5, u6, u7, u8, u9, u10]) ⟨_, _, _, _, _, _, _, _, rfl⟩ ?_ ?_
        · rintro i ρ hi ⟨u0, u2, u5, u6, u7, u8, u9, u10, rfl⟩
          have pi := hall _ (gt_mem (l := ps) (i := (i : Int)) (by omega))
          have pj := hall _ (gt_mem (l := ps) (i := (i : Int) - 1) (by omega))
          have pk := hall _ (gt_mem (l := ps) (i := (i : Int) - 2) (by omega))
          exists line
          refine pair_c m6 pi pj ?_
          exists line
          refine pair_c m6 pi pk ?_
          exists line
          refine pair_c m6 pi pi ?_
          exists line
          exact ⟨_, _, _, _, _, _, _, _, rfl⟩
        · rintro ρ ⟨u0, u2, u5, u6, u7, u8, u9, u10, rfl⟩
          exists line
          refine comp_D (g := p2 rw rw) (fun ρ => ∃ d, Deck2Ok d ∧ ∃ u0 u2 u4 u5 u6 u7 u8 u9 u10, ρ = [u0, some d, u2, some (.int m), u4, u5, u6, u7, u8, u9, u10]) (fun p => Row m p.1 ∧ Row m p.2) ⟨d, hd, ⟨_, _, _, _, _, _, _, _, _, rfl⟩⟩ ?_ (by decide) ?_
          · rintro i ρ hi ⟨d, hd, ⟨u0, u2, u4, u5, u6, u7, u8, u9, u10, rfl⟩⟩
            exists line
            refine c_law_change _ _ _ hd m1 (by omega) fun a b d ha hb hd => ?_
            exists line
            exact ⟨⟨(a, b), by simp only [D.frzL, rw, tp, D.frz, frz_ints]; rfl, ha, hb⟩, d, hd, ⟨_, _, _, _, _, _, _, _, _, rfl⟩⟩
          · rintro ρ bs ⟨d, hd, ⟨u0, u2, u4, u5, u6, u7, u8, u9, u10, rfl⟩⟩ hbs hall
            exists line
            refine for_A (fun ρ => ∃ u0 u2 u4 u5 u6 u7 u8 u9 u10, ρ = [u0, some d, u2, some (.int m), u4, u5, u6, u7, u8, u9, u10]) ⟨_, _, _, _, _, _, _, _, _, rfl⟩ ?_ ?_
            · rintro x ρ hx ⟨u0, u2, u4, u5, u6, u7, u8, u9, u10, rfl⟩
              exists line
              refine cubes_c (a := x.1) (b := x.2) m6 (hall x hx).1 (hall x hx).2 ?_
              exists line
              exact ⟨_, _, _, _, _, _, _, _, _, rfl⟩
            · rintro ρ ⟨u0, u2, u4, u5, u6, u7, u8, u9, u10, rfl⟩
              exists line
              exact ⟨d, hd, ⟨_, _, _, _, _, _, _, _, _, _, rfl⟩⟩
  · rintro ρ ⟨d, hd, ⟨u0, u2, u3, u4, u5, u6, u7, u8, u9, u10, rfl⟩⟩
    exists line
    exact q _
theorem law_true : ∀ ns : List Int, ns.length ≤ 63 → ∃ o, (cfg ms consts fuel (lv + 1)).call 15 [.lst .ext (ns.map D.int)] = some (.bl true, o) := by
  intro ns h
  obtain ⟨⟨v, o⟩, e, rfl⟩ := law_c (n := 0) (Q := fun r => r.1 = .bl true) h fun _ => rfl
  exact ⟨o, e⟩
end L_k34
end

section
set_option Elab.async false
namespace L_k34
open PySem L2 GN
set_option maxRecDepth 100000
set_option maxHeartbeats 4000000
def top (i : Nat) : Stmt := PySem.Challenge.pw_glitchnet_k34_what_products_hold.main.body.getD i (.Pass ⟨0, 0, 0, 0⟩)
def d0 : Df := ⟨"holds_row", ["product", "row", "sign", "worth"], top 1, ⟨2, 4, [], f_holds_row⟩⟩
def d1 : Df := ⟨"holds_all", ["product", "other", "sign", "there"], top 2, ⟨2, 4, [], f_holds_all⟩⟩
def d2 : Df := ⟨"meet", ["product", "other", "sign", "there"], top 3, ⟨2, 4, [], f_meet⟩⟩
def d3 : Df := ⟨"cube_of", ["change", "one", "other"], top 4, ⟨1, 3, [], f_cube_of⟩⟩
def d4 : Df := ⟨"_law_deck", ["_law_script"], top 6, ⟨1, 1, [], f_law_deck⟩⟩
def d5 : Df := ⟨"_law_draw", ["_law_deck_here", "_law_most", "_law_cells", "_law_cell", "_law_number", "_law_digit"], top 7, ⟨2, 6, [], f_law_draw⟩⟩
def d6 : Df := ⟨"_law_many", ["_law_deck_here", "_law_way"], top 8, ⟨1, 2, [], f_law_many⟩⟩
def d7 : Df := ⟨"_law_row", ["_law_deck_here", "_law_many_here", "_law_k"], top 9, ⟨2, 3, [], f_law_row⟩⟩
def d8 : Df := ⟨"_law_change", ["_law_deck_here", "_law_many_here", "_law_way", "_law_row_here", "_law_place", "_law_worth"], top 10, ⟨2, 6, [], f_law_change⟩⟩
def d9 : Df := ⟨"_law_product", ["_law_deck_here", "_law_many_here", "_law_way", "_law_k", "_law_worth"], top 11, ⟨2, 5, [], f_law_product⟩⟩
def d10 : Df := ⟨"_law_holds", ["_law_product_here", "_law_row_here", "_law_sign", "_law_worth"], top 12, ⟨2, 4, [], f_law_holds⟩⟩
def d11 : Df := ⟨"_law_rows", ["_law_many_here", "_law_found", "_law_place", "_law_row_here"], top 13, ⟨1, 4, [], f_law_rows⟩⟩
def d12 : Df := ⟨"_law_is", ["_law_found", "_law_due"], top 14, ⟨2, 2, [], f_law_is⟩⟩
def d13 : Df := ⟨"_law_pair_right", ["_law_many_here", "_law_one", "_law_other", "_law_here", "_law_there", "_law_both", "_law_row_here"], top 15, ⟨3, 7, [], f_law_pair_right⟩⟩
def d14 : Df := ⟨"_law_cube_right", ["_law_many_here", "_law_change_here", "_law_cube", "_law_row_here", "_law_inside", "_law_worth", "_law_pair"], top 16, ⟨2, 7, [], f_law_cube_right⟩⟩
def d15 : Df := ⟨"law", ["_law_script", "_law_deck_here", "_law_turn", "_law_many_here", "_law_some", "_law_k", "_law_product_here", "_law_change_here", "_law_way", "_law_row_here", "_law_place"], top 17, ⟨1, 11, [], f_law⟩⟩
def ds : List Df := [d0, d1, d2, d3, d4, d5, d6, d7, d8, d9, d10, d11, d12, d13, d14, d15]
def gn : List Str := []
theorem ok0 : okD gn (fsOf ds) d0 = true := by decide +kernel
theorem ok1 : okD gn (fsOf ds) d1 = true := by decide +kernel
theorem ok2 : okD gn (fsOf ds) d2 = true := by decide +kernel
theorem ok3 : okD gn (fsOf ds) d3 = true := by decide +kernel
theorem ok4 : okD gn (fsOf ds) d4 = true := by decide +kernel
theorem ok5 : okD gn (fsOf ds) d5 = true := by decide +kernel
theorem ok6 : okD gn (fsOf ds) d6 = true := by decide +kernel
theorem ok7 : okD gn (fsOf ds) d7 = true := by decide +kernel
theorem ok8 : okD gn (fsOf ds) d8 = true := by decide +kernel
theorem ok9 : okD gn (fsOf ds) d9 = true := by decide +kernel
theorem ok10 : okD gn (fsOf ds) d10 = true := by decide +kernel
theorem ok11 : okD gn (fsOf ds) d11 = true := by decide +kernel
theorem ok12 : okD gn (fsOf ds) d12 = true := by decide +kernel
theorem ok13 : okD gn (fsOf ds) d13 = true := by decide +kernel
theorem ok14 : okD gn (fsOf ds) d14 = true := by decide +kernel
theorem ok15 : okD gn (fsOf ds) d15 = true := by decide +kernel
theorem oks : ∀ d ∈ ds, okD gn (fsOf ds) d = true := by
  intro d h
  simp only [ds, List.mem_cons, List.not_mem_nil, or_false] at h
  rcases h with rfl | rfl | rfl | rfl | rfl | rfl | rfl | rfl | rfl | rfl | rfl | rfl | rfl | rfl | rfl | rfl
  · exact ok0
  · exact ok1
  · exact ok2
  · exact ok3
  · exact ok4
  · exact ok5
  · exact ok6
  · exact ok7
  · exact ok8
  · exact ok9
  · exact ok10
  · exact ok11
  · exact ok12
  · exact ok13
  · exact ok14
  · exact ok15
theorem gb {K : PySem.W.Frag} {h : Heap} {mg : Str → Option Value} (X : K.In h) (G : h.Ns mainGlobals mg) (z0 : PySem.W.nsIn K mainGlobals "len" = some none) (z1 : PySem.W.nsIn K mainGlobals "range" = some none) (z2 : PySem.W.nsIn K mainGlobals "tuple" = some none) (z3 : PySem.W.nsIn K mainGlobals "list" = some none) (z4 : PySem.W.nsIn K mainGlobals "str" = some none) (z5 : PySem.W.nsIn K mainGlobals "int" = some none) (z6 : PySem.W.nsIn K mainGlobals "sum" = some none) (z7 : PySem.W.nsIn K mainGlobals "sorted" = some none) (z8 : PySem.W.nsIn K mainGlobals "max" = some none) (z9 : PySem.W.nsIn K mainGlobals "min" = some none) (z10 : PySem.W.nsIn K mainGlobals "abs" = some none) (z11 : PySem.W.nsIn K mainGlobals "all" = some none) (z12 : PySem.W.nsIn K mainGlobals "any" = some none) (z13 : PySem.W.nsIn K mainGlobals "repr" = some none) (z14 : PySem.W.nsIn K mainGlobals "isinstance" = some none) (z15 : PySem.W.nsIn K mainGlobals "set" = some none) (z16 : PySem.W.nsIn K mainGlobals "zip" = some none) (z17 : PySem.W.nsIn K mainGlobals "enumerate" = some none) (z18 : PySem.W.nsIn K mainGlobals "reversed" = some none) (z19 : PySem.W.nsIn K mainGlobals "dict" = some none) (z20 : PySem.W.nsIn K mainGlobals "bool" = some none) : ∀ x ∈ bltNames, mg x = none := by
  intro x h
  simp only [bltNames, List.mem_cons, List.not_mem_nil, or_false] at h
  rcases h with rfl | rfl | rfl | rfl | rfl | rfl | rfl | rfl | rfl | rfl | rfl | rfl | rfl | rfl | rfl | rfl | rfl | rfl | rfl | rfl | rfl
  · exact PySem.W.mg_none_of X G z0
  · exact PySem.W.mg_none_of X G z1
  · exact PySem.W.mg_none_of X G z2
  · exact PySem.W.mg_none_of X G z3
  · exact PySem.W.mg_none_of X G z4
  · exact PySem.W.mg_none_of X G z5
  · exact PySem.W.mg_none_of X G z6
  · exact PySem.W.mg_none_of X G z7
  · exact PySem.W.mg_none_of X G z8
  · exact PySem.W.mg_none_of X G z9
  · exact PySem.W.mg_none_of X G z10
  · exact PySem.W.mg_none_of X G z11
  · exact PySem.W.mg_none_of X G z12
  · exact PySem.W.mg_none_of X G z13
  · exact PySem.W.mg_none_of X G z14
  · exact PySem.W.mg_none_of X G z15
  · exact PySem.W.mg_none_of X G z16
  · exact PySem.W.mg_none_of X G z17
  · exact PySem.W.mg_none_of X G z18
  · exact PySem.W.mg_none_of X G z19
  · exact PySem.W.mg_none_of X G z20
end L_k34
open PySem PySem.W PyProof.Rows
set_option maxRecDepth 100000 in
set_option maxHeartbeats 0 in
theorem PySem.Challenge.cw_glitchnet_k34_what_products_hold_holds : PySem.Challenge.rw_glitchnet_k34_what_products_hold.Holds := by
  w_on; o_law; k_head; (case hw => w_witness2)
  k_fill
  refine GN.law_walk (ds := L_k34.ds) (consts := L_k34.consts) (G := L_k34.gn) (fuel := L_k34.fuel) (n := L_k34.lv) (j := 15) (d := L_k34.d15) (x := "_law_script") rfl rfl ⟨rfl, by decide, by decide⟩ rfl rfl rfl rfl L_k34.oks L_k34.law_true (fun w h Y => PySem.W.kIn_of Y) ?F
  case F =>
    intro w mg h KX G
    refine ⟨⟨?blt, ?gbl⟩, ?st⟩
    case blt =>
      refine' L_k34.gb KX G ?z0 ?z1 ?z2 ?z3 ?z4 ?z5 ?z6 ?z7 ?z8 ?z9 ?z10 ?z11 ?z12 ?z13 ?z14 ?z15 ?z16 ?z17 ?z18 ?z19 ?z20
      all_goals k_is
    case gbl =>
      intro j x h
      simp [L_k34.gn] at h
    case st =>
      intro d hd
      simp only [L_k34.ds, List.mem_cons, List.not_mem_nil, or_false] at hd
      rcases hd with rfl | rfl | rfl | rfl | rfl | rfl | rfl | rfl | rfl | rfl | rfl | rfl | rfl | rfl | rfl | rfl
      · refine' GN.stands_mk KX G ?a ?l ?c ?k ?b
        (case a => k_is); (case l => k_is); (case c => k_is); (case k => k_is)
        (case b => exact fun us hl => match us, hl with | [_, _], _ => rfl)
      · refine' GN.stands_mk KX G ?a ?l ?c ?k ?b
        (case a => k_is); (case l => k_is); (case c => k_is); (case k => k_is)
        (case b => exact fun us hl => match us, hl with | [_, _], _ => rfl)
      · refine' GN.stands_mk KX G ?a ?l ?c ?k ?b
        (case a => k_is); (case l => k_is); (case c => k_is); (case k => k_is)
        (case b => exact fun us hl => match us, hl with | [_, _], _ => rfl)
      · refine' GN.stands_mk KX G ?a ?l ?c ?k ?b
        (case a => k_is); (case l => k_is); (case c => k_is); (case k => k_is)
        (case b => exact fun us hl => match us, hl with | [_], _ => rfl)
      · refine' GN.stands_mk KX G ?a ?l ?c ?k ?b
        (case a => k_is); (case l => k_is); (case c => k_is); (case k => k_is)
        (case b => exact fun us hl => match us, hl with | [_], _ => rfl)
      · refine' GN.stands_mk KX G ?a ?l ?c ?k ?b
        (case a => k_is); (case l => k_is); (case c => k_is); (case k => k_is)
        (case b => exact fun us hl => match us, hl with | [_, _], _ => rfl)
      · refine' GN.stands_mk KX G ?a ?l ?c ?k ?b
        (case a => k_is); (case l => k_is); (case c => k_is); (case k => k_is)
        (case b => exact fun us hl => match us, hl with | [_], _ => rfl)
      · refine' GN.stands_mk KX G ?a ?l ?c ?k ?b
        (case a => k_is); (case l => k_is); (case c => k_is); (case k => k_is)
        (case b => exact fun us hl => match us, hl with | [_, _], _ => rfl)
      · refine' GN.stands_mk KX G ?a ?l ?c ?k ?b
        (case a => k_is); (case l => k_is); (case c => k_is); (case k => k_is)
        (case b => exact fun us hl => match us, hl with | [_, _], _ => rfl)
      · refine' GN.stands_mk KX G ?a ?l ?c ?k ?b
        (case a => k_is); (case l => k_is); (case c => k_is); (case k => k_is)
        (case b => exact fun us hl => match us, hl with | [_, _], _ => rfl)
      · refine' GN.stands_mk KX G ?a ?l ?c ?k ?b
        (case a => k_is); (case l => k_is); (case c => k_is); (case k => k_is)
        (case b => exact fun us hl => match us, hl with | [_, _], _ => rfl)
      · refine' GN.stands_mk KX G ?a ?l ?c ?k ?b
        (case a => k_is); (case l => k_is); (case c => k_is); (case k => k_is)
        (case b => exact fun us hl => match us, hl with | [_], _ => rfl)
      · refine' GN.stands_mk KX G ?a ?l ?c ?k ?b
        (case a => k_is); (case l => k_is); (case c => k_is); (case k => k_is)
        (case b => exact fun us hl => match us, hl with | [_, _], _ => rfl)
      · refine' GN.stands_mk KX G ?a ?l ?c ?k ?b
        (case a => k_is); (case l => k_is); (case c => k_is); (case k => k_is)
        (case b => exact fun us hl => match us, hl with | [_, _, _], _ => rfl)
      · refine' GN.stands_mk KX G ?a ?l ?c ?k ?b
        (case a => k_is); (case l => k_is); (case c => k_is); (case k => k_is)
        (case b => exact fun us hl => match us, hl with | [_, _], _ => rfl)
      · refine' GN.stands_mk KX G ?a ?l ?c ?k ?b
        (case a => k_is); (case l => k_is); (case c => k_is); (case k => k_is)
        (case b => exact fun us hl => match us, hl with | [_], _ => rfl)
end
