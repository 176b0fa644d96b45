import PyProof.Rows.All
import Wide.All
import OpenK.AllK
import Wide.FinOn
import KE.KStateDown
import KE.KEqNest
import KE.KDictLaw
import HandS.ForMost
import HandS.Exc
import HandS.ExcOwn
import HandS.Defaults
import HandS.TupAny
import HandS.TupMul
import HandS.TupLe
import HandS.Style
import HandS.IsInst
import HandS.SortInts
import HandS.SortKw
import HandS.Conv
import HandS.Sort
import PyProof.NeKinds
import HandS.Deep
import HandS.More
import HandS.Rev
import HandS.CallSlots
import HandS.ListItems
import HandS.Text
import HandS.Replace
import HandS.ReplaceList
import HandS.ReplaceLit
import KE.DataMinMax
import KE.DatumOrd
import HandS.HeadHook4
import HandS.HeadEnd
import HandS.Head2
import HandS.Head0
import HandS.Head1
import HandS.HeadHook1
import HandS.HeadHook2
import PySem.Challenge.RW_cabinet_k15_order_of_three
set_option linter.all false
set_option maxRecDepth 100000
namespace Cab
/-! The small language: values, expressions, statements, and their running. -/
abbrev LIM : Nat := 16777216

inductive Ky where
  | i (n : Int)
  | s (x : List Nat)
  deriving DecidableEq

/-- data: trees by value -/
inductive T where
  | non
  | bl (b : Bool)
  | int (i : Int)
  | str (x : List Nat)
  | lst (xs : List T)
  | tup (xs : List T)
  | dct (kvs : List (Ky × T))

/-- what a name holds: data, a thing that stands in the store, a tuple of such -/
inductive U where
  | v (t : T)
  | ref (i : Nat)
  | tup (us : List U)

inductive O where
  | lst (us : List U)
  | dct (kvs : List (Ky × U))
  | ins (c : Nat) (fs : List (List Nat × U))

abbrev Store := List O
abbrev Env := List (Option U)

structure Ex where
  cls : Nat
  fs : List (List Nat × T)

inductive R (α : Type) where
  | ok (a : α) (s : Store)
  | exc (x : Ex) (s : Store)
  | bad

def R.bind {α β : Type} (r : R α) (f : α → Store → R β) : R β := match r with
  | .ok a s => f a s
  | .exc x s => .exc x s
  | .bad => .bad

/-! ### operators -/
inductive Bop where
  | add | sub | mul | fdiv | mod | pow | bor
  deriving DecidableEq
inductive Cop where
  | eq | ne | lt | le | gt | ge | is | isn | mem | nmem
  deriving DecidableEq
inductive Kd where
  | bool | int | str | list | dict | tuple
  deriving DecidableEq

def b2i (b : Bool) : Int := if b then 1 else 0

def optAll {α β : Type} (f : α → Option β) : List α → Option (List β)
  | [] => some []
  | a :: r => match f a with
    | some b => (match optAll f r with
      | some bs => some (b :: bs)
      | none => none)
    | none => none

def kget {α : Type} (k : Ky) : List (Ky × α) → Option α
  | [] => none
  | p :: r => if p.1 = k then some p.2 else kget k r
def kput {α : Type} (k : Ky) (a : α) : List (Ky × α) → List (Ky × α)
  | [] => [(k, a)]
  | p :: r => if p.1 = k then (k, a) :: r else p :: kput k a r
def kdrop {α : Type} (k : Ky) : List (Ky × α) → List (Ky × α)
  | [] => []
  | p :: r => if p.1 = k then r else p :: kdrop k r
def sget {α : Type} (k : List Nat) : List (List Nat × α) → Option α
  | [] => none
  | p :: r => if p.1 = k then some p.2 else sget k r
def sput {α : Type} (k : List Nat) (a : α) : List (List Nat × α) → List (List Nat × α)
  | [] => [(k, a)]
  | p :: r => if p.1 = k then (k, a) :: r else p :: sput k a r

def kyT : Ky → T
  | .i n => .int n
  | .s x => .str x
def tKy : T → Option Ky
  | .int n => some (.i n)
  | .str x => some (.s x)
  | _ => none

mutual
def pyEq : T → T → Bool
  | .non, .non => true
  | .bl a, .bl b => a == b
  | .bl a, .int j => b2i a == j
  | .int i, .bl b => i == b2i b
  | .int i, .int j => i == j
  | .str x, .str y => x == y
  | .lst xs, .lst ys => eqL xs ys
  | .tup xs, .tup ys => eqL xs ys
  | .dct xs, .dct ys => xs.length == ys.length && eqK xs ys
  | _, _ => false
def eqL : List T → List T → Bool
  | [], [] => true
  | x :: xs, y :: ys => pyEq x y && eqL xs ys
  | _, _ => false
def eqK : List (Ky × T) → List (Ky × T) → Bool
  | [], _ => true
  | p :: r, ys => eqP p ys && eqK r ys
def eqP : Ky × T → List (Ky × T) → Bool
  | (k, v), ys => match kget k ys with
    | some w => pyEq v w
    | none => false
end

def isScalar : T → Bool
  | .lst _ => false
  | .tup _ => false
  | .dct _ => false
  | _ => true
def zipAll (f : T → T → Bool) : List T → List T → Bool
  | x :: xs, y :: ys => f x y && zipAll f xs ys
  | _, _ => true
/-- what may be compared: not too deep, no dict with anything else -/
def eqOk : Nat → T → T → Bool
  | 0, a, b => isScalar a && isScalar b
  | n + 1, .lst xs, .lst ys => zipAll (eqOk n) xs ys
  | n + 1, .tup xs, .tup ys => zipAll (eqOk n) xs ys
  | n + 1, .dct xs, .dct ys => xs.all fun p => match kget p.1 ys with
    | some w => eqOk n p.2 w
    | none => true
  | _ + 1, .dct _, _ => false
  | _ + 1, _, .dct _ => false
  | _ + 1, _, _ => true
/-- no dict within, not too deep -/
def nodct : Nat → T → Bool
  | 0, t => isScalar t
  | n + 1, .lst xs => xs.all (nodct n)
  | n + 1, .tup xs => xs.all (nodct n)
  | _ + 1, .dct _ => false
  | _ + 1, _ => true
/-- what != may be asked of -/
def neOk : T → T → Bool
  | .lst xs, .lst ys => xs.length != ys.length || (xs.all (nodct 59) && ys.all (nodct 59))
  | .tup xs, .tup ys => xs.all (nodct 59) && ys.all (nodct 59)
  | .dct xs, .dct ys => xs.length != ys.length || (xs.all (fun p => nodct 59 p.2) && ys.all (fun p => nodct 59 p.2))
  | .dct _, _ => false
  | _, .dct _ => false
  | _, _ => true
/-- texts as Python orders them -/
def strLt : List Nat → List Nat → Bool
  | [], [] => false
  | [], _ :: _ => true
  | _ :: _, [] => false
  | a :: x, b :: y => if a = b then strLt x y else decide (a < b)

/- tuples of numbers, texts and such tuples, as Python orders them: at the first place where they are unequal -/
mutual
def tupLt : T → T → Bool
  | .int i, .int j => decide (i < j)
  | .str x, .str y => strLt x y
  | .tup xs, .tup ys => tupsLt xs ys
  | _, _ => false
def tupsLt : List T → List T → Bool
  | [], [] => false
  | [], _ :: _ => true
  | _ :: _, [] => false
  | x :: xs, y :: ys => if pyEq x y then tupsLt xs ys else tupLt x y
end
/-- what holds of the first two that are unequal -/
def firstOk (f : T → T → Bool) : List T → List T → Bool
  | x :: xs, y :: ys => if pyEq x y then firstOk f xs ys else f x y
  | _, _ => true
/-- what < may be asked of: not too deep -/
def ltOk : Nat → T → T → Bool
  | _, .int _, .int _ => true
  | _, .str _, .str _ => true
  | n + 1, .tup xs, .tup ys => zipAll (eqOk n) xs ys && firstOk (ltOk n) xs ys
  | _, _, _ => false

def small64 (i : Int) : Bool := decide (-18446744073709551616 < i) && decide (i < 18446744073709551616)

def inRng (i : Int) : Bool := decide (-4611686018427387904 ≤ i) && decide (i < 4611686018427387904)

def rep {α : Type} (n : Nat) (xs : List α) : List α := (List.replicate n xs).flatten

def binT : Bop → T → T → Option T
  | .add, .int i, .int j => some (.int (i + j))
  | .add, .int i, .bl b => some (.int (i + b2i b))
  | .add, .str x, .str y => if x.length + y.length ≤ LIM then some (.str (x ++ y)) else none
  | .add, .lst x, .lst y => if x.length + y.length ≤ LIM then some (.lst (x ++ y)) else none
  | .add, .tup x, .tup y => if x.length + y.length ≤ LIM then some (.tup (x ++ y)) else none
  | .sub, .int i, .int j => some (.int (i - j))
  | .mul, .int i, .int j => if small64 i || small64 j then some (.int (i * j)) else none
  | .mul, .str x, .int j => if inRng j && decide (x.length * j.toNat ≤ LIM) then some (.str (rep j.toNat x)) else none
  | .mul, .lst x, .int j => if inRng j && decide (x.length * j.toNat ≤ LIM) then some (.lst (rep j.toNat x)) else none
  | .fdiv, .int i, .int j => if 0 < j ∧ j < 1073741824 then some (.int (i / j)) else none
  | .mod, .int i, .int j => if 0 < j then some (.int (i % j)) else none
  | .pow, .int i, .int j => if 0 ≤ j ∧ j ≤ 1000000 ∧ small64 i then some (.int (i ^ j.toNat)) else none
  | _, _, _ => none

def atI {α : Type} (xs : List α) (i : Int) : Option α := if 0 ≤ i then xs[i.toNat]? else if -(xs.length : Int) ≤ i then xs[(i + xs.length).toNat]? else none

def cmpT : Cop → T → T → Option Bool
  | .eq, a, b => if eqOk 60 a b then some (pyEq a b) else none
  | .ne, a, b => if neOk a b then some (!pyEq a b) else none
  | .lt, .int i, .int j => some (decide (i < j))
  | .le, .int i, .int j => some (decide (i ≤ j))
  | .gt, .int i, .int j => some (decide (j < i))
  | .ge, .int i, .int j => some (decide (j ≤ i))
  | .lt, .str x, .str y => some (strLt x y)
  | .gt, .str x, .str y => some (strLt y x)
  | .lt, .bl a, .bl b => some (!a && b)
  | .gt, .bl a, .bl b => some (a && !b)
  | .lt, .tup xs, .tup ys => if ltOk 60 (.tup xs) (.tup ys) then some (tupsLt xs ys) else none
  | .is, .non, .non => some true
  | .is, _, .non => some false
  | .isn, .non, .non => some false
  | .isn, _, .non => some true
  | .is, .bl a, .bl b => some (a == b)
  | .isn, .bl a, .bl b => some (a != b)
  | .mem, .str [c], .str y => some (decide (c ∈ y))
  | .nmem, .str [c], .str y => some (!decide (c ∈ y))
  | .mem, x, .lst ys => if ys.all (nodct 59) && nodct 59 x then some (ys.any fun y => pyEq y x) else none
  | .nmem, x, .lst ys => if ys.all (nodct 59) && nodct 59 x then some (!ys.any fun y => pyEq y x) else none
  | .mem, x, .tup ys => if ys.all (nodct 59) && nodct 59 x then some (ys.any fun y => pyEq y x) else none
  | .nmem, x, .tup ys => if ys.all (nodct 59) && nodct 59 x then some (!ys.any fun y => pyEq y x) else none
  | .mem, x, .dct kvs => (tKy x).map fun k => (kget k kvs).isSome
  | .nmem, x, .dct kvs => (tKy x).map fun k => !(kget k kvs).isSome
  | _, _, _ => none

def idxT : T → T → Option T
  | .lst xs, .int i => atI xs i
  | .tup xs, .int i => atI xs i
  | .str x, .int i => (atI x i).map fun c => .str [c]
  | .dct kvs, k => (tKy k).bind fun k => kget k kvs
  | _, _ => none

/-! ### slices: sIx of the hand layer -/
def cut1 (n d : Nat) : Option Int → Nat
  | none => d
  | some i => if i < 0 then (i + n).toNat else min i.toNat n
def cut {α : Type} (xs : List α) (lo hi : Option Int) : List α := (xs.drop (cut1 xs.length 0 lo)).take (cut1 xs.length xs.length hi - cut1 xs.length 0 lo)
/-- the other way round -/
def revT : T → Option T
  | .lst xs => some (.lst xs.reverse)
  | .str xs => some (.str xs.reverse)
  | _ => none
def cutT (lo hi : Option Int) : T → Option T
  | .lst xs => some (.lst (cut xs lo hi))
  | .tup xs => some (.tup (cut xs lo hi))
  | .str xs => some (.str (cut xs lo hi))
  | _ => none

/-! ### built-in functions and methods over data -/
inductive Prm where
  | len | abs | min | max | int | str | ord | sum | all | any | maxd | mind
  | list | tuple | sorted | sortedR | dict | values | keys
  | join | split | replace | replw | find | count | get1 | get2 | index
  | upper | uni
  deriving DecidableEq

def digits (n : Nat) : List Nat := (Nat.toDigits 10 n).map fun c => c.toNat
def intText (i : Int) : List Nat := if i < 0 then 45 :: digits i.natAbs else digits i.natAbs

def allBl : List T → Option (List Bool) := optAll fun t => match t with
  | .bl b => some b
  | _ => none
def allInt : List T → Option (List Int) := optAll fun t => match t with
  | .int i => some i
  | _ => none
def allStr : List T → Option (List (List Nat)) := optAll fun t => match t with
  | .str x => some x
  | _ => none
def allPair : List T → Option (List (Ky × T)) := optAll fun t => match t with
  | .tup [k, v] => (tKy k).map fun k => (k, v)
  | _ => none

def maxL (d : Int) : List Int → Int
  | [] => d
  | a :: r => r.foldl (fun a y => if a < y then y else a) a
def minL (d : Int) : List Int → Int
  | [] => d
  | a :: r => r.foldl (fun a y => if y < a then y else a) a
def inter (sep : List Nat) : List (List Nat) → List Nat
  | [] => []
  | [x] => x
  | x :: y :: r => x ++ (sep ++ inter sep (y :: r))
def strLe (a b : List Nat) : Bool := !strLt b a
def sortT (xs : List T) : Option (List T) := match allInt xs with
  | some is => some ((is.mergeSort fun a b => decide (a ≤ b)).map .int)
  | none => (match allStr xs with
    | some ss => some ((ss.mergeSort strLe).map .str)
    | none => none)
def strGe (a b : List Nat) : Bool := strLe b a
def sortTR (xs : List T) : Option (List T) := match allInt xs with
  | some is => some ((is.mergeSort fun a b => decide (b ≤ a)).map .int)
  | none => (match allStr xs with
    | some ss => some ((ss.mergeSort strGe).map .str)
    | none => none)
/-- the parts of a text between the signs c -/
def parts (c : Nat) : List Nat → List (List Nat)
  | [] => [[]]
  | a :: r => if a = c then [] :: parts c r else match parts c r with
    | p :: ps => (a :: p) :: ps
    | [] => [[a]]
def merge {α : Type} (acc : List (Ky × α)) : List (Ky × α) → List (Ky × α)
  | [] => acc
  | p :: r => merge (kput p.1 p.2 acc) r
def firstIx (t : T) : Nat → List T → Option Nat
  | _, [] => none
  | n, a :: r => if pyEq a t then some n else firstIx t (n + 1) r

/-- the texts that a set is made of -/
def keysT : T → Option (List (List Nat))
  | .dct kvs => allStr (kvs.map fun p => kyT p.1)
  | .lst xs => allStr xs
  | _ => none
def primT : Prm → List T → Option T
  | .len, [.lst xs] => some (.int xs.length)
  | .len, [.tup xs] => some (.int xs.length)
  | .len, [.str xs] => if xs.length ≤ LIM then some (.int xs.length) else none
  | .len, [.dct xs] => some (.int xs.length)
  | .abs, [.int i] => some (.int (if i < 0 then -i else i))
  | .min, [.int i, .int j] => some (.int (if j < i then j else i))
  | .max, [.int i, .int j] => some (.int (if j > i then j else i))
  | .int, [.int i] => some (.int i)
  | .int, [.bl b] => some (.int (b2i b))
  | .str, [.int i] => if i.natAbs.log2 < 1920 then some (.str (intText i)) else none
  | .ord, [.str [c]] => some (.int c)
  | .sum, [.lst xs] => (allInt xs).map fun is => .int is.sum
  | .all, [.lst xs] => (allBl xs).map fun bs => .bl (bs.all id)
  | .any, [.lst xs] => (allBl xs).map fun bs => .bl (bs.any id)
  | .maxd, [.lst xs, .int d] => (allInt xs).map fun is => .int (maxL d is)
  | .mind, [.lst xs, .int d] => (allInt xs).map fun is => .int (minL d is)
  | .list, [.lst xs] => some (.lst xs)
  | .list, [.tup xs] => some (.lst xs)
  | .list, [.dct kvs] => some (.lst (kvs.map fun p => kyT p.1))
  | .tuple, [.lst xs] => some (.tup xs)
  | .tuple, [.tup xs] => some (.tup xs)
  | .sorted, [.lst xs] => if xs.length < 64 then (sortT xs).map .lst else none
  | .sorted, [.dct kvs] => if kvs.length < 64 then (sortT (kvs.map fun p => kyT p.1)).map .lst else none
  | .dict, [.lst xs] => (allPair xs).map fun ps => .dct (merge [] ps)
  | .values, [.dct kvs] => some (.lst (kvs.map (·.2)))
  | .join, [.str sep, .lst xs] => (allStr xs).bind fun ss => if (ss.map List.length).sum + ss.length * sep.length ≤ LIM then some (.str (inter sep ss)) else none
  | .replace, [.str x, .str [c], .str r] => if c < 256 ∧ [c] ≠ r ∧ x.length + (x.length + 1) * r.length ≤ LIM then some (.str (inter r (parts c x))) else none
  | .replw, [.str x, .str w, .str [c], .str r] => if c < 256 ∧ [c] ≠ r ∧ x.length + (x.length + 1) * r.length ≤ LIM then binT .add (.str w) (.str (inter r (parts c x))) else none
  | .split, [.str x, .str [c]] => if c < 256 ∧ x.length + 2 ≤ LIM then some (.lst ((parts c x).map .str)) else none
  | .count, [.str x, .str [c]] => if c < 256 then some (.int (x.count c)) else none
  | .get1, [.dct kvs, k] => (tKy k).map fun k => (kget k kvs).getD .non
  | .get2, [.dct kvs, k, d] => (tKy k).map fun k => (kget k kvs).getD d
  | .uni, [a, b] => (match keysT a, keysT b with
    | some xs, some ys => if xs.length + ys.length < 64 then some (.lst (((xs ++ ys).eraseDups.mergeSort strLe).map .str)) else none
    | _, _ => none)
  | .index, [.lst xs, t] => if xs.all (nodct 59) && nodct 59 t then (firstIx t 0 xs).map fun (n : Nat) => .int n else none
  | .sortedR, [.lst xs] => if xs.length < 64 then (sortTR xs).map .lst else none
  | .sortedR, [.dct kvs] => if kvs.length < 64 then (sortTR (kvs.map fun p => kyT p.1)).map .lst else none
  | _, _ => none

def isKd : T → Kd → Bool
  | .bl _, .bool => true
  | .bl _, .int => true
  | .int _, .int => true
  | .str _, .str => true
  | .lst _, .list => true
  | .dct _, .dict => true
  | .tup _, .tuple => true
  | _, _ => false

/-! ### the store -/
def unV : U → Option T
  | .v t => some t
  | _ => none
def isV : U → Bool
  | .v _ => true
  | _ => false
def unKV (p : Ky × U) : Option (Ky × T) := match p.2 with
  | .v t => some (p.1, t)
  | _ => none
/-- the whole as data -/
def view : Nat → Store → U → Option T
  | 0, _, _ => none
  | n + 1, s, u => match u with
    | .v t => some t
    | .tup us => (optAll (view n s) us).map .tup
    | .ref i => match s[i]? with
      | some (.lst us) => (optAll (view n s) us).map .lst
      | some (.dct kvs) => (optAll (fun p : Ky × U => (view n s p.2).map fun t => (p.1, t)) kvs).map .dct
      | _ => none
/-- the outside as data, where all within is -/
def asT (s : Store) : U → Option T
  | .v t => some t
  | .tup us => (optAll unV us).map .tup
  | .ref i => match s[i]? with
    | some (.lst us) => (optAll unV us).map .lst
    | some (.dct kvs) => (optAll unKV kvs).map .dct
    | _ => none

def lenU (s : Store) : U → Option Nat
  | .v (.lst xs) => some xs.length
  | .v (.tup xs) => some xs.length
  | .v (.str xs) => if xs.length ≤ LIM then some xs.length else none
  | .v (.dct xs) => some xs.length
  | .tup us => some us.length
  | .ref i => match s[i]? with
    | some (.lst us) => some us.length
    | some (.dct kvs) => some kvs.length
    | _ => none
  | _ => none
def idxU (s : Store) : U → U → Option U
  | .v t, .v k => (idxT t k).map .v
  | .tup us, .v (.int i) => atI us i
  | .ref i, .v k => match s[i]?, k with
    | some (.lst us), .int j => atI us j
    | some (.dct kvs), k => (tKy k).bind fun k => kget k kvs
    | _, _ => none
  | _, _ => none
/-- what a for walks -/
def itemsU (s : Store) : U → Option (List U)
  | .v (.lst xs) => some (xs.map .v)
  | .v (.tup xs) => some (xs.map .v)
  | .v (.str xs) => some (xs.map fun c => .v (.str [c]))
  | .v (.dct kvs) => some (kvs.map fun p => .v (kyT p.1))
  | .tup us => some us
  | _ => none
/-- what is walked: things at hand, or a list of the store, as it stands at each turn -/
inductive Wk where
  | xs (us : List U)
  | at (i : Nat)
def wkAt (w : Wk) (s : Store) (k : Nat) : Option (Option U) := match w with
  | .xs us => some us[k]?
  | .at i => match s[i]? with
    | some (.lst us) => some us[k]?
    | _ => none
def wkLen (w : Wk) (s : Store) : Nat := match w with
  | .xs us => us.length
  | .at i => match s[i]? with
    | some (.lst us) => us.length
    | _ => 0
def wkU (s : Store) (u : U) : Option Wk := match u with
  | .ref i => match s[i]? with
    | some (.lst _) => some (.at i)
    | _ => none
  | u => (itemsU s u).map .xs
/-- the things of a list, a tuple -/
def seqU (s : Store) : U → Option (List U)
  | .v (.lst ts) => some (ts.map .v)
  | .v (.tup ts) => some (ts.map .v)
  | .tup us => some us
  | .ref i => match s[i]? with
    | some (.lst us) => some us
    | _ => none
  | _ => none
/-- the names of a dict -/
def keysU (s : Store) : U → Option (List U)
  | .v (.dct kvs) => some (kvs.map fun p => .v (kyT p.1))
  | .ref i => match s[i]? with
    | some (.dct kvs) => some (kvs.map fun p => .v (kyT p.1))
    | _ => none
  | _ => none
def dctU (s : Store) : U → Option (List (Ky × U))
  | .v (.dct kvs) => some (kvs.map fun p => (p.1, .v p.2))
  | .ref i => match s[i]? with
    | some (.dct kvs) => some kvs
    | _ => none
  | _ => none
/-- the pairs of a list -/
def pairsV : U → Option (List (Ky × T))
  | .v (.lst xs) => allPair xs
  | _ => none
/-- a list of the store -/
def lstAt (s : Store) : U → Option (Nat × List U)
  | .ref i => match s[i]? with
    | some (.lst us) => some (i, us)
    | _ => none
  | _ => none
def kdU (s : Store) : U → Option (Kd → Bool)
  | .v t => some (isKd t)
  | .tup _ => some fun k => match k with
    | .tuple => true
    | _ => false
  | .ref i => match s[i]? with
    | some (.lst _) => some fun k => match k with
      | .list => true
      | _ => false
    | some (.dct _) => some fun k => match k with
      | .dict => true
      | _ => false
    | _ => none

mutual
def shiftU (n : Nat) : U → U
  | .v t => .v t
  | .ref i => .ref (i + n)
  | .tup us => .tup (shiftL n us)
def shiftL (n : Nat) : List U → List U
  | [] => []
  | u :: us => shiftU n u :: shiftL n us
end
def shiftO (n : Nat) : O → O
  | .lst us => .lst (us.map (shiftU n))
  | .dct kvs => .dct (kvs.map fun p => (p.1, shiftU n p.2))
  | .ins c fs => .ins c (fs.map fun p => (p.1, shiftU n p.2))

/-! ### expressions -/
/-- how a def is called: v: for data alone, its store let go; o: upon a store of its own, that is handed over; r: upon the store as it stands -/
inductive Md where
  | v | o | r
  deriving DecidableEq
inductive Tgt where
  | one (i : Nat)
  | many (is : List Nat)
mutual
inductive E where
  | bad
  | var (i : Nat)
  | con (t : T)
  | glo (g : Nat)
  | bin (op : Bop) (a b : E)
  | neg (a : E)
  | not (a : E)
  | and (a b : E)
  | or (a b : E)
  | cmp (op : Cop) (a b : E)
  | chn (o1 o2 : Cop) (a b c : E)
  | ite (c a b : E)
  | call (md : Md) (f : Nat) (as : Es)
  | prm (p : Prm) (as : Es)
  | len (a : E)
  | isi (a : E) (ks : List Kd)
  | idx (a b : E)
  | cutL (a lo : E)
  | cutR (a hi : E)
  | cutB (a lo hi : E)
  | cutN (a : E)
  | tupd (es : Es)
  | lstd (es : Es)
  | lstO (es : Es)
  | dctd (ks : List Ky) (vs : Es)
  | dctO (ks : List Ky) (vs : Es)
  | lc (own : List Nat) (tg : Tgt) (src : Src) (elt : E)
  | lcI (own : List Nat) (tg : Tgt) (src : Src) (c elt : E)
  | lcO (own : List Nat) (tg : Tgt) (src : Src) (elt : E)
  | lcIO (own : List Nat) (tg : Tgt) (src : Src) (c elt : E)
  | meth (p : Prm) (a : E) (es : Es)
  | dctE (es : Es)
  | dctEO (es : Es)
  | revS (a : E)
  | newL (a : E)
  | newD (a : E)
  | app (a b : E)
  | inR (neg : Bool) (a b : E)
  | pop0 (a : E)
  | pop1 (a b : E)
  | ins (a b c : E)
inductive Es where
  | nil
  | cons (e : E) (es : Es)
inductive Src where
  | it (e : E)
  | rng1 (a : E)
  | rng2 (a b : E)
  | rng3 (a b c : E)
  | items (e : E)
  | values (e : E)
  | enm (e : E)
  | rev (e : E)
end
mutual
inductive S where
  | never
  | pass
  | brk
  | cnt
  | ex (e : E)
  | ret (e : E)
  | retN
  | set (i : Nat) (e : E)
  | setT (is : List Nat) (e : E)
  | par (is : List Nat) (es : Es)
  | aug (i : Nat) (op : Bop) (e : E)
  | sub (o k e : E)
  | if (c : E) (a b : B)
  | for (tg : Tgt) (src : Src) (b : B)
  | whl (c : E) (b : B)
inductive B where
  | nil
  | cons (st : S) (b : B)
end

def wipeE (ρ : Env) : List Nat → Env
  | [] => ρ
  | i :: is => (wipeE ρ is).set i none

/-- a target takes a value; a tuple is parted -/
def bindMany (ρ : Env) : List Nat → List U → Option Env
  | [], [] => some ρ
  | i :: is, u :: us => bindMany (ρ.set i (some u)) is us
  | _, _ => none
def partsU : U → Option (List U)
  | .v (.tup ts) => some (ts.map .v)
  | .tup us => some us
  | _ => none
def bindT (tg : Tgt) (u : U) (ρ : Env) : Option Env := match tg with
  | .one i => some (ρ.set i (some u))
  | .many is => (partsU u).bind fun us => if us.length = is.length then bindMany ρ is us else none

def okO {α : Type} (o : Option α) (s : Store) : R α := match o with
  | some a => .ok a s
  | none => .bad
def lift1 (f : T → Option T) (s : Store) (u : U) : R U := match asT s u with
  | some t => okO ((f t).map .v) s
  | none => .bad
def lift2 (f : T → T → Option T) (s : Store) (u w : U) : R U := match asT s u, asT s w with
  | some t, some t' => okO ((f t t').map .v) s
  | _, _ => .bad
/-- equality wants the whole as data, the rest the outside -/
def cmpU (op : Cop) (s : Store) (u w : U) : Option Bool := match op with
  | .is => (match u, w with
    | .v t, .v t' => cmpT .is t t'
    | .ref _, .v .non => some false
    | .tup _, .v .non => some false
    | _, _ => none)
  | .isn => (match u, w with
    | .v t, .v t' => cmpT .isn t t'
    | .ref _, .v .non => some true
    | .tup _, .v .non => some true
    | _, _ => none)
  | .eq => (match view 64 s u, view 64 s w with
    | some t, some t' => cmpT .eq t t'
    | _, _ => none)
  | .ne => (match view 64 s u, view 64 s w with
    | some t, some t' => cmpT .ne t t'
    | _, _ => none)
  | op => (match asT s u, asT s w with
    | some t, some t' => cmpT op t t'
    | _, _ => none)

/-- of what kind a method's thing must be -/
def headOk (p : Prm) (s : Store) (u : U) : Bool := match p with
  | .get1 => (dctU s u).isSome
  | .get2 => (dctU s u).isSome
  | .values => (dctU s u).isSome
  | .index => (match asT s u with
    | some (.lst _) => true
    | _ => false)
  | _ => (match u with
    | .v (.str _) => true
    | _ => false)
/-- what a method may be handed -/
def metOk (p : Prm) (us : List U) : Bool := match p with
  | .get2 => us.all isV
  | _ => true
/-- keys and values in turn -/
def pairsU : List U → Option (List (Ky × U))
  | [] => some []
  | .v k :: u :: r => (match tKy k, pairsU r with
    | some k, some ps => some ((k, u) :: ps)
    | _, _ => none)
  | _ => none

abbrev Call := Nat → List U → Store → R U

/-- a call by its way -/
def callM (C : Call) (md : Md) (f : Nat) (us : List U) (s : Store) : R U := match md with
  | .r => C f us s
  | .v => (match optAll (view 64 s) us with
    | some ts => (match C f (ts.map .v) [] with
      | .ok u s' => (match view 64 s' u with
        | some t => if us.all isV || isScalar t then .ok (.v t) s else .bad
        | none => .bad)
      | .exc x _ => if us.all isV || x.fs.all (fun p => isScalar p.2) then .exc x s else .bad
      | .bad => .bad)
    | none => .bad)
  | .o => (match us.all isV with
    | true => (match C f us [] with
      | .ok u s' => .ok (shiftU s.length u) (s ++ s'.map (shiftO s.length))
      | .exc x _ => .exc x s
      | .bad => .bad)
    | false => .bad)

def asBl : U → Option Bool
  | .v (.bl b) => some b
  | _ => none
/-- truth, where a test is asked -/
def truth (s : Store) : U → Option Bool
  | .v (.bl b) => some b
  | .v .non => some false
  | .v (.int i) => some (i != 0)
  | .v (.lst xs) => some (!xs.isEmpty)
  | .v (.tup xs) => some (!xs.isEmpty)
  | .v (.dct xs) => some (!xs.isEmpty)
  | _ => none

def rangeL (a : Int) : Nat → List U
  | 0 => []
  | n + 1 => .v (.int a) :: rangeL (a + 1) n
def stepL (a c : Int) : Nat → List U
  | 0 => []
  | n + 1 => .v (.int a) :: stepL (a + c) c n

/-- the turns of a comprehension -/
def lcGo (step : U → Store → R (Option U)) (w : Wk) : Nat → Nat → List U → Store → R (List U)
  | 0, k, acc, s => match wkAt w s k with
    | some none => .ok acc s
    | _ => .bad
  | f + 1, k, acc, s => match wkAt w s k with
    | some none => .ok acc s
    | some (some x) => (match step x s with
      | .ok (some u) s' => lcGo step w f (k + 1) (acc ++ [u]) s'
      | .ok none s' => lcGo step w f (k + 1) acc s'
      | _ => .bad)
    | none => .bad

/-- the names that the top gives: constants -/
abbrev Glo := Nat → Option T

mutual
def ev (G : Glo) (C : Call) : E → Env → Store → R U
  | .bad, _, _ => .bad
  | .var i, ρ, s => (match ρ[i]? with
    | some (some u) => .ok u s
    | _ => .bad)
  | .con t, _, s => .ok (.v t) s
  | .glo g, _, s => (match G g with
    | some t => .ok (.v t) s
    | none => .bad)
  | .bin op a b, ρ, s => (ev G C a ρ s).bind fun u s => (ev G C b ρ s).bind fun w s => lift2 (binT op) s u w
  | .neg a, ρ, s => (ev G C a ρ s).bind fun u s => (match u with
    | .v (.int i) => .ok (.v (.int (-i))) s
    | _ => .bad)
  | .not a, ρ, s => (ev G C a ρ s).bind fun u s => (match asBl u with
    | some b => .ok (.v (.bl !b)) s
    | none => .bad)
  | .and a b, ρ, s => (ev G C a ρ s).bind fun u s => (match asBl u with
    | some true => ev G C b ρ s
    | some false => .ok (.v (.bl false)) s
    | none => .bad)
  | .or a b, ρ, s => (ev G C a ρ s).bind fun u s => (match asBl u with
    | some true => .ok (.v (.bl true)) s
    | some false => ev G C b ρ s
    | none => .bad)
  | .cmp op a b, ρ, s => (ev G C a ρ s).bind fun u s => (ev G C b ρ s).bind fun w s => okO ((cmpU op s u w).map fun b => .v (.bl b)) s
  | .chn o1 o2 a b c, ρ, s => (ev G C a ρ s).bind fun u s => (ev G C b ρ s).bind fun w s => (match cmpU o1 s u w with
    | some true => (ev G C c ρ s).bind fun z s => okO ((cmpU o2 s w z).map fun b => .v (.bl b)) s
    | some false => .ok (.v (.bl false)) s
    | none => .bad)
  | .ite c a b, ρ, s => (ev G C c ρ s).bind fun u s => (match truth s u with
    | some true => ev G C a ρ s
    | some false => ev G C b ρ s
    | none => .bad)
  | .call md f as, ρ, s => (evs G C as ρ s).bind fun us s => callM C md f us s
  | .prm p as, ρ, s => (evs G C as ρ s).bind fun us s => (match optAll (asT s) us with
    | some ts => okO ((primT p ts).map .v) s
    | none => .bad)
  | .len a, ρ, s => (ev G C a ρ s).bind fun u s => okO ((lenU s u).map fun (n : Nat) => .v (.int n)) s
  | .isi a ks, ρ, s => (ev G C a ρ s).bind fun u s => okO ((kdU s u).map fun f => .v (.bl (ks.any f))) s
  | .idx a b, ρ, s => (ev G C a ρ s).bind fun u s => (ev G C b ρ s).bind fun w s => okO (idxU s u w) s
  | .cutL a lo, ρ, s => (ev G C a ρ s).bind fun u s => (ev G C lo ρ s).bind fun w s => (match w with
    | .v (.int i) => lift1 (cutT (some i) none) s u
    | _ => .bad)
  | .cutR a hi, ρ, s => (ev G C a ρ s).bind fun u s => (ev G C hi ρ s).bind fun w s => (match w with
    | .v (.int i) => lift1 (cutT none (some i)) s u
    | _ => .bad)
  | .cutB a lo hi, ρ, s => (ev G C a ρ s).bind fun u s => (ev G C lo ρ s).bind fun w s => (match w with
    | .v (.int i) => (ev G C hi ρ s).bind fun z s => (match z with
      | .v (.int j) => lift1 (cutT (some i) (some j)) s u
      | _ => .bad)
    | _ => .bad)
  | .cutN a, ρ, s => (ev G C a ρ s).bind fun u s => lift1 (cutT none none) s u
  | .tupd es, ρ, s => (evs G C es ρ s).bind fun us s => if us.length ≤ LIM then (match optAll unV us with
    | some ts => .ok (.v (.tup ts)) s
    | none => .ok (.tup us) s) else .bad
  | .lstd es, ρ, s => (evs G C es ρ s).bind fun us s => if us.length ≤ LIM then okO ((optAll unV us).map fun ts => .v (.lst ts)) s else .bad
  | .lstO es, ρ, s => (evs G C es ρ s).bind fun us s => if us.length ≤ LIM then .ok (.ref s.length) (s ++ [.lst us]) else .bad
  | .dctd ks vs, ρ, s => (evs G C vs ρ s).bind fun ws s => if ks.length = ws.length ∧ ks.length ≤ 15 then okO ((optAll unV ws).map fun ts => .v (.dct (merge [] (ks.zip ts)))) s else .bad
  | .dctO ks vs, ρ, s => (evs G C vs ρ s).bind fun ws s => if ks.length = ws.length ∧ ks.length ≤ 15 then .ok (.ref s.length) (s ++ [.dct (merge [] (ks.zip ws))]) else .bad
  | .lc own tg src elt, ρ, s => (evSrc G C src ρ s).bind fun w s => (lcGo (fun x s => (match bindT tg x (wipeE ρ own) with
    | some ρ' => (ev G C elt ρ' s).bind fun u s => .ok (some u) s
    | none => .bad)) w (wkLen w s) 0 [] s).bind fun us s => if us.length ≤ LIM then okO ((optAll unV us).map fun ts => .v (.lst ts)) s else .bad
  | .lcI own tg src c elt, ρ, s => (evSrc G C src ρ s).bind fun w s => (lcGo (fun x s => (match bindT tg x (wipeE ρ own) with
    | some ρ' => (ev G C c ρ' s).bind fun b s => (match truth s b with
      | some true => (ev G C elt ρ' s).bind fun u s => .ok (some u) s
      | some false => .ok none s
      | none => .bad)
    | none => .bad)) w (wkLen w s) 0 [] s).bind fun us s => if us.length ≤ LIM then okO ((optAll unV us).map fun ts => .v (.lst ts)) s else .bad
  | .lcO own tg src elt, ρ, s => (evSrc G C src ρ s).bind fun w s => (lcGo (fun x s => (match bindT tg x (wipeE ρ own) with
    | some ρ' => (ev G C elt ρ' s).bind fun u s => .ok (some u) s
    | none => .bad)) w (wkLen w s) 0 [] s).bind fun us s => if us.length ≤ LIM then .ok (.ref s.length) (s ++ [.lst us]) else .bad
  | .lcIO own tg src c elt, ρ, s => (evSrc G C src ρ s).bind fun w s => (lcGo (fun x s => (match bindT tg x (wipeE ρ own) with
    | some ρ' => (ev G C c ρ' s).bind fun b s => (match truth s b with
      | some true => (ev G C elt ρ' s).bind fun u s => .ok (some u) s
      | some false => .ok none s
      | none => .bad)
    | none => .bad)) w (wkLen w s) 0 [] s).bind fun us s => if us.length ≤ LIM then .ok (.ref s.length) (s ++ [.lst us]) else .bad
  | .meth p a es, ρ, s => (ev G C a ρ s).bind fun u s => if headOk p s u then (evs G C es ρ s).bind fun us s => (match asT s u, optAll (asT s) us with
    | some t, some ts => if metOk p us then okO ((primT p (t :: ts)).map .v) s else .bad
    | _, _ => .bad) else .bad
  | .dctE es, ρ, s => (evs G C es ρ s).bind fun us s => (match pairsU us with
    | some ps => if ps.length ≤ 15 then okO ((optAll unKV ps).map fun ts => .v (.dct (merge [] ts))) s else .bad
    | none => .bad)
  | .dctEO es, ρ, s => (evs G C es ρ s).bind fun us s => (match pairsU us with
    | some ps => if ps.length ≤ 15 then .ok (.ref s.length) (s ++ [.dct (merge [] ps)]) else .bad
    | none => .bad)
  | .revS a, ρ, s => (ev G C a ρ s).bind fun u s => lift1 revT s u
  | .newL a, ρ, s => (ev G C a ρ s).bind fun u s => (match seqU s u with
    | some us => .ok (.ref s.length) (s ++ [.lst us])
    | none => (match keysU s u with
      | some us => .ok (.ref s.length) (s ++ [.lst us])
      | none => .bad))
  | .newD a, ρ, s => (ev G C a ρ s).bind fun u s => (match dctU s u with
    | some kvs => .ok (.ref s.length) (s ++ [.dct kvs])
    | none => (match pairsV u with
      | some ps => .ok (.ref s.length) (s ++ [.dct ((merge [] ps).map fun p => (p.1, .v p.2))])
      | none => .bad))
  | .app a b, ρ, s => (ev G C a ρ s).bind fun u s => (match lstAt s u with
    | some _ => (ev G C b ρ s).bind fun w s => (match lstAt s u with
      | some (i, us) => if us.length < LIM then .ok (.v .non) (s.set i (.lst (us ++ [w]))) else .bad
      | none => .bad)
    | none => .bad)
  | .inR neg a b, ρ, s => (ev G C a ρ s).bind fun u s => (ev G C b ρ s).bind fun w s => (match u, w with
    | .v (.int i), .v (.int n) => .ok (.v (.bl (decide (0 ≤ i ∧ i < n) != neg))) s
    | _, _ => .bad)
  | .pop0 _, _, _ => .bad
  | .pop1 _ _, _, _ => .bad
  | .ins _ _ _, _, _ => .bad
def evs (G : Glo) (C : Call) : Es → Env → Store → R (List U)
  | .nil, _, s => .ok [] s
  | .cons e es, ρ, s => (ev G C e ρ s).bind fun u s => (evs G C es ρ s).bind fun us s => .ok (u :: us) s
def evSrc (G : Glo) (C : Call) : Src → Env → Store → R Wk
  | .it e, ρ, s => (ev G C e ρ s).bind fun u s => okO (wkU s u) s
  | .rng1 a, ρ, s => (ev G C a ρ s).bind fun u s => (match u with
    | .v (.int j) => if inRng j then .ok (.xs (rangeL 0 j.toNat)) s else .bad
    | _ => .bad)
  | .rng2 a b, ρ, s => (ev G C a ρ s).bind fun u s => (ev G C b ρ s).bind fun w s => (match u, w with
    | .v (.int i), .v (.int j) => if inRng i && inRng j then .ok (.xs (rangeL i (j - i).toNat)) s else .bad
    | _, _ => .bad)
  | .rng3 a b c, ρ, s => (ev G C a ρ s).bind fun u s => (ev G C b ρ s).bind fun w s => (ev G C c ρ s).bind fun z s => (match u, w, z with
    | .v (.int i), .v (.int j), .v (.int c) => if inRng i && inRng j && decide (c = -1) then .ok (.xs (stepL i (-1) (i - j).toNat)) s else .bad
    | _, _, _ => .bad)
  | .items e, ρ, s => (ev G C e ρ s).bind fun u s => (match u with
    | .v (.dct kvs) => .ok (.xs (kvs.map fun p => .v (.tup [kyT p.1, p.2]))) s
    | _ => .bad)
  | .values e, ρ, s => (ev G C e ρ s).bind fun u s => (match u with
    | .v (.dct kvs) => .ok (.xs (kvs.map fun p => .v p.2)) s
    | _ => .bad)
  | .enm e, ρ, s => (ev G C e ρ s).bind fun u s => (match u with
    | .v (.lst ts) => .ok (.xs ((ts.zipIdx).map fun p => .v (.tup [.int p.2, p.1]))) s
    | _ => .bad)
  | .rev e, ρ, s => (ev G C e ρ s).bind fun u s => (match u with
    | .v (.lst ts) => .ok (.xs (ts.reverse.map .v)) s
    | _ => .bad)
end

/-! ### statements -/
inductive RS where
  | nx (ρ : Env) (s : Store)
  | rt (u : U) (s : Store)
  | bk (ρ : Env) (s : Store)
  | ct (ρ : Env) (s : Store)
  | exc (x : Ex) (ρ : Env) (s : Store)
  | bad
def R.toS (r : R U) (ρ : Env) (f : U → Store → RS) : RS := match r with
  | .ok u s => f u s
  | .exc x s => .exc x ρ s
  | .bad => .bad

def forGo (step : U → Env → Store → RS) (w : Wk) : Nat → Nat → Env → Store → RS
  | 0, k, ρ, s => match wkAt w s k with
    | some none => .nx ρ s
    | _ => .bad
  | f + 1, k, ρ, s => match wkAt w s k with
    | some none => .nx ρ s
    | some (some x) => (match step x ρ s with
      | .nx ρ' s' => forGo step w f (k + 1) ρ' s'
      | .ct ρ' s' => forGo step w f (k + 1) ρ' s'
      | .bk ρ' s' => .nx ρ' s'
      | r => r)
    | none => .bad
def whGo (c : Env → Store → R U) (b : Env → Store → RS) : Nat → Env → Store → RS
  | 0, _, _ => .bad
  | n + 1, ρ, s => (c ρ s).toS ρ fun u s => match truth s u with
    | some true => (match b ρ s with
      | .nx ρ' s' => whGo c b n ρ' s'
      | .ct ρ' s' => whGo c b n ρ' s'
      | .bk ρ' s' => .nx ρ' s'
      | r => r)
    | some false => .nx ρ s
    | none => .bad
/-- o[k] = v -/
def subU (s : Store) (o k w : U) : Option Store := match o, k with
  | .ref i, .v k => (match s[i]?, k with
    | some (.lst us), .int j => if 0 ≤ j then (if j < us.length then some (s.set i (.lst (us.set j.toNat w))) else none)
      else (if -(us.length : Int) ≤ j then some (s.set i (.lst (us.set (j + us.length).toNat w))) else none)
    | some (.dct kvs), k => (match tKy k with
      | some k => if kvs.length < LIM then some (s.set i (.dct (kput k w kvs))) else none
      | none => none)
    | _, _ => none)
  | _, _ => none

mutual
def exS (G : Glo) (C : Call) (W : Nat) : S → Env → Store → RS
  | .never, _, _ => .bad
  | .pass, ρ, s => .nx ρ s
  | .brk, ρ, s => .bk ρ s
  | .cnt, ρ, s => .ct ρ s
  | .ex e, ρ, s => (ev G C e ρ s).toS ρ fun _ s => .nx ρ s
  | .ret e, ρ, s => (ev G C e ρ s).toS ρ fun u s => .rt u s
  | .retN, _, s => .rt (.v .non) s
  | .set i e, ρ, s => (ev G C e ρ s).toS ρ fun u s => .nx (ρ.set i (some u)) s
  | .setT is e, ρ, s => (ev G C e ρ s).toS ρ fun u s => (match bindT (.many is) u ρ with
    | some ρ' => .nx ρ' s
    | none => .bad)
  | .par is es, ρ, s => (match evs G C es ρ s with
    | .ok us s => (match bindMany ρ is us with
      | some ρ' => .nx ρ' s
      | none => .bad)
    | .exc x s => .exc x ρ s
    | .bad => .bad)
  | .aug i op e, ρ, s => (match ρ[i]? with
    | some (some u) => (ev G C e ρ s).toS ρ fun w s => (match op, u, w with
      | .add, .v (.int a), .v (.int b) => .nx (ρ.set i (some (.v (.int (a + b))))) s
      | .sub, .v (.int a), .v (.int b) => .nx (ρ.set i (some (.v (.int (a - b))))) s
      | .add, .v (.str a), .v (.str b) => if a.length + b.length ≤ LIM then .nx (ρ.set i (some (.v (.str (a ++ b))))) s else .bad
      | _, _, _ => .bad)
    | _ => .bad)
  | .sub o k e, ρ, s => (ev G C e ρ s).toS ρ fun w s => (ev G C o ρ s).toS ρ fun u s => (ev G C k ρ s).toS ρ fun k s => (match subU s u k w with
    | some s' => .nx ρ s'
    | none => .bad)
  | .if c a b, ρ, s => (ev G C c ρ s).toS ρ fun u s => (match truth s u with
    | some true => exB G C W a ρ s
    | some false => exB G C W b ρ s
    | none => .bad)
  | .for tg src b, ρ, s => (match evSrc G C src ρ s with
    | .ok w s => forGo (fun x ρ s => (match bindT tg x ρ with
      | some ρ' => exB G C W b ρ' s
      | none => .bad)) w (wkLen w s) 0 ρ s
    | .exc x s => .exc x ρ s
    | .bad => .bad)
  | .whl c b, ρ, s => whGo (fun ρ s => ev G C c ρ s) (fun ρ s => exB G C W b ρ s) W ρ s
def exB (G : Glo) (C : Call) (W : Nat) : B → Env → Store → RS
  | .nil, ρ, s => .nx ρ s
  | .cons st b, ρ, s => (match exS G C W st ρ s with
    | .nx ρ' s' => exB G C W b ρ' s'
    | r => r)
end

/-! ### defs -/
structure Fn where
  n : Nat
  slots : Nat
  dfl : List T
  body : B
abbrev Tbl := Nat → Option Fn

def fill (F : Fn) (us : List U) : List U := us ++ (F.dfl.drop (F.dfl.length - (F.n - us.length))).map .v
def startE (F : Fn) (us : List U) : Env := us.map some ++ List.replicate (F.slots - F.n) none
def callF (G : Glo) (D : Tbl) (W : Nat) : Nat → Call
  | 0, _, _, _ => .bad
  | n + 1, f, us, s => match D f with
    | some F => if (fill F us).length = F.n then (match exB G (callF G D W n) W F.body (startE F (fill F us)) s with
      | .nx _ s => .ok (.v .non) s
      | .rt u s => .ok u s
      | .exc x _ s => .exc x s
      | _ => .bad) else .bad
    | none => .bad
end Cab

set_option Elab.async false
set_option linter.all false
set_option maxRecDepth 100000
set_option maxHeartbeats 4000000
namespace Cab
open PySem PySem.Spec PyProof.Rows L2
abbrev St := L2.St
/-! ### what stands for what -/
def mkS (x : List Nat) : Str := ⟨x.toArray⟩
def kyK : Ky → Key
  | .i n => .inl n
  | .s x => .inr (mkS x)
def kyB : Ky → Prop
  | .i _ => True
  | .s x => x.length ≤ LIM
mutual
def Rel (I : Hp) : T → V → Prop
  | .non, v => v = .non
  | .bl b, v => v = .bl b
  | .int i, v => v = .int i
  | .str x, v => v = .str (mkS x) ∧ x.length ≤ LIM
  | .lst xs, v => ∃ a vs, v = .ref a ∧ I a = some (.lst vs) ∧ RelL I xs vs
  | .tup xs, v => ∃ a vs, v = .ref a ∧ I a = some (.tup vs) ∧ RelL I xs vs
  | .dct kvs, v => ∃ a ws, v = .ref a ∧ I a = some (.dK ws) ∧ RelK I kvs ws
def RelL (I : Hp) : List T → List V → Prop
  | [], vs => vs = []
  | x :: xs, vs => ∃ v r, vs = v :: r ∧ Rel I x v ∧ RelL I xs r
def RelK (I : Hp) : List (Ky × T) → List (Key × V) → Prop
  | [], ws => ws = []
  | p :: r, ws => ∃ v rs, ws = (kyK p.1, v) :: rs ∧ RelP I p v ∧ RelK I r rs
def RelP (I : Hp) : Ky × T → V → Prop
  | (k, t), v => kyB k ∧ Rel I t v
end
mutual
def RelU (I : Hp) (m : List Addr) : U → V → Prop
  | .v t, v => Rel I t v
  | .ref i, v => ∃ a, m[i]? = some a ∧ v = .ref a
  | .tup us, v => ∃ a vs, v = .ref a ∧ I a = some (.tup vs) ∧ RelUs I m us vs
def RelUs (I : Hp) (m : List Addr) : List U → List V → Prop
  | [], vs => vs = []
  | x :: xs, vs => ∃ v r, vs = v :: r ∧ RelU I m x v ∧ RelUs I m xs r
end
def RelUK (I : Hp) (m : List Addr) : List (Ky × U) → List (Key × V) → Prop
  | [], ws => ws = []
  | p :: r, ws => ∃ v rs, ws = (kyK p.1, v) :: rs ∧ (kyB p.1 ∧ RelU I m p.2 v) ∧ RelUK I m r rs
def RelUF (I : Hp) (m : List Addr) : List (List Nat × U) → List (Str × V) → Prop
  | [], ws => ws = []
  | p :: r, ws => ∃ v rs, ws = (mkS p.1, v) :: rs ∧ RelU I m p.2 v ∧ RelUF I m r rs
def RelO (cl : Nat → Addr) (I : Hp) (m : List Addr) : O → HO → Prop
  | .lst us, ho => ∃ vs, ho = .lst vs ∧ RelUs I m us vs
  | .dct kvs, ho => ∃ ws, ho = .dK ws ∧ RelUK I m kvs ws
  | .ins c fs, ho => ∃ dx gs, ho = .ins (cl c) dx gs ∧ RelUF I m fs gs
/-- the store, as it stands in the heap -/
structure Sim (cl : Nat → Addr) (I : Hp) (m : List Addr) (s : Store) (H : Hp) : Prop where
  sub : ∀ a o, I a = some o → Rd H a o
  len : m.length = s.length
  obj : ∀ (i : Nat) a o, m[i]? = some a → s[i]? = some o → ∃ ho, H a = some ho ∧ RelO cl I m o ho
  sep : ∀ a, a ∈ m → I a = none
  nd : m.Nodup
  nf : ∀ a o u, I a ≠ some (.frz o u)
/-- what every heap keeps -/
structure HF (H : Hp) : Prop where
  l : ∀ a xs, Rd H a (.lst xs) → xs.length ≤ sizeLine
  t : ∀ a xs, Rd H a (.tup xs) → xs.length ≤ sizeLine
  k : ∀ a kvs, Rd H a (.dK kvs) → kvs.length ≤ sizeLine ∧ (kvs.map (·.1)).Nodup
theorem nd_of_kv : ∀ {kvs : List (Key × V)} {vs : List (Key × Value)}, KV kvs vs → (vs.map (·.1)).Nodup → (kvs.map (·.1)).Nodup := fun r h => by rw [r.keys]; exact h
theorem inv_hf {X : Cx} {pins : List (Addr × Obj)} {σ : St} {H : Hp} {s : Shared} (J : Inv X pins σ H s) : HF H where
  l := fun a xs r => (r.ok J.hok).1
  t := fun a xs r => (r.ok J.hok).1
  k := fun a kvs r => by
    obtain ⟨z, _, vs, kv, d⟩ := r.ok J.hok
    obtain ⟨o, es, ep, _, _, _, _, _, nd⟩ := d
    exact ⟨z, nd_of_kv kv nd⟩
/-! ### a world grows -/
structure Ext (I : Hp) (m : List Addr) (H I' : Hp) (m' : List Addr) (H' : Hp) : Prop where
  i : ∀ a o, I a = some o → I' a = some o
  mm : ∃ t, m' = m ++ t
  fr : ∀ a, H a ≠ none → a ∉ m → H' a = H a
  th : ∀ a, H a ≠ none → H' a ≠ none
  ni : ∀ a, I' a ≠ none → I a ≠ none ∨ H a = none
  nm : ∀ a, a ∈ m' → a ∈ m ∨ H a = none
theorem Ext.refl {I : Hp} {m : List Addr} {H : Hp} : Ext I m H I m H :=
  ⟨fun _ _ h => h, ⟨[], by simp⟩, fun _ _ _ => rfl, fun _ h => h, fun _ h => .inl h, fun _ h => .inl h⟩
theorem Ext.trans {I I1 I2 : Hp} {m m1 m2 : List Addr} {H H1 H2 : Hp} (a : Ext I m H I1 m1 H1) (b : Ext I1 m1 H1 I2 m2 H2) : Ext I m H I2 m2 H2 where
  i := fun x o h => b.i x o (a.i x o h)
  mm := by
    obtain ⟨t, rfl⟩ := a.mm
    obtain ⟨u, rfl⟩ := b.mm
    exact ⟨t ++ u, by simp⟩
  fr := fun x h hm => by
    have h1 := a.fr x h hm
    have hm1 : x ∉ m1 := fun z => (a.nm x z).elim hm h
    rw [b.fr x (by rw [h1]; exact h) hm1, h1]
  th := fun x h => b.th x (a.th x h)
  ni := fun x h => by
    rcases b.ni x h with z | z
    · exact a.ni x z
    · refine .inr ?_
      cases e : H x with
      | none => rfl
      | some o => exact absurd z (a.th x (by rw [e]; simp))
  nm := fun x h => by
    rcases b.nm x h with z | z
    · exact a.nm x z
    · refine .inr ?_
      cases e : H x with
      | none => rfl
      | some o => exact absurd z (a.th x (by rw [e]; simp))
section
variable {I I' : Hp} (hi : ∀ a o, I a = some o → I' a = some o)
include hi
mutual
theorem Rel.mono : ∀ {t : T} {v : V}, Rel I t v → Rel I' t v
  | .non, v, h => h
  | .bl b, v, h => h
  | .int i, v, h => h
  | .str x, v, h => h
  | .lst xs, v, h => by
    obtain ⟨a, vs, e, h1, h2⟩ := h
    exact ⟨a, vs, e, hi _ _ h1, RelL.mono h2⟩
  | .tup xs, v, h => by
    obtain ⟨a, vs, e, h1, h2⟩ := h
    exact ⟨a, vs, e, hi _ _ h1, RelL.mono h2⟩
  | .dct kvs, v, h => by
    obtain ⟨a, vs, e, h1, h2⟩ := h
    exact ⟨a, vs, e, hi _ _ h1, RelK.mono h2⟩
theorem RelL.mono : ∀ {t : List T} {v : List V}, RelL I t v → RelL I' t v
  | [], _, h => h
  | _ :: _, _, h => by
    obtain ⟨v, r, e, h1, h2⟩ := h
    exact ⟨v, r, e, Rel.mono h1, RelL.mono h2⟩
theorem RelK.mono : ∀ {t : List (Ky × T)} {v : List (Key × V)}, RelK I t v → RelK I' t v
  | [], _, h => h
  | p :: _, _, h => by
    obtain ⟨v, r, e, h1, h2⟩ := h
    exact ⟨v, r, e, RelP.mono h1, RelK.mono h2⟩
theorem RelP.mono : ∀ {p : Ky × T} {v : V}, RelP I p v → RelP I' p v
  | (_, _), _, h => ⟨h.1, Rel.mono h.2⟩
end
end
theorem get_app {α : Type} {m t : List α} {i : Nat} {a : α} (h : m[i]? = some a) : (m ++ t)[i]? = some a := by
  rw [List.getElem?_append_left (List.getElem?_eq_some_iff.mp h).1]
  exact h
section
variable {I I' : Hp} {m m' : List Addr} (hi : ∀ a o, I a = some o → I' a = some o) (hm : ∃ t, m' = m ++ t)
include hi hm
mutual
theorem RelU.mono : ∀ {t : U} {v : V}, RelU I m t v → RelU I' m' t v
  | .v t, v, h => Rel.mono hi (show Rel I t v from h)
  | .ref i, v, h => by
    obtain ⟨a, h1, e⟩ := h
    obtain ⟨t, rfl⟩ := hm
    exact ⟨a, get_app h1, e⟩
  | .tup us, v, h => by
    obtain ⟨a, vs, e, h1, h2⟩ := h
    exact ⟨a, vs, e, hi _ _ h1, RelUs.mono h2⟩
theorem RelUs.mono : ∀ {t : List U} {v : List V}, RelUs I m t v → RelUs I' m' t v
  | [], _, h => h
  | _ :: _, _, h => by
    obtain ⟨v, r, e, h1, h2⟩ := h
    exact ⟨v, r, e, RelU.mono h1, RelUs.mono h2⟩
end
theorem RelUK.mono : ∀ {t : List (Ky × U)} {v : List (Key × V)}, RelUK I m t v → RelUK I' m' t v
  | [], _, h => h
  | p :: _, _, h => by
    obtain ⟨v, r, e, h1, h2⟩ := h
    exact ⟨v, r, e, ⟨h1.1, RelU.mono hi hm h1.2⟩, RelUK.mono h2⟩
theorem RelUF.mono : ∀ {t : List (List Nat × U)} {v : List (Str × V)}, RelUF I m t v → RelUF I' m' t v
  | [], _, h => h
  | p :: _, _, h => by
    obtain ⟨v, r, e, h1, h2⟩ := h
    exact ⟨v, r, e, RelU.mono hi hm h1, RelUF.mono h2⟩
theorem RelO.mono {cl : Nat → Addr} : ∀ {o : O} {ho : HO}, RelO cl I m o ho → RelO cl I' m' o ho
  | .lst us, ho, h => by
    obtain ⟨vs, e, h1⟩ := h
    exact ⟨vs, e, RelUs.mono hi hm h1⟩
  | .dct us, ho, h => by
    obtain ⟨vs, e, h1⟩ := h
    exact ⟨vs, e, RelUK.mono hi hm h1⟩
  | .ins c fs, ho, h => by
    obtain ⟨dx, gs, e, h1⟩ := h
    exact ⟨dx, gs, e, RelUF.mono hi hm h1⟩
end
/-- the slots -/
def RelS (I : Hp) (m : List Addr) (ρ : Env) (σ : St) : Prop := ρ.length = σ.length ∧ ∀ (i : Nat) u, ρ[i]? = some (some u) → ∃ v, σ[i]? = some (some v) ∧ RelU I m u v
theorem RelS.mono {I I' : Hp} {m m' : List Addr} {H H' : Hp} {ρ : Env} {σ : St} (e : Ext I m H I' m' H') (h : RelS I m ρ σ) : RelS I' m' ρ σ :=
  ⟨h.1, fun i u hu => by
    obtain ⟨v, h1, h2⟩ := h.2 i u hu
    exact ⟨v, h1, RelU.mono e.i e.mm h2⟩⟩
theorem RelS.set {I : Hp} {m : List Addr} {ρ : Env} {σ : St} {i : Nat} {u : U} {v : V} (h : RelS I m ρ σ) (r : RelU I m u v) : RelS I m (ρ.set i (some u)) (σ.set i (some v)) := by
  refine ⟨by rw [List.length_set, List.length_set, h.1], fun j w hw => ?_⟩
  by_cases e : i = j
  · subst e
    by_cases hl : i < ρ.length
    · rw [List.getElem?_set_self hl] at hw
      cases hw
      exact ⟨v, List.getElem?_set_self (by rw [← h.1]; exact hl), r⟩
    · rw [List.getElem?_eq_none (by rw [List.length_set]; omega)] at hw
      cases hw
  · rw [List.getElem?_set_ne e] at hw
    obtain ⟨z, h1, h2⟩ := h.2 j w hw
    exact ⟨z, by rw [List.getElem?_set_ne e]; exact h1, h2⟩
theorem RelS.wipe1 {I : Hp} {m : List Addr} {ρ : Env} {σ : St} {i : Nat} (h : RelS I m ρ σ) : RelS I m (ρ.set i none) (σ.set i none) := by
  refine ⟨by rw [List.length_set, List.length_set, h.1], fun j w hw => ?_⟩
  by_cases e : i = j
  · subst e
    by_cases hl : i < ρ.length
    · rw [List.getElem?_set_self hl] at hw
      cases hw
    · rw [List.getElem?_eq_none (by rw [List.length_set]; omega)] at hw
      cases hw
  · rw [List.getElem?_set_ne e] at hw
    obtain ⟨z, h1, h2⟩ := h.2 j w hw
    exact ⟨z, by rw [List.getElem?_set_ne e]; exact h1, h2⟩
theorem RelS.wipe {I : Hp} {m : List Addr} {ρ : Env} {σ : St} (h : RelS I m ρ σ) : ∀ own : List Nat, RelS I m (wipeE ρ own) (wipe σ own)
  | [] => h
  | i :: is => (RelS.wipe h is).wipe1
/-- an exception -/
def ExRel (cl : Nat → Addr) (I : Hp) (x : Ex) (c : Value) (d : Option Addr) (H : Hp) : Prop := c = .ref (cl x.cls) ∧
  match x.fs with
  | [] => d = none
  | fs => ∃ dx gs, d = some dx ∧ H dx = some (.xd gs) ∧ ∀ f t, sget f fs = some t → ∃ v, gs.lookup (mkS f) = some v ∧ Rel I t v
/-! ### outcomes -/
section
variable (cl : Nat → Addr)
def OutR {α β : Type} (rel : Hp → List Addr → α → β → Prop) (W : WX) (σ : St) (I : Hp) (m : List Addr) (H : Hp) (r : R α) (K : α → Store → Hp → List Addr → Hp → β → Prop) : Prop := match r with
  | .ok u s' => ∀ I' m' H' x, HF H' → Ext I m H I' m' H' → Sim cl I' m' s' H' → rel I' m' u x → K u s' I' m' H' x
  | .exc x s' => ∀ I' m' H' c d, HF H' → Ext I m H I' m' H' → Sim cl I' m' s' H' → ExRel cl I' x c d H' → W c d σ H'
  | .bad => False
variable {cl} {α β γ δ : Type} {rel : Hp → List Addr → α → β → Prop} {rel' : Hp → List Addr → γ → δ → Prop} {W : WX} {σ : St} {I I1 : Hp} {m m1 : List Addr} {H H1 : Hp}
theorem OutR.mono {r : R α} {K : α → Store → Hp → List Addr → Hp → β → Prop} (h : OutR cl rel W σ I m H r K) (e : Ext I m H I1 m1 H1) : OutR cl rel W σ I1 m1 H1 r K := by
  cases r with
  | ok u s => exact fun I' m' H' x hf e' => h I' m' H' x hf (e.trans e')
  | exc x s => exact fun I' m' H' c d hf e' => h I' m' H' c d hf (e.trans e')
  | bad => exact h
theorem OutR.imp {r : R α} {K K' : α → Store → Hp → List Addr → Hp → β → Prop} (h : OutR cl rel W σ I m H r K)
    (k : ∀ u s' I' m' H' x, HF H' → Ext I m H I' m' H' → Sim cl I' m' s' H' → rel I' m' u x → K u s' I' m' H' x → K' u s' I' m' H' x) : OutR cl rel W σ I m H r K' := by
  cases r with
  | ok u s => exact fun I' m' H' x hf e' si re => k u s I' m' H' x hf e' si re (h I' m' H' x hf e' si re)
  | exc x s => exact h
  | bad => exact h
/-- the first part of a run that goes on -/
theorem OutR.first {r : R α} {f : α → Store → R γ} {K : γ → Store → Hp → List Addr → Hp → δ → Prop} {K' : α → Store → Hp → List Addr → Hp → β → Prop} (h : OutR cl rel' W σ I m H (r.bind f) K)
    (k : ∀ u s' I' m' H' x, HF H' → Ext I m H I' m' H' → Sim cl I' m' s' H' → rel I' m' u x → OutR cl rel' W σ I' m' H' (f u s') K → K' u s' I' m' H' x) : OutR cl rel W σ I m H r K' := by
  cases r with
  | ok u s => exact fun I' m' H' x hf e' si re => k u s I' m' H' x hf e' si re (OutR.mono h e')
  | exc x s => exact h
  | bad => exact h
end
/-! ### what the parts of a text denote -/
section
variable (cl : Nat → Addr) (G : Glo) (C : Call) (W : WX)
/-- from a run, what must hold -/
def denR {β : Type} (run : Env → Store → R U) (Kf : (β → Hp → Prop) → U → Store → Hp → List Addr → Hp → V → Prop) : St → Hp → (β → Hp → Prop) → Prop := fun σ H Q =>
  ∃ I m ρ s, HF H ∧ Sim cl I m s H ∧ RelS I m ρ σ ∧ OutR cl RelU W σ I m H (run ρ s) (Kf Q)
def den (e : E) : TE := denR cl W (ev G C e) fun Q _ _ _ _ H x => Q x H
def denT (e : E) : TT := denR cl W (ev G C e) fun Q u s _ _ H _ => ∃ b, truth s u = some b ∧ Q b H
def denA (es : Es) : TA := fun σ H Q => ∃ I m ρ s, HF H ∧ Sim cl I m s H ∧ RelS I m ρ σ ∧ OutR cl RelUs W σ I m H (evs G C es ρ s) fun _ _ _ _ H xs => Q xs H
end
/-! ### rules weakened -/
section
variable {X : Cx}
theorem pe_w {e : Expr} {t t' : TE} (h : PE X e t) (k : ∀ σ H Q, t' σ H Q → t σ H fun v H' => HF H' → Q v H') : PE X e t' :=
  ⟨fun pins s σ H Q J q => thn (h.run pins s σ H _ J (k σ H Q q)) fun _ _ ⟨v, H', J', r, z⟩ => ⟨v, H', J', r, z (inv_hf J')⟩⟩
theorem pt_w {e : Expr} {t t' : TT} (h : PT X e t) (k : ∀ σ H Q, t' σ H Q → t σ H fun v H' => HF H' → Q v H') : PT X e t' :=
  ⟨fun pins s σ H Q J q => thn (h.run pins s σ H _ J (k σ H Q q)) fun _ _ ⟨H', J', z⟩ => ⟨H', J', z (inv_hf J')⟩⟩
theorem pa_w {e : List Expr} {t t' : TA} (h : PA X e t) (k : ∀ σ H Q, t' σ H Q → t σ H fun v H' => HF H' → Q v H') : PA X e t' :=
  ⟨fun pos pins s σ H Q J q => thn (h.run pos pins s σ H _ J (k σ H Q q)) fun _ _ ⟨v, H', J', r, z⟩ => ⟨v, H', J', r, z (inv_hf J')⟩⟩
end
end Cab

set_option Elab.async false
set_option linter.all false
set_option maxRecDepth 100000
set_option maxHeartbeats 4000000
namespace Cab
open PySem PySem.Spec PyProof.Rows L2
theorem line_LIM : (sizeLine : Nat) = LIM := sizeLine_eq
theorem mkS_len (x : List Nat) : (mkS x).length = x.length := by
  show x.toArray.size = x.length
  simp
theorem mkS_app (x y : List Nat) : mkS x ++ mkS y = mkS (x ++ y) := by
  show (⟨x.toArray ++ y.toArray⟩ : Str) = ⟨(x ++ y).toArray⟩
  simp
theorem mkS_toList (x : List Nat) : (mkS x).cps.toList = x := by simp [mkS]
theorem mkS_inj {x y : List Nat} (h : mkS x = mkS y) : x = y := by
  have h1 := congrArg (fun z : Str => z.cps.toList) h
  simpa [mkS] using h1
theorem mkS_of (z : Str) : mkS z.cps.toList = z := by
  cases z
  simp [mkS]
/-- what a thing's outside reads as -/
def RdT (I H : Hp) : T → V → Prop
  | .lst xs, v => ∃ a vs, v = .ref a ∧ Rd H a (.lst vs) ∧ RelL I xs vs
  | .tup xs, v => ∃ a vs, v = .ref a ∧ I a = some (.tup vs) ∧ Rd H a (.tup vs) ∧ RelL I xs vs
  | .dct kvs, v => ∃ a ws, v = .ref a ∧ Rd H a (.dK ws) ∧ RelK I kvs ws
  | .non, v => v = .non
  | .bl b, v => v = .bl b
  | .int i, v => v = .int i
  | .str x, v => v = .str (mkS x) ∧ x.length ≤ LIM
theorem relL_of {I : Hp} {m : List Addr} : ∀ {us : List U} {ts : List T} {vs : List V}, optAll unV us = some ts → RelUs I m us vs → RelL I ts vs
  | [], _, _, h, r => by
    cases h
    exact r
  | u :: us, ts, vs, h, r => by
    obtain ⟨v, rs, e, r1, r2⟩ := r
    unfold optAll at h
    cases u with
    | v t =>
      simp only [unV] at h
      cases e2 : optAll unV us with
      | none =>
        rw [e2] at h
        cases h
      | some ts' =>
        rw [e2] at h
        cases h
        exact ⟨v, rs, e, r1, relL_of e2 r2⟩
    | ref i => cases h
    | tup w => cases h
theorem relK_of {I : Hp} {m : List Addr} : ∀ {us : List (Ky × U)} {ts : List (Ky × T)} {vs : List (Key × V)}, optAll unKV us = some ts → RelUK I m us vs → RelK I ts vs
  | [], _, _, h, r => by
    cases h
    exact r
  | (k, u) :: us, ts, vs, h, r => by
    obtain ⟨v, rs, e, r1, r2⟩ := r
    unfold optAll at h
    cases u with
    | v t =>
      simp only [unKV] at h
      cases e2 : optAll unKV us with
      | none =>
        rw [e2] at h
        cases h
      | some ts' =>
        rw [e2] at h
        cases h
        exact ⟨v, rs, e, r1, relK_of e2 r2⟩
    | ref i => cases h
    | tup w => cases h
theorem relUs_v {I : Hp} {m : List Addr} : ∀ {ts : List T} {vs : List V}, RelL I ts vs → RelUs I m (ts.map .v) vs
  | [], _, h => h
  | _ :: _, _, h => by
    obtain ⟨v, r, e, h1, h2⟩ := h
    exact ⟨v, r, e, h1, relUs_v h2⟩
theorem relUK_v {I : Hp} {m : List Addr} : ∀ {ts : List (Ky × T)} {vs : List (Key × V)}, RelK I ts vs → RelUK I m (ts.map fun p => (p.1, U.v p.2)) vs
  | [], _, h => h
  | (_, _) :: _, _, h => by
    obtain ⟨v, r, e, h1, h2⟩ := h
    exact ⟨v, r, e, h1, relUK_v h2⟩
section
variable {cl : Nat → Addr} {I I' : Hp} {m m' : List Addr} {s s' : Store} {H H' : Hp}
theorem rdT_v (si : Sim cl I m s H) {t : T} {v : V} (r : Rel I t v) : RdT I H t v := by
  cases t with
  | lst xs =>
    obtain ⟨a, vs, e, h1, h2⟩ := r
    exact ⟨a, vs, e, si.sub _ _ h1, h2⟩
  | tup xs =>
    obtain ⟨a, vs, e, h1, h2⟩ := r
    exact ⟨a, vs, e, h1, si.sub _ _ h1, h2⟩
  | dct xs =>
    obtain ⟨a, vs, e, h1, h2⟩ := r
    exact ⟨a, vs, e, si.sub _ _ h1, h2⟩
  | non => exact r
  | bl b => exact r
  | int i => exact r
  | str x => exact r
theorem Sim.at (si : Sim cl I m s H) {i : Nat} {v : V} (r : RelU I m (.ref i) v) {o : O} (h : s[i]? = some o) : ∃ a ho, v = .ref a ∧ m[i]? = some a ∧ H a = some ho ∧ RelO cl I m o ho := by
  obtain ⟨a, h1, e⟩ := r
  obtain ⟨ho, h2, h3⟩ := si.obj i a o h1 h
  exact ⟨a, ho, e, h1, h2, h3⟩
theorem asT_rd (si : Sim cl I m s H) {u : U} {t : T} {v : V} (r : RelU I m u v) (h : asT s u = some t) : RdT I H t v := by
  cases u with
  | v t' =>
    cases h
    exact rdT_v si r
  | tup us =>
    simp only [asT, Option.map_eq_some_iff] at h
    obtain ⟨ts, h, rfl⟩ := h
    obtain ⟨a, vs, e, h1, h2⟩ := r
    exact ⟨a, vs, e, h1, si.sub _ _ h1, relL_of h h2⟩
  | ref i =>
    simp only [asT] at h
    cases e : s[i]? with
    | none =>
      rw [e] at h
      cases h
    | some o =>
      rw [e] at h
      obtain ⟨a, ho, e1, e2, e3, e4⟩ := si.at r e
      cases o with
      | lst us =>
        simp only [Option.map_eq_some_iff] at h
        obtain ⟨ts, h, rfl⟩ := h
        obtain ⟨vs, rfl, h5⟩ := e4
        exact ⟨a, vs, e1, .inl e3, relL_of h h5⟩
      | dct us =>
        simp only [Option.map_eq_some_iff] at h
        obtain ⟨ts, h, rfl⟩ := h
        obtain ⟨vs, rfl, h5⟩ := e4
        exact ⟨a, vs, e1, .inl e3, relK_of h h5⟩
      | ins c fs => cases h
/-! ### ends: a value without a new thing, a new thing -/
/-- what a new thing is -/
def Cont (I : Hp) : T → HO → Prop
  | .lst xs, ho => ∃ vs, ho = .lst vs ∧ RelL I xs vs
  | .tup xs, ho => ∃ vs, ho = .tup vs ∧ RelL I xs vs
  | .dct xs, ho => ∃ vs, ho = .dK vs ∧ RelK I xs vs
  | _, _ => False
theorem cont_nf {I : Hp} {w : T} {ho : HO} (h : Cont I w ho) : ∀ o u, ho ≠ .frz o u := by
  intro o u e
  subst e
  cases w <;> first | exact h | (obtain ⟨_, z, _⟩ := h; cases z)
def Fin (I H : Hp) (w : T) (Q : VK) : Prop := (∀ z, Rel I w z → Q z H) ∧ ∀ p ho, H p = none → Cont I w ho → Q (.ref p) (upd H p ho)
theorem upd_none {H : Hp} {p a : Addr} {ho : HO} (hp : H p = none) (h : H a ≠ none) : upd H p ho a = H a := upd_ne fun e => h (e ▸ hp)
theorem rd_upd {p a : Addr} {ho o : HO} (hp : H p = none) (h : Rd H a o) : Rd (upd H p ho) a o := by
  rcases h with h | ⟨o', h⟩
  · exact .inl (by rw [upd_none hp (by rw [h]; simp)]; exact h)
  · exact .inr ⟨o', by rw [upd_none hp (by rw [h]; simp)]; exact h⟩
theorem sub_none (si : Sim cl I m s H) {p : Addr} (hp : H p = none) : I p = none := by
  cases e : I p with
  | none => rfl
  | some o => rcases si.sub p o e with h | ⟨o', h⟩ <;> (rw [hp] at h; cases h)
theorem mem_there (si : Sim cl I m s H) {a : Addr} (h : a ∈ m) : H a ≠ none := by
  obtain ⟨i, hi, rfl⟩ := List.mem_iff_getElem.mp h
  have hs : i < s.length := by rw [← si.len]; exact hi
  obtain ⟨ho, h1, _⟩ := si.obj i m[i] s[i] (List.getElem?_eq_getElem hi) (List.getElem?_eq_getElem hs)
  rw [h1]
  simp
theorem mem_free (si : Sim cl I m s H) {p : Addr} (hp : H p = none) : p ∉ m := fun h => mem_there si h hp
theorem relO_same (hi : ∀ a o, I a = some o → I' a = some o) {o : O} {ho : HO} (h : RelO cl I m o ho) : RelO cl I' m o ho := RelO.mono hi ⟨[], by simp⟩ h
/-- a new thing, as data -/
theorem sim_new (si : Sim cl I m s H) {p : Addr} {ho : HO} (hp : H p = none) (nf : ∀ o u, ho ≠ .frz o u) : Sim cl (upd I p ho) m s (upd H p ho) ∧ Ext I m H (upd I p ho) m (upd H p ho) := by
  have ip := sub_none si hp
  have hi : ∀ a o, I a = some o → upd I p ho a = some o := fun a o h => by rw [upd_none ip (by rw [h]; simp)]; exact h
  refine ⟨⟨fun a o h => ?_, si.len, fun i a o h1 h2 => ?_, fun a h => ?_, si.nd, fun a o u h => ?_⟩, ⟨hi, ⟨[], by simp⟩, fun a h _ => upd_none hp h, fun a h => ?_, fun a h => ?_, fun a h => .inl h⟩⟩
  · by_cases e : a = p
    · subst e
      rw [upd_same] at h
      cases h
      exact .inl upd_same
    · rw [upd_ne e] at h
      exact rd_upd hp (si.sub a o h)
  · obtain ⟨ho', h3, h4⟩ := si.obj i a o h1 h2
    exact ⟨ho', by rw [upd_none hp (by rw [h3]; simp)]; exact h3, relO_same hi h4⟩
  · rw [upd_ne (show a ≠ p from fun e => mem_free si hp (e ▸ h))]
    exact si.sep a h
  · by_cases e : a = p
    · subst e
      rw [upd_same] at h
      exact nf _ _ (Option.some.inj h)
    · rw [upd_ne e] at h
      exact si.nf a o u h
  · rw [upd_none hp h]
    exact h
  · by_cases e : a = p
    · subst e
      exact .inr hp
    · rw [upd_ne e] at h
      exact .inl h
/-- a new thing of the store -/
theorem sim_push (si : Sim cl I m s H) {p : Addr} {ho : HO} {o : O} (hp : H p = none) (r : RelO cl I (m ++ [p]) o ho) : Sim cl I (m ++ [p]) (s ++ [o]) (upd H p ho) ∧ Ext I m H I (m ++ [p]) (upd H p ho) := by
  have ip := sub_none si hp
  refine ⟨⟨fun a o h => rd_upd hp (si.sub a o h), by simp [si.len], fun i a o h1 h2 => ?_, fun a h => ?_, ?_, si.nf⟩, ⟨fun _ _ h => h, ⟨[p], rfl⟩, fun a h _ => upd_none hp h, fun a h => ?_, fun a h => .inl h, fun a h => ?_⟩⟩
  · by_cases hi : i < m.length
    · rw [List.getElem?_append_left hi] at h1
      rw [List.getElem?_append_left (by rw [← si.len]; exact hi)] at h2
      obtain ⟨ho', h3, h4⟩ := si.obj i a o h1 h2
      exact ⟨ho', by rw [upd_none hp (by rw [h3]; simp)]; exact h3, RelO.mono (fun _ _ h => h) ⟨[p], rfl⟩ h4⟩
    · have hl : i = m.length := by
        have := (List.getElem?_eq_some_iff.mp h1).1
        simp at this
        omega
      subst hl
      rw [List.getElem?_append_right (Nat.le_refl _)] at h1
      rw [List.getElem?_append_right (by rw [si.len]; exact Nat.le_refl _)] at h2
      simp [si.len] at h1 h2
      subst h1 h2
      exact ⟨ho, upd_same, r⟩
  · rcases List.mem_append.mp h with h | h
    · exact si.sep a h
    · rw [List.mem_singleton.mp h]
      exact ip
  · refine List.nodup_append.mpr ⟨si.nd, by simp, fun a h1 b h2 e => ?_⟩
    rw [List.mem_singleton.mp h2] at e
    exact mem_free si hp (e ▸ h1)
  · rw [upd_none hp h]
    exact h
  · rcases List.mem_append.mp h with h | h
    · exact .inl h
    · rw [List.mem_singleton.mp h]
      exact .inr hp
/-- a thing that is not looked at -/
theorem sim_by (si : Sim cl I m s H) {p : Addr} {ho : HO} (hp : H p = none) : Sim cl I m s (upd H p ho) ∧ Ext I m H I m (upd H p ho) := by
  refine ⟨⟨fun a o h => rd_upd hp (si.sub a o h), si.len, fun i a o h1 h2 => ?_, si.sep, si.nd, si.nf⟩, ⟨fun _ _ h => h, ⟨[], by simp⟩, fun a h _ => upd_none hp h, fun a h => ?_, fun a h => .inl h, fun a h => .inl h⟩⟩
  · obtain ⟨ho', h3, h4⟩ := si.obj i a o h1 h2
    exact ⟨ho', by rw [upd_none hp (by rw [h3]; simp)]; exact h3, h4⟩
  · rw [upd_none hp h]
    exact h
/-- a thing of the store changes -/
theorem sim_set (si : Sim cl I m s H) {i : Nat} {a : Addr} {o' : O} {ho : HO} (h : m[i]? = some a) (r : RelO cl I m o' ho) : Sim cl I m (s.set i o') (upd H a ho) ∧ Ext I m H I m (upd H a ho) := by
  have ha : a ∈ m := List.mem_of_getElem? h
  have ia := si.sep a ha
  have ne : ∀ b o, I b = some o → b ≠ a := fun b o h e => by rw [e, ia] at h; cases h
  refine ⟨⟨fun b o hb => ?_, by rw [List.length_set]; exact si.len, fun j b o h1 h2 => ?_, si.sep, si.nd, si.nf⟩, ⟨fun _ _ h => h, ⟨[], by simp⟩, fun b hb hm => upd_ne fun e => hm (e ▸ ha), fun b hb => ?_, fun b h => .inl h, fun b h => .inl h⟩⟩
  · rcases si.sub b o hb with q | ⟨o2, q⟩
    · exact .inl (by rw [upd_ne (ne b o hb)]; exact q)
    · exact .inr ⟨o2, by rw [upd_ne (ne b o hb)]; exact q⟩
  · by_cases e : i = j
    · subst e
      rw [h] at h1
      cases h1
      have hs : i < s.length := by rw [← si.len]; exact (List.getElem?_eq_some_iff.mp h).1
      rw [List.getElem?_set_self hs] at h2
      cases h2
      exact ⟨ho, upd_same, r⟩
    · rw [List.getElem?_set_ne e] at h2
      obtain ⟨ho', h3, h4⟩ := si.obj j b o h1 h2
      refine ⟨ho', ?_, h4⟩
      rw [upd_ne]
      · exact h3
      · intro e2
        subst e2
        obtain ⟨l1, q1⟩ := List.getElem?_eq_some_iff.mp h
        obtain ⟨l2, q2⟩ := List.getElem?_eq_some_iff.mp h1
        exact e ((List.getElem_inj si.nd).mp (q1.trans q2.symm))
  · by_cases e : b = a
    · subst e
      rw [upd_same]
      simp
    · rw [upd_ne e]
      exact hb
end
section
variable {cl : Nat → Addr} {I : Hp} {m : List Addr} {s : Store} {H : Hp}
theorem cont_rel {w : T} {p : Addr} {ho : HO} (si : Sim cl I m s H) (hp : H p = none) (h : Cont I w ho) : Rel (upd I p ho) w (.ref p) := by
  have ip := sub_none si hp
  have hi : ∀ a o, I a = some o → upd I p ho a = some o := fun a o h => by rw [upd_none ip (by rw [h]; simp)]; exact h
  cases w with
  | lst xs =>
    obtain ⟨vs, rfl, r⟩ := h
    exact ⟨p, vs, rfl, upd_same, RelL.mono hi r⟩
  | tup xs =>
    obtain ⟨vs, rfl, r⟩ := h
    exact ⟨p, vs, rfl, upd_same, RelL.mono hi r⟩
  | dct xs =>
    obtain ⟨vs, rfl, r⟩ := h
    exact ⟨p, vs, rfl, upd_same, RelK.mono hi r⟩
  | non => exact h.elim
  | bl b => exact h.elim
  | int i => exact h.elim
  | str x => exact h.elim
/-- from the end of a run: data -/
theorem fin_of {w : T} {Q : VK} (si : Sim cl I m s H) (h : ∀ I' m' H' x, HF H' → Ext I m H I' m' H' → Sim cl I' m' s H' → RelU I' m' (.v w) x → Q x H') : Fin I H w fun v H' => HF H' → Q v H' :=
  ⟨fun z r hf => h I m H z hf Ext.refl si r, fun p ho hp c hf => h _ _ _ _ hf (sim_new (ho := ho) si hp (cont_nf c)).2 (sim_new si hp (cont_nf c)).1 (cont_rel si hp c)⟩
end
end Cab

set_option Elab.async false
set_option linter.all false
set_option maxRecDepth 100000
set_option maxHeartbeats 4000000
namespace Cab
open PySem PySem.Spec PyProof.Rows L2
def opK : Bop → Operator
  | .add => .Add
  | .sub => .Sub
  | .mul => .Mult
  | .fdiv => .FloorDiv
  | .mod => .Mod
  | .pow => .Pow
  | .bor => .BitOr
section
variable {X : Cx} {pins : List (Addr × Obj)} {σ : St} {H : Hp} {s : Shared}
theorem rd_lst (J : Inv X pins σ H s) {l : Addr} {xs : List V} (h : Rd H l (.lst xs)) : xs.length ≤ sizeLine ∧ ∃ (us : List Value) (k : Nat), Vals xs us ∧ s.heap.get? l = some { cls := .type "list", data := .seq us.toArray k } := h.ok J.hok
theorem lst_new {us : List Value} {ys : List V} (J : Inv X pins σ H s) (hv : Vals ys us) (hz : ys.length ≤ sizeLine) {Q : VK} (q : ∀ p, H p = none → Q (.ref p) (upd H p (.lst ys))) :
    EP X pins σ Q (.ref s.heap.objs.size) { s with heap := s.heap.push { cls := .type "list", data := .seq us.toArray } } :=
  ⟨V.ref s.heap.objs.size, _, Inv.lnew (t' := s.toks) J hv hz, rfl, q _ J.fresh⟩
theorem op_catR : OpR X (binaryOp .Add) (fun x y H Q => ∃ l b xs zs, x = .ref l ∧ y = .ref b ∧ Rd H l (.lst xs) ∧ Rd H b (.lst zs) ∧ xs.length + zs.length ≤ sizeLine ∧ ∀ p, H p = none → Q (.ref p) (upd H p (.lst (xs ++ zs)))) := by
  intro pins s σ H x y v u Q J rx ry h
  obtain ⟨l, b, xs, zs, rfl, rfl, hl, hb, hz, q⟩ := h
  cases rx
  cases ry
  obtain ⟨_, us, k, r, e⟩ := rd_lst J hl
  obtain ⟨_, ws, k2, r2, e2⟩ := rd_lst J hb
  refine PySem.P.add_list e e2 ?_ (by rw [List.size_toArray, List.size_toArray, ← r.length, ← r2.length]; exact hz)
  have ea : us.toArray ++ ws.toArray = (us ++ ws).toArray := by simp
  rw [ea]
  exact lst_new J (r.append r2) (by rw [List.length_append]; exact hz) q
theorem rep_vals {xs : List V} {us : List Value} (h : Vals xs us) (k : Nat) : Vals (rep k xs) (List.replicate k us).flatten := h.rep k
theorem rep_len {α : Type} (k : Nat) (xs : List α) : (rep k xs).length = xs.length * k := by
  unfold rep
  rw [PyProof.Rows.lm_len_rep_flat, Nat.mul_comm]
theorem op_repR : OpR X (binaryOp .Mult) (fun x y H Q => ∃ l k xs, x = .ref l ∧ y = .int k ∧ Rd H l (.lst xs) ∧ -(2 ^ 63) ≤ k ∧ k < 2 ^ 63 ∧ xs.length * k.toNat ≤ sizeLine ∧ ∀ p, H p = none → Q (.ref p) (upd H p (.lst (rep k.toNat xs)))) := by
  intro pins s σ H x y v u Q J rx ry h
  obtain ⟨l, k, xs, rfl, rfl, hl, h1, h2, hz, q⟩ := h
  cases rx
  obtain ⟨tk, rfl⟩ := ry
  obtain ⟨_, us, n, r, e⟩ := rd_lst J hl
  have el : us.length = xs.length := r.length.symm
  have a1 : us.toArray.size * k.toNat ≤ sizeLine := by rw [List.size_toArray, el]; exact hz
  have a2 : ¬ us.toArray.size * k.toNat > (2 ^ 63 - 1) / 8 := by
    have : (sizeLine : Nat) ≤ (2 ^ 63 - 1) / 8 := by decide
    omega
  have a3 : ¬ (!Builtin.List.listFitsIndex k) = true := by
    rw [fitsIndex_both h1 h2]
    decide
  have a4 : ¬ Builtin.List.listTooLong (us.toArray.size * k.toNat) = true := by
    rw [notLongL a1]
    decide
  have a5 : List.foldl (fun a b => a ++ b) #[] (List.replicate (if us.toArray.isEmpty = true then 0 else k.toNat) us.toArray) = (List.replicate k.toNat us).flatten.toArray := by
    have f : ∀ j : Nat, List.foldl (fun a b => a ++ b) #[] (List.replicate j us.toArray) = (List.replicate j us).flatten.toArray := fun j => by
      have z := foldl_rep us j []
      rw [List.nil_append] at z
      exact z
    rw [f]
    cases us with
    | nil => simp
    | cons _ _ => rw [if_neg (by simp)]
  refine wpAny_binaryOp_repeat_ref (T := "list") (U := "int") (by decide) ⟨_, e, rfl⟩ (fun s2 => typeIs_int s2 k tk) noFill_list_mul F.fills_int_mul F.slot_int_rmul repeat_list F.slot_int_index.lookup ?_
  refine call_meets F.slot_int_rmul (typeIs_int s k tk) F.entry_int_rmul (F.args_int_rmul_2 _ _) (int___rmul___int_list k tk l us.toArray n) ⟨e, rfl, ⟨_, e, rfl⟩, ?_⟩
  refine call_meets F.slot_list_mul ⟨_, e, rfl⟩ F.entry_list_mul (F.args_list_mul_2 _ _) (AutoListH.list___mul___list_int_3 l us.toArray n k tk a3 a2 a4) ⟨e, ?_⟩
  rw [a5]
  exact lst_new J (rep_vals r k.toNat) (by rw [rep_len]; exact hz) q
theorem foldl_rep_arr {α : Type} (x : Array α) (k : Nat) : ∀ acc : Array α, (List.replicate k x).foldl (· ++ ·) acc = acc ++ (rep k x.toList).toArray := by
  induction k with
  | zero => intro acc; simp [rep]
  | succ k ih =>
    intro acc
    rw [List.replicate_succ, List.foldl_cons, ih]
    have e : (x.toList ++ (rep k x.toList)).toArray = x ++ (rep k x.toList).toArray := by
      cases x
      simp
    rw [Array.append_assoc, ← e]
    simp [rep, List.replicate_succ]
theorem txt_mul (x : List Nat) (n : Int) : Txt.mul (mkS x) n = mkS (rep n.toNat x) := by
  unfold Txt.mul
  by_cases h : n < 1
  · rw [if_pos h]
    have : n.toNat = 0 := by omega
    rw [this]
    rfl
  · rw [if_neg h]
    by_cases h2 : (n == 1 || (mkS x).length == 0) = true
    · rw [if_pos h2]
      simp only [Bool.or_eq_true, beq_iff_eq] at h2
      rcases h2 with rfl | h2
      · simp [rep]
      · rw [mkS_len] at h2
        have e : x = [] := List.eq_nil_of_length_eq_zero h2
        subst e
        have : rep n.toNat ([] : List Nat) = [] := List.eq_nil_of_length_eq_zero (by rw [rep_len]; simp)
        rw [this]
    · rw [if_neg h2, foldl_rep_arr]
      simp [mkS]
theorem op_mul_str : OpR X (binaryOp .Mult) (fun x y H Q => ∃ z k, x = .str (mkS z) ∧ y = .int k ∧ -(2 ^ 63) ≤ k ∧ k < 2 ^ 63 ∧ z.length * k.toNat ≤ LIM ∧ Q (.str (mkS (rep k.toNat z))) H) := by
  intro pins s σ H x y v u Q J rx ry h
  obtain ⟨z, k, rfl, rfl, h1, h2, hz, q⟩ := h
  obtain ⟨tk, rfl⟩ := rx
  obtain ⟨tk2, rfl⟩ := ry
  refine SB.mul ⟨?_, fun h3 _ => ?_, fun _ _ => ?_⟩ fun t' k' => ⟨.str (mkS (rep k.toNat z)), H, J.tok _, ⟨t', by rw [txt_mul]⟩, q⟩
  · have e1 : ¬ k < -(2 ^ 63 : Int) := by omega
    have e2 : ¬ k ≥ 2 ^ 63 := by omega
    rw [decide_eq_false e1, decide_eq_false e2]
    rfl
  · rw [mkS_len]
    have hk : 0 < k := by omega
    have e1 : (k.toNat : Int) = k := Int.toNat_of_nonneg (by omega)
    have e2 : (z.length : Int) * k ≤ 16777216 := by
      rw [← e1]
      have e3 : ((z.length * k.toNat : Nat) : Int) ≤ ((16777216 : Nat) : Int) := Int.ofNat_le.mpr hz
      rw [Int.natCast_mul] at e3
      exact e3
    have e3 : (z.length : Int) ≤ 9223372036854775807 / k := by
      rw [Int.le_ediv_iff_mul_le hk]
      omega
    show ¬ ((z.length : Int) > 9223372036854775807 / k)
    omega
  · rw [mkS_len]
    unfold Builtin.Str.tooLong
    exact decide_eq_false (by rw [line_LIM]; omega)
theorem sqT_of {K : PySem.W.Frag} {a : Addr} {xs : List V} (h : Rd H a (.tup xs)) : SqT K H a xs := .inl h
theorem sqL_of {K : PySem.W.Frag} {a : Addr} {xs : List V} (h : Rd H a (.lst xs)) : SqL K H a xs := .inl h
theorem relL_len {I : Hp} : ∀ {ts : List T} {vs : List V}, RelL I ts vs → ts.length = vs.length
  | [], _, h => by
    cases h
    rfl
  | _ :: _, _, h => by
    obtain ⟨v, r, e, _, h2⟩ := h
    rw [e, List.length_cons, List.length_cons, relL_len h2]
theorem relK_len {I : Hp} : ∀ {ts : List (Ky × T)} {vs : List (Key × V)}, RelK I ts vs → ts.length = vs.length
  | [], _, h => by
    cases h
    rfl
  | _ :: _, _, h => by
    obtain ⟨v, r, e, _, h2⟩ := h
    rw [e, List.length_cons, List.length_cons, relK_len h2]
theorem relUs_len {I : Hp} {m : List Addr} : ∀ {ts : List U} {vs : List V}, RelUs I m ts vs → ts.length = vs.length
  | [], _, h => by
    cases h
    rfl
  | _ :: _, _, h => by
    obtain ⟨v, r, e, _, h2⟩ := h
    rw [e, List.length_cons, List.length_cons, relUs_len h2]
theorem relL_app {I : Hp} : ∀ {ts us : List T} {vs ws : List V}, RelL I ts vs → RelL I us ws → RelL I (ts ++ us) (vs ++ ws)
  | [], us, _, ws, h, h' => by
    cases (show _ = [] from h)
    exact h'
  | t :: ts, us, _, ws, h, h' => by
    obtain ⟨v, r, e, h1, h2⟩ := h
    exact ⟨v, r ++ ws, by rw [e]; rfl, h1, relL_app h2 h'⟩
theorem relL_rep {I : Hp} {ts : List T} {vs : List V} (h : RelL I ts vs) : ∀ k : Nat, RelL I (rep k ts) (rep k vs)
  | 0 => rfl
  | k + 1 => by
    have h1 := relL_app h (relL_rep h k)
    simpa [rep, List.replicate_succ] using h1
theorem small_of {i : Int} (h : small64 i = true) : -(2 ^ 64) < i ∧ i < 2 ^ 64 := by
  unfold small64 at h
  simp only [Bool.and_eq_true, decide_eq_true_eq] at h
  exact ⟨by omega, by omega⟩
theorem rng_of {i : Int} (h : inRng i = true) : -(2 ^ 62) ≤ i ∧ i < 2 ^ 62 := by
  unfold inRng at h
  simp only [Bool.and_eq_true, decide_eq_true_eq] at h
  exact ⟨by omega, by omega⟩
/-- what an operator between two things is worth -/
def rBin (op : Bop) : R2 := fun x y H Q => ∃ I t t' w, RdT I H t x ∧ RdT I H t' y ∧ binT op t t' = some w ∧ Fin I H w Q
theorem op_bin : ∀ op : Bop, op ≠ .bor → OpR X (binaryOp (opK op)) (rBin op) := by
  intro op hop pins s σ H x y v u Q J rx ry h
  obtain ⟨I, t, t', w, r1, r2, e, f⟩ := h
  cases op with
  | bor => exact absurd rfl hop
  | add =>
    cases t <;> cases t' <;> simp only [binT, reduceCtorEq, Option.some.injEq, Option.ite_none_right_eq_some] at e
    case int.int i j =>
      subst e
      exact op_add pins s σ H x y v u Q J rx ry ⟨i, j, r1, r2, f.1 _ rfl⟩
    case int.bl i b =>
      subst e
      refine op_add_ib pins s σ H x y v u Q J rx ry ⟨i, b, r1, r2, f.1 _ ?_⟩
      cases b <;> rfl
    case str.str a b =>
      obtain ⟨hz, e⟩ := e
      subst e
      exact op_add_str pins s σ H x y v u Q J rx ry ⟨mkS a, mkS b, r1.1, r2.1, by rw [mkS_len, mkS_len, line_LIM]; exact hz, f.1 _ ⟨by rw [mkS_app], by rw [List.length_append]; exact hz⟩⟩
    case lst.lst a b =>
      obtain ⟨hz, e⟩ := e
      subst e
      obtain ⟨p, vs, e1, e2, e3⟩ := r1
      obtain ⟨p', vs', e1', e2', e3'⟩ := r2
      exact op_catR pins s σ H x y v u Q J rx ry ⟨p, p', vs, vs', e1, e1', e2, e2', by rw [← relL_len e3, ← relL_len e3', line_LIM]; exact hz, fun q hq => f.2 q _ hq ⟨_, rfl, relL_app e3 e3'⟩⟩
    case tup.tup a b =>
      obtain ⟨hz, e⟩ := e
      subst e
      obtain ⟨p, vs, e1, i1, e2, e3⟩ := r1
      obtain ⟨p', vs', e1', i2, e2', e3'⟩ := r2
      refine op_catA pins s σ H x y v u Q J rx ry ⟨p, p', vs, vs', e1, e1', sqT_of e2, sqT_of e2', by rw [← relL_len e3, ← relL_len e3', line_LIM]; exact hz, fun z => f.1 _ ?_, fun _ z => f.1 _ ?_, fun _ _ q hq => f.2 q _ hq ⟨_, rfl, relL_app e3 e3'⟩⟩
      · have ea : a = [] := List.eq_nil_of_length_eq_zero (by rw [relL_len e3, z]; rfl)
        subst ea
        exact ⟨p', vs', rfl, i2, e3'⟩
      · have eb : b = [] := List.eq_nil_of_length_eq_zero (by rw [relL_len e3', z]; rfl)
        subst eb
        rw [List.append_nil]
        exact ⟨p, vs, rfl, i1, e3⟩
  | sub =>
    cases t <;> cases t' <;> simp only [binT, reduceCtorEq, Option.some.injEq] at e
    case int.int i j =>
      subst e
      exact op_sub pins s σ H x y v u Q J rx ry ⟨i, j, r1, r2, f.1 _ rfl⟩
  | mul =>
    cases t <;> cases t' <;> simp only [binT, reduceCtorEq, Option.some.injEq, Option.ite_none_right_eq_some] at e
    case int.int i j =>
      obtain ⟨hz, e⟩ := e
      subst e
      refine op_mul pins s σ H x y v u Q J rx ry ⟨i, j, r1, r2, ?_, f.1 _ rfl⟩
      rcases Bool.or_eq_true_iff.mp hz with hz | hz
      · exact .inl (small_of hz)
      · exact .inr (small_of hz)
    case str.int a j =>
      obtain ⟨hz, e⟩ := e
      subst e
      simp only [Bool.and_eq_true, decide_eq_true_eq] at hz
      have hj := rng_of hz.1
      exact op_mul_str pins s σ H x y v u Q J rx ry ⟨a, j, r1.1, r2, by omega, by omega, hz.2, f.1 _ ⟨rfl, by rw [rep_len]; exact hz.2⟩⟩
    case lst.int a j =>
      obtain ⟨hz, e⟩ := e
      subst e
      simp only [Bool.and_eq_true, decide_eq_true_eq] at hz
      obtain ⟨p, vs, e1, e2, e3⟩ := r1
      have hj := rng_of hz.1
      exact op_repR pins s σ H x y v u Q J rx ry ⟨p, j, vs, e1, r2, e2, by omega, by omega, by rw [← relL_len e3, line_LIM]; exact hz.2, fun q hq => f.2 q _ hq ⟨_, rfl, relL_rep e3 _⟩⟩
  | fdiv =>
    cases t <;> cases t' <;> simp only [binT, reduceCtorEq, Option.some.injEq, Option.ite_none_right_eq_some] at e
    case int.int i j =>
      obtain ⟨hz, e⟩ := e
      subst e
      exact op_fdiv pins s σ H x y v u Q J rx ry ⟨i, j, r1, r2, hz, f.1 _ rfl⟩
  | mod =>
    cases t <;> cases t' <;> simp only [binT, reduceCtorEq, Option.some.injEq, Option.ite_none_right_eq_some] at e
    case int.int i j =>
      obtain ⟨hz, e⟩ := e
      subst e
      exact op_mod pins s σ H x y v u Q J rx ry ⟨i, j, r1, r2, hz, f.1 _ rfl⟩
  | pow =>
    cases t <;> cases t' <;> simp only [binT, reduceCtorEq, Option.some.injEq, Option.ite_none_right_eq_some] at e
    case int.int i j =>
      obtain ⟨⟨h1, h2, h3⟩, e⟩ := e
      subst e
      have h4 := small_of h3
      exact op_pow pins s σ H x y v u Q J rx ry ⟨i, j, r1, r2, ⟨h1, h2, by omega⟩, f.1 _ rfl⟩
end
end Cab

set_option Elab.async false
set_option linter.all false
set_option maxRecDepth 100000
set_option maxHeartbeats 4000000
namespace Cab
open PySem PySem.Spec PyProof.Rows L2
theorem kyK_inj {a b : Ky} (h : kyK a = kyK b) : a = b := by
  cases a <;> cases b <;> simp only [kyK, Sum.inl.injEq, Sum.inr.injEq, reduceCtorEq] at h
  · rw [h]
  · rw [mkS_inj h]
/-! ### a thing is what stands there -/
mutual
theorem rel_fun {I : Hp} : ∀ {t t' : T} {v : V}, Rel I t v → Rel I t' v → t = t'
  | .non, t', v, h, h' => by
    cases (show v = .non from h)
    cases t' <;> first | rfl | (simp [Rel] at h')
  | .bl b, t', v, h, h' => by
    cases (show v = .bl b from h)
    cases t' <;> first | (cases (show V.bl b = .bl _ from h'); rfl) | (simp [Rel] at h')
  | .int b, t', v, h, h' => by
    cases (show v = .int b from h)
    cases t' <;> first | (cases (show V.int b = .int _ from h'); rfl) | (simp [Rel] at h')
  | .str b, t', v, h, h' => by
    cases h.1
    cases t' with
    | str x =>
      have e : V.str (mkS b) = .str (mkS x) := h'.1
      rw [mkS_inj (V.str.inj e)]
    | _ => simp [Rel] at h'
  | .lst xs, t', v, h, h' => by
    obtain ⟨a, vs, rfl, h1, h2⟩ := h
    cases t' with
    | lst ys =>
      obtain ⟨a', vs', e, h1', h2'⟩ := h'
      cases e
      rw [h1] at h1'
      cases h1'
      rw [relL_fun h2 h2']
    | tup ys =>
      obtain ⟨a', vs', e, h1', _⟩ := h'
      cases e
      rw [h1] at h1'
      cases h1'
    | dct ys =>
      obtain ⟨a', vs', e, h1', _⟩ := h'
      cases e
      rw [h1] at h1'
      cases h1'
    | _ => simp [Rel] at h'
  | .tup xs, t', v, h, h' => by
    obtain ⟨a, vs, rfl, h1, h2⟩ := h
    cases t' with
    | tup ys =>
      obtain ⟨a', vs', e, h1', h2'⟩ := h'
      cases e
      rw [h1] at h1'
      cases h1'
      rw [relL_fun h2 h2']
    | lst ys =>
      obtain ⟨a', vs', e, h1', _⟩ := h'
      cases e
      rw [h1] at h1'
      cases h1'
    | dct ys =>
      obtain ⟨a', vs', e, h1', _⟩ := h'
      cases e
      rw [h1] at h1'
      cases h1'
    | _ => simp [Rel] at h'
  | .dct xs, t', v, h, h' => by
    obtain ⟨a, vs, rfl, h1, h2⟩ := h
    cases t' with
    | dct ys =>
      obtain ⟨a', vs', e, h1', h2'⟩ := h'
      cases e
      rw [h1] at h1'
      cases h1'
      rw [relK_fun h2 h2']
    | lst ys =>
      obtain ⟨a', vs', e, h1', _⟩ := h'
      cases e
      rw [h1] at h1'
      cases h1'
    | tup ys =>
      obtain ⟨a', vs', e, h1', _⟩ := h'
      cases e
      rw [h1] at h1'
      cases h1'
    | _ => simp [Rel] at h'
theorem relL_fun {I : Hp} : ∀ {t t' : List T} {v : List V}, RelL I t v → RelL I t' v → t = t'
  | [], t', v, h, h' => by
    cases (show v = [] from h)
    cases t' with
    | nil => rfl
    | cons _ _ =>
      obtain ⟨_, _, e, _⟩ := h'
      cases e
  | x :: xs, t', v, h, h' => by
    obtain ⟨a, r, rfl, h1, h2⟩ := h
    cases t' with
    | nil => cases (show a :: r = [] from h')
    | cons y ys =>
      obtain ⟨a', r', e, h1', h2'⟩ := h'
      cases e
      rw [rel_fun h1 h1', relL_fun h2 h2']
theorem relK_fun {I : Hp} : ∀ {t t' : List (Ky × T)} {v : List (Key × V)}, RelK I t v → RelK I t' v → t = t'
  | [], t', v, h, h' => by
    cases (show v = [] from h)
    cases t' with
    | nil => rfl
    | cons _ _ =>
      obtain ⟨_, _, e, _⟩ := h'
      cases e
  | x :: xs, t', v, h, h' => by
    obtain ⟨a, r, rfl, h1, h2⟩ := h
    cases t' with
    | nil => cases (show (kyK x.1, a) :: r = [] from h')
    | cons y ys =>
      obtain ⟨a', r', e, h1', h2'⟩ := h'
      obtain ⟨e1, e2⟩ := List.cons.inj e
      obtain ⟨e3, e4⟩ := Prod.mk.inj e1
      subst e2 e4
      rw [relP_fun h1 h1' (kyK_inj e3), relK_fun h2 h2']
theorem relP_fun {I : Hp} : ∀ {t t' : Ky × T} {v : V}, RelP I t v → RelP I t' v → t.1 = t'.1 → t = t'
  | (k, t), (k', t'), v, h, h', e => by
    cases (show k = k' from e)
    rw [rel_fun h.2 h'.2]
end
/-- what stands in a heap, locked or not -/
def conH (H : Hp) : Hp := fun a => match H a with
  | some (.frz _ u) => some u
  | o => o
theorem con_of {H : Hp} {a : Addr} {u : HO} (h : Rd H a u) (n : ∀ o v, u ≠ .frz o v) : conH H a = some u := by
  unfold conH
  rcases h with h | ⟨o, h⟩
  · rw [h]
    cases u with
    | frz o v => exact absurd rfl (n o v)
    | _ => rfl
  · rw [h]
theorem rd_of_con {H : Hp} {a : Addr} {u : HO} (h : conH H a = some u) : Rd H a u := by
  unfold conH at h
  cases e : H a with
  | none =>
    rw [e] at h
    cases h
  | some o =>
    rw [e] at h
    cases o with
    | frz o v =>
      cases h
      exact .inr ⟨o, e⟩
    | _ =>
      cases h
      exact .inl e
section
variable {I H : Hp} (hs : ∀ a o, I a = some o → Rd H a o)
include hs
mutual
theorem rel_con : ∀ {t : T} {v : V}, Rel I t v → Rel (conH H) t v
  | .non, v, h => h
  | .bl b, v, h => h
  | .int i, v, h => h
  | .str x, v, h => h
  | .lst xs, v, h => by
    obtain ⟨a, vs, e, h1, h2⟩ := h
    exact ⟨a, vs, e, con_of (hs _ _ h1) (fun _ _ z => nomatch z), relL_con h2⟩
  | .tup xs, v, h => by
    obtain ⟨a, vs, e, h1, h2⟩ := h
    exact ⟨a, vs, e, con_of (hs _ _ h1) (fun _ _ z => nomatch z), relL_con h2⟩
  | .dct kvs, v, h => by
    obtain ⟨a, vs, e, h1, h2⟩ := h
    exact ⟨a, vs, e, con_of (hs _ _ h1) (fun _ _ z => nomatch z), relK_con h2⟩
theorem relL_con : ∀ {t : List T} {v : List V}, RelL I t v → RelL (conH H) t v
  | [], _, h => h
  | _ :: _, _, h => by
    obtain ⟨v, r, e, h1, h2⟩ := h
    exact ⟨v, r, e, rel_con h1, relL_con h2⟩
theorem relK_con : ∀ {t : List (Ky × T)} {v : List (Key × V)}, RelK I t v → RelK (conH H) t v
  | [], _, h => h
  | p :: _, _, h => by
    obtain ⟨v, r, e, h1, h2⟩ := h
    exact ⟨v, r, e, relP_con h1, relK_con h2⟩
theorem relP_con : ∀ {p : Ky × T} {v : V}, RelP I p v → RelP (conH H) p v
  | (_, _), _, h => ⟨h.1, rel_con h.2⟩
end
end
section
variable {cl : Nat → Addr} {I : Hp} {m : List Addr} {s : Store} {H : Hp}
theorem all_con (f : U → Option T) (g : ∀ u t v, f u = some t → RelU I m u v → Rel (conH H) t v) : ∀ {us : List U} {ts : List T} {vs : List V}, optAll f us = some ts → RelUs I m us vs → RelL (conH H) ts vs
  | [], _, _, h, r => by
    cases h
    exact r
  | u :: us, ts, vs, h, r => by
    obtain ⟨v, rs, e, r1, r2⟩ := r
    unfold optAll at h
    cases e1 : f u with
    | none =>
      rw [e1] at h
      cases h
    | some t =>
      rw [e1] at h
      cases e2 : optAll f us with
      | none =>
        rw [e2] at h
        cases h
      | some ts' =>
        rw [e2] at h
        cases h
        exact ⟨v, rs, e, g _ _ _ e1 r1, all_con f g e2 r2⟩
theorem allK_con (f : U → Option T) (g : ∀ u t v, f u = some t → RelU I m u v → Rel (conH H) t v) : ∀ {us : List (Ky × U)} {ts : List (Ky × T)} {vs : List (Key × V)}, optAll (fun p : Ky × U => (f p.2).map fun t => (p.1, t)) us = some ts → RelUK I m us vs → RelK (conH H) ts vs
  | [], _, _, h, r => by
    cases h
    exact r
  | (k, u) :: us, ts, vs, h, r => by
    obtain ⟨v, rs, e, r1, r2⟩ := r
    unfold optAll at h
    cases e1 : f u with
    | none =>
      simp only [e1, Option.map_none] at h
      cases h
    | some t =>
      simp only [e1, Option.map_some] at h
      cases e2 : optAll (fun p : Ky × U => (f p.2).map fun t => (p.1, t)) us with
      | none =>
        rw [e2] at h
        cases h
      | some ts' =>
        rw [e2] at h
        cases h
        exact ⟨v, rs, e, ⟨r1.1, g _ _ _ e1 r1.2⟩, allK_con f g e2 r2⟩
/-- the whole as data -/
theorem view_con (si : Sim cl I m s H) : ∀ (n : Nat) (u : U) (t : T) (v : V), view n s u = some t → RelU I m u v → Rel (conH H) t v
  | 0, _, _, _, h, _ => by cases h
  | n + 1, .v t', t, v, h, r => by
    cases h
    exact rel_con si.sub r
  | n + 1, .tup us, t, v, h, r => by
    simp only [view, Option.map_eq_some_iff] at h
    obtain ⟨ts, h, rfl⟩ := h
    obtain ⟨a, vs, e, h1, h2⟩ := r
    exact ⟨a, vs, e, con_of (si.sub _ _ h1) (fun _ _ z => nomatch z), all_con _ (view_con si n) h h2⟩
  | n + 1, .ref i, t, v, h, r => by
    simp only [view] at h
    cases e : s[i]? with
    | none =>
      rw [e] at h
      cases h
    | some o =>
      rw [e] at h
      obtain ⟨a, ho, e1, e2, e3, e4⟩ := si.at r e
      cases o with
      | lst us =>
        simp only [Option.map_eq_some_iff] at h
        obtain ⟨ts, h, rfl⟩ := h
        obtain ⟨vs, rfl, h5⟩ := e4
        exact ⟨a, vs, e1, con_of (.inl e3) (fun _ _ z => nomatch z), all_con _ (view_con si n) h h5⟩
      | dct us =>
        simp only [Option.map_eq_some_iff] at h
        obtain ⟨ts, h, rfl⟩ := h
        obtain ⟨vs, rfl, h5⟩ := e4
        exact ⟨a, vs, e1, con_of (.inl e3) (fun _ _ z => nomatch z), allK_con _ (view_con si n) h h5⟩
      | ins c fs => cases h
end
/-! ### == -/
theorem kget_mem {α : Type} {k : Ky} {a : α} : ∀ {l : List (Ky × α)}, kget k l = some a → (k, a) ∈ l
  | [], h => by cases h
  | p :: r, h => by
    unfold kget at h
    split at h
    · rename_i e
      cases h
      subst e
      exact List.mem_cons_self
    · exact List.mem_cons_of_mem _ (kget_mem h)
theorem kget_of_mem {α : Type} {k : Ky} {a : α} : ∀ {l : List (Ky × α)}, (l.map (·.1)).Nodup → (k, a) ∈ l → kget k l = some a
  | [], _, h => by cases h
  | p :: r, nd, h => by
    have nd' : p.1 ∉ r.map (·.1) ∧ (r.map (·.1)).Nodup := List.nodup_cons.mp nd
    unfold kget
    rcases List.mem_cons.mp h with e | h
    · rw [← e, if_pos rfl]
    · rw [if_neg fun e => nd'.1 (List.mem_map.mpr ⟨(k, a), h, e.symm⟩)]
      exact kget_of_mem nd'.2 h
theorem relK_keys {I : Hp} : ∀ {t : List (Ky × T)} {v : List (Key × V)}, RelK I t v → v.map (·.1) = t.map fun p => kyK p.1
  | [], _, h => by
    cases h
    rfl
  | p :: _, _, h => by
    obtain ⟨v, r, e, _, h2⟩ := h
    rw [e]
    show kyK p.1 :: r.map (·.1) = kyK p.1 :: _
    rw [relK_keys h2]
theorem nd_ky {I : Hp} {t : List (Ky × T)} {v : List (Key × V)} (r : RelK I t v) (h : (v.map (·.1)).Nodup) : (t.map (·.1)).Nodup := by
  rw [relK_keys r] at h
  have h2 : ((t.map (·.1)).map kyK).Nodup := by
    rw [List.map_map]
    exact h
  exact List.Pairwise.of_map kyK (fun a b z e => z (by rw [e])) h2
theorem relK_get {I : Hp} {k : Ky} : ∀ {t : List (Ky × T)} {v : List (Key × V)}, RelK I t v → match kget k t with
    | some w => ∃ x, valV v (kyK k) = some x ∧ Rel I w x
    | none => valV v (kyK k) = none
  | [], _, h => by
    cases h
    rfl
  | (j, w) :: r, _, h => by
    obtain ⟨x, rs, e, h1, h2⟩ := h
    subst e
    unfold kget
    by_cases hj : j = k
    · subst hj
      rw [if_pos rfl]
      exact ⟨x, valV_pos rfl, h1.2⟩
    · rw [if_neg hj, valV_neg fun z => hj (kyK_inj z)]
      exact relK_get h2
mutual
theorem pyEq_refl {H : Hp} (hf : HF H) : ∀ {t : T} {v : V}, Rel (conH H) t v → pyEq t t = true
  | .non, v, h => by simp [pyEq]
  | .bl b, v, h => by simp [pyEq]
  | .int i, v, h => by simp [pyEq]
  | .str x, v, h => by simp [pyEq]
  | .lst xs, v, h => by
    obtain ⟨a, vs, e, h1, h2⟩ := h
    simp only [pyEq]
    exact eqL_refl hf h2
  | .tup xs, v, h => by
    obtain ⟨a, vs, e, h1, h2⟩ := h
    simp only [pyEq]
    exact eqL_refl hf h2
  | .dct kvs, v, h => by
    obtain ⟨a, vs, e, h1, h2⟩ := h
    have nd := nd_ky h2 (hf.k a vs (rd_of_con h1)).2
    simp only [pyEq, beq_self_eq_true, Bool.true_and]
    exact eqK_refl hf nd h2 fun p hp => hp
theorem eqL_refl {H : Hp} (hf : HF H) : ∀ {t : List T} {v : List V}, RelL (conH H) t v → eqL t t = true
  | [], _, h => by simp [eqL]
  | _ :: _, _, h => by
    obtain ⟨v, r, e, h1, h2⟩ := h
    simp only [eqL, Bool.and_eq_true]
    exact ⟨pyEq_refl hf h1, eqL_refl hf h2⟩
theorem eqK_refl {H : Hp} (hf : HF H) {all : List (Ky × T)} (nd : (all.map (·.1)).Nodup) : ∀ {t : List (Ky × T)} {v : List (Key × V)}, RelK (conH H) t v → (∀ p ∈ t, p ∈ all) → eqK t all = true
  | [], _, h, _ => by simp [eqK]
  | p :: _, _, h, hm => by
    obtain ⟨v, r, e, h1, h2⟩ := h
    simp only [eqK, Bool.and_eq_true]
    exact ⟨eqP_refl hf nd h1 (hm p List.mem_cons_self), eqK_refl hf nd h2 fun q hq => hm q (List.mem_cons_of_mem _ hq)⟩
theorem eqP_refl {H : Hp} (hf : HF H) {all : List (Ky × T)} (nd : (all.map (·.1)).Nodup) : ∀ {p : Ky × T} {v : V}, RelP (conH H) p v → p ∈ all → eqP p all = true
  | (k, t), v, h, hm => by
    simp only [eqP, kget_of_mem nd hm]
    exact pyEq_refl hf h.2
end
theorem eqL_len : ∀ {xs ys : List T}, eqL xs ys = true → xs.length = ys.length
  | [], [], _ => rfl
  | [], _ :: _, h => by simp [eqL] at h
  | _ :: _, [], h => by simp [eqL] at h
  | _ :: xs, _ :: ys, h => by
    simp only [eqL, Bool.and_eq_true] at h
    rw [List.length_cons, List.length_cons, eqL_len h.2]
/-- the places' equalities -/
def eqAtP (xs ys : List T) (j : Nat) : Bool := match xs[j]?, ys[j]? with
  | some x, some y => pyEq x y
  | _, _ => true
theorem range_all_succ (n : Nat) (e : Nat → Bool) : (List.range (n + 1)).all e = (e 0 && (List.range n).all fun j => e (j + 1)) := by
  rw [List.range_succ_eq_map, List.all_cons, List.all_map]
  rfl
theorem eqL_range : ∀ (xs ys : List T), eqL xs ys = ((List.range (min xs.length ys.length)).all (eqAtP xs ys) && xs.length == ys.length)
  | [], [] => by simp [eqL]
  | [], _ :: _ => by simp [eqL]
  | _ :: _, [] => by simp [eqL]
  | x :: xs, y :: ys => by
    rw [eqL, eqL_range xs ys, List.length_cons, List.length_cons, Nat.succ_min_succ, range_all_succ]
    show _ = (pyEq x y && (List.range (min xs.length ys.length)).all (eqAtP xs ys) && (xs.length + 1 == ys.length + 1))
    rw [Bool.and_assoc]
    congr 2
    by_cases h : xs.length = ys.length
    · simp [h]
    · have h' : ¬ xs.length + 1 = ys.length + 1 := by omega
      rw [beq_eq_false_iff_ne.mpr h, beq_eq_false_iff_ne.mpr h']
end Cab

set_option Elab.async false
set_option linter.all false
set_option maxRecDepth 100000
set_option maxHeartbeats 4000000
namespace Cab
open PySem PySem.Spec PyProof.Rows L2
section
variable {X : Cx} {pins : List (Addr × Obj)} {σ : St} {H : Hp} {s : Shared}
/-- a list, a tuple, a dict as the machine has it -/
theorem con_list (J : Inv X pins σ H s) {a : Addr} {vs : List V} (h : conH H a = some (.lst vs)) : ∃ us : List Value, Vals vs us ∧ s.heap.IsList a us.toArray := by
  obtain ⟨us, r, p, _⟩ := J.list (sqL_of (rd_of_con h))
  exact ⟨us, r, p.isList⟩
theorem con_tuple (J : Inv X pins σ H s) {a : Addr} {vs : List V} (h : conH H a = some (.tup vs)) : ∃ us : List Value, Vals vs us ∧ s.heap.IsTuple a us.toArray := by
  obtain ⟨us, r, p, _⟩ := J.tuple (sqT_of (rd_of_con h))
  obtain ⟨o, h1, h2, n, h3⟩ := p
  exact ⟨us, r, o, h1, h2, n, h3⟩
theorem con_dict (J : Inv X pins σ H s) {a : Addr} {vs : List (Key × V)} (h : conH H a = some (.dK vs)) : (a == sysModules) = false ∧ ∃ us, KV vs us ∧ s.heap.DictOf (mixKind X.prog X.w) a us := (rd_of_con h).ok J.hok |>.2
theorem eqAtP_get {xs ys : List T} {j : Nat} {x y : T} (h1 : xs[j]? = some x) (h2 : ys[j]? = some y) : eqAtP xs ys j = pyEq x y := by
  unfold eqAtP
  rw [h1, h2]
theorem relL_at {I : Hp} : ∀ {t : List T} {v : List V} {j : Nat} {x : V}, RelL I t v → v[j]? = some x → ∃ y, t[j]? = some y ∧ Rel I y x
  | [], _, j, x, h, e => by
    cases h
    simp at e
  | t :: ts, _, j, x, h, e => by
    obtain ⟨v, r, e1, h1, h2⟩ := h
    subst e1
    cases j with
    | zero =>
      cases e
      exact ⟨t, rfl, h1⟩
    | succ j => exact relL_at (t := ts) (v := r) (j := j) h2 e
theorem relL_at' {I : Hp} : ∀ {t : List T} {v : List V} {j : Nat} {y : T}, RelL I t v → t[j]? = some y → ∃ x, v[j]? = some x ∧ Rel I y x
  | [], _, j, x, h, e => by simp at e
  | t :: ts, _, j, x, h, e => by
    obtain ⟨v, r, e1, h1, h2⟩ := h
    subst e1
    cases j with
    | zero =>
      cases e
      exact ⟨v, rfl, h1⟩
    | succ j => exact relL_at' (t := ts) (v := r) (j := j) h2 e
theorem zipAll_at {f : T → T → Bool} : ∀ {xs ys : List T} {j : Nat} {x y : T}, zipAll f xs ys = true → xs[j]? = some x → ys[j]? = some y → f x y = true
  | [], _, j, x, y, _, h1, _ => by simp at h1
  | _ :: _, [], j, x, y, _, _, h2 => by simp at h2
  | a :: xs, b :: ys, j, x, y, h, h1, h2 => by
    simp only [zipAll, Bool.and_eq_true] at h
    cases j with
    | zero =>
      cases h1
      cases h2
      exact h.1
    | succ j => exact zipAll_at (xs := xs) (ys := ys) (j := j) h.2 h1 h2
theorem vals_at {vs : List V} {us : List Value} (r : Vals vs us) {j : Nat} (h : j < us.length) : ∃ x, vs[j]? = some x ∧ RelV x us[j] := by
  have hv : j < vs.length := by rw [r.length]; exact h
  obtain ⟨u, h1, h2⟩ := r.get (List.getElem?_eq_getElem hv)
  rw [List.getElem?_eq_getElem h] at h1
  cases h1
  exact ⟨_, List.getElem?_eq_getElem hv, h2⟩
/-- the equality of two keys' values -/
def eqKy (xs ys : List (Ky × T)) (k : Key) : Bool := match xs.find? (fun p => decide (kyK p.1 = k)), ys.find? (fun p => decide (kyK p.1 = k)) with
  | some p, some q => pyEq p.2 q.2
  | _, _ => true
theorem find_kget {k : Ky} : ∀ {xs : List (Ky × T)}, (xs.find? fun p => decide (kyK p.1 = kyK k)).map (·.2) = kget k xs
  | [] => rfl
  | p :: r => by
    rw [List.find?_cons]
    unfold kget
    by_cases h : p.1 = k
    · rw [if_pos h, h]
      simp
    · rw [if_neg h, decide_eq_false fun z => h (kyK_inj z)]
      exact find_kget
theorem eqKy_get {xs ys : List (Ky × T)} {k : Ky} {v w : T} (h1 : kget k xs = some v) (h2 : kget k ys = some w) : eqKy xs ys (kyK k) = pyEq v w := by
  rw [← find_kget] at h1 h2
  unfold eqKy
  cases e1 : xs.find? (fun p => decide (kyK p.1 = kyK k)) with
  | none =>
    rw [e1] at h1
    cases h1
  | some p =>
    cases e2 : ys.find? (fun p => decide (kyK p.1 = kyK k)) with
    | none =>
      rw [e2] at h2
      cases h2
    | some q =>
      rw [e1] at h1
      rw [e2] at h2
      cases h1
      cases h2
      rfl
theorem eqK_all {xs ys : List (Ky × T)} (nd : (xs.map (·.1)).Nodup) : ∀ {t : List (Ky × T)}, (∀ p ∈ t, p ∈ xs) → eqK t ys = (t.map fun p => kyK p.1).all fun k => (ys.find? fun p => decide (kyK p.1 = k)).isSome && eqKy xs ys k
  | [], _ => by simp [eqK]
  | (k, v) :: r, hm => by
    have ih := eqK_all (ys := ys) nd (t := r) fun q hq => hm q (List.mem_cons_of_mem _ hq)
    have hv := kget_of_mem nd (hm (k, v) List.mem_cons_self)
    have hs : (ys.find? fun p => decide (kyK p.1 = kyK k)).isSome = (kget k ys).isSome := by
      rw [← find_kget]
      simp
    rw [List.map_cons, List.all_cons, ← ih, eqK]
    show (eqP (k, v) ys && eqK r ys) = ((ys.find? fun p => decide (kyK p.1 = kyK k)).isSome && eqKy xs ys (kyK k) && eqK r ys)
    rw [hs]
    congr 1
    unfold eqP
    cases e : kget k ys with
    | none => rfl
    | some w =>
      rw [eqKy_get hv e]
      rfl
theorem kv_keys {ws : List (Key × V)} {us : List (Key × Value)} (r : KV ws us) : us.map (·.1) = ws.map (·.1) := r.keys.symm
theorem isSome_at {ts : List (Ky × T)} {ws : List (Key × V)} {us : List (Key × Value)} {I : Hp} (r : RelK I ts ws) (kv : KV ws us) (k : Key) : (valueAt us k).isSome = (ts.find? fun p => decide (kyK p.1 = k)).isSome := by
  have h1 := (kv.val k).isSome_eq
  rw [← h1]
  clear h1 kv
  induction ts generalizing ws with
  | nil =>
    cases r
    rfl
  | cons p q ih =>
    obtain ⟨v, rs, e, _, h2⟩ := r
    subst e
    rw [List.find?_cons]
    by_cases h : kyK p.1 = k
    · subst h
      rw [valV_pos rfl]
      simp
    · rw [valV_neg h, decide_eq_false h]
      exact ih h2
theorem leafT {P : Program} {w : World} {n : Nat} {u u' : Value} {b : Bool} (h : ∀ A : Around, A.units < cLine → SeqAt.EqAt A s u u' b) : PySem.W.EqTree P w s n u u' b :=
  .leaf fun A hu => h A (by omega)
theorem beq_of {α : Type} [DecidableEq α] {a b : α} : (a == b) = decide (a = b) := by
  by_cases h : a = b
  · subst h; simp
  · simp [h]
theorem str_same (x y : List Nat) : (mkS x == mkS y) = (x == y) := by
  by_cases h : x = y
  · subst h
    simp
  · rw [beq_eq_false_iff_ne.mpr h, beq_eq_false_iff_ne.mpr fun e => h (mkS_inj e)]
theorem dict_all {xs ys : List (Ky × T)} {vs ws : List (Key × V)} {us us' : List (Key × Value)} {I : Hp} (nd1 : (xs.map (·.1)).Nodup) (h2 : RelK I xs vs) (h4 : RelK I ys ws) (kv : KV vs us) (kv' : KV ws us') :
    (us.all fun p => (valueAt us' p.1).isSome && eqKy xs ys p.1) = eqK xs ys := by
  rw [eqK_all nd1 fun p hp => hp, ← relK_keys h2, ← kv_keys kv, List.all_map]
  congr 1
  funext p
  show _ = ((ys.find? fun q => decide (kyK q.1 = p.1)).isSome && eqKy xs ys p.1)
  rw [isSome_at h4 kv']
/-- two values at a key -/
theorem dict_pair {xs ys : List (Ky × T)} {vs ws : List (Key × V)} {us us' : List (Key × Value)} {I : Hp} {k : Key} {x y : Value} (nd1 : (xs.map (·.1)).Nodup) (h2 : RelK I xs vs) (h4 : RelK I ys ws) (kv : KV vs us) (kv' : KV ws us') (nd2 : (us.map (·.1)).Nodup)
    (hm : (k, x) ∈ us) (hy : valueAt us' k = some y) : ∃ ky tx ty vx vy, k = kyK ky ∧ (ky, tx) ∈ xs ∧ kget ky xs = some tx ∧ kget ky ys = some ty ∧ Rel I tx vx ∧ Rel I ty vy ∧ L2.RelV vx x ∧ L2.RelV vy y := by
  have mk : k ∈ xs.map fun p => kyK p.1 := by
    rw [← relK_keys h2, kv.keys]
    exact List.mem_map.mpr ⟨(k, x), hm, rfl⟩
  obtain ⟨p, hp, rfl⟩ := List.mem_map.mp mk
  obtain ⟨ky, tx⟩ := p
  have g1 := kget_of_mem nd1 hp
  have q1 := relK_get (k := ky) h2
  rw [g1] at q1
  obtain ⟨vx, q2, q3⟩ := q1
  have q4 := relK_get (k := ky) h4
  have r1 := kv.val (kyK ky)
  have r2 := kv'.val (kyK ky)
  rw [q2] at r1
  obtain ⟨x', r3, r4⟩ := r1.some_of
  have ex : x' = x := by
    have h5 := (PySem.valueAt_of_mem nd2 hm)
    rw [r3] at h5
    exact Option.some.inj h5
  subst ex
  cases g2 : kget ky ys with
  | none =>
    rw [g2] at q4
    have q4' : valV ws (kyK ky) = none := q4
    rw [q4', hy] at r2
    exact r2.elim
  | some ty =>
    rw [g2] at q4
    obtain ⟨vy, q5, q6⟩ := q4
    rw [q5, hy] at r2
    exact ⟨ky, tx, ty, vx, vy, rfl, hp, g1, g2, q3, q6, r4, r2⟩
/-- two things are compared -/
theorem eq_tree (J : Inv X pins σ H s) : ∀ (n : Nat) (t t' : T) (v v' : V) (u u' : Value), eqOk n t t' = true → Rel (conH H) t v → Rel (conH H) t' v' → RelV v u → RelV v' u' → PySem.W.EqTree X.prog X.w s n u u' (pyEq t t') := by
  have hf := inv_hf J
  have scal : ∀ (n : Nat) (t t' : T) (v v' : V) (u u' : Value), isScalar t = true → isScalar t' = true → Rel (conH H) t v → Rel (conH H) t' v' → RelV v u → RelV v' u' → PySem.W.EqTree X.prog X.w s n u u' (pyEq t t') := by
    intro n t t' v v' u u' h1 h2 r r' q q'
    cases t <;> cases t' <;> first | (simp [isScalar] at h1; done) | (simp [isScalar] at h2; done) | skip
    all_goals
      ((first | cases (show v = _ from r) | cases r.1); (first | cases (show v' = _ from r') | cases r'.1))
    all_goals (simp only [L2.RelV] at q q')
    case non.non => subst q q'; simpa [pyEq] using (PySem.W.EqTree.same (prog := X.prog) (w := X.w) (s := s) (n := n) (v := Value.none))
    case non.bl => subst q q'; simp only [pyEq]; exact leafT fun A _ => .none_bool _
    case non.int => obtain ⟨_, rfl⟩ := q'; subst q; simp only [pyEq]; exact leafT fun A _ => .none_int _ _
    case non.str => obtain ⟨_, rfl⟩ := q'; subst q; simp only [pyEq]; exact leafT fun A _ => .none_str _ _
    case bl.non => subst q q'; simp only [pyEq]; exact leafT fun A _ => .bool_none _
    case bl.bl => subst q q'; simp only [pyEq]; exact leafT fun A _ => .bool_bool _ _
    case bl.int => obtain ⟨_, rfl⟩ := q'; subst q; simp only [pyEq]; exact leafT fun A _ => .bool_int _ _ _
    case bl.str => obtain ⟨_, rfl⟩ := q'; subst q; simp only [pyEq]; exact leafT fun A _ => .bool_str _ _ _
    case int.non => obtain ⟨_, rfl⟩ := q; subst q'; simp only [pyEq]; exact leafT fun A _ => .int_none _ _
    case int.bl => obtain ⟨_, rfl⟩ := q; subst q'; simp only [pyEq]; exact leafT fun A _ => .int_bool _ _ _
    case int.int => obtain ⟨_, rfl⟩ := q; obtain ⟨_, rfl⟩ := q'; simp only [pyEq]; exact leafT fun A _ => .int_int _ _ _ _
    case int.str => obtain ⟨_, rfl⟩ := q; obtain ⟨_, rfl⟩ := q'; simp only [pyEq]; exact leafT fun A _ => .int_str _ _ _ _
    case str.non => obtain ⟨_, rfl⟩ := q; subst q'; simp only [pyEq]; exact leafT fun A _ => .str_none _ _
    case str.bl => obtain ⟨_, rfl⟩ := q; subst q'; simp only [pyEq]; exact leafT fun A _ => .str_bool _ _ _
    case str.int => obtain ⟨_, rfl⟩ := q; obtain ⟨_, rfl⟩ := q'; simp only [pyEq]; exact leafT fun A _ => .str_int _ _ _ _
    case str.str => obtain ⟨_, rfl⟩ := q; obtain ⟨_, rfl⟩ := q'; simp only [pyEq]; rw [← str_same]; exact leafT fun A _ => .str_str _ _ _ _
  intro n
  induction n with
  | zero =>
    intro t t' v v' u u' ok r r' q q'
    simp only [eqOk, Bool.and_eq_true] at ok
    exact scal 0 t t' v v' u u' ok.1 ok.2 r r' q q'
  | succ n ih =>
    intro t t' v v' u u' ok r r' q q'
    by_cases hv : v = v'
    · subst hv
      have e := rel_fun r r'
      subst e
      rw [pyEq_refl hf r]
      have e2 : u = u' ∨ (isScalar t = true) := by
        cases t with
        | lst xs =>
          obtain ⟨a, vs, rfl, _⟩ := r
          exact .inl ((show u = Value.ref a from q).trans (show u' = Value.ref a from q').symm)
        | tup xs =>
          obtain ⟨a, vs, rfl, _⟩ := r
          exact .inl ((show u = Value.ref a from q).trans (show u' = Value.ref a from q').symm)
        | dct xs =>
          obtain ⟨a, vs, rfl, _⟩ := r
          exact .inl ((show u = Value.ref a from q).trans (show u' = Value.ref a from q').symm)
        | _ => exact .inr rfl
      rcases e2 with rfl | e2
      · exact .same
      · have := scal (n + 1) t t v v u u' e2 e2 r r q q'
        rw [pyEq_refl hf r] at this
        exact this
    · have ne : ∀ {a b : Addr}, v = .ref a → v' = .ref b → a ≠ b := fun e1 e2 e => hv (by rw [e1, e2, e])
      cases t with
      | lst xs =>
        obtain ⟨a, vs, e1, h1, h2⟩ := id r
        obtain ⟨us, rv, il⟩ := con_list J h1
        subst e1
        cases (show u = Value.ref a from q)
        cases t' with
        | non => (first | cases (show v' = _ from r') | cases r'.1); cases q'; simp only [pyEq]; exact leafT fun A hu => .list_none il hu
        | bl b => (first | cases (show v' = _ from r') | cases r'.1); cases q'; simp only [pyEq]; exact leafT fun A hu => .list_bool _ il hu
        | int i => (first | cases (show v' = _ from r') | cases r'.1); obtain ⟨_, rfl⟩ := q'; simp only [pyEq]; exact leafT fun A hu => .list_int _ _ il hu
        | str x => (first | cases (show v' = _ from r') | cases r'.1); obtain ⟨_, rfl⟩ := q'; simp only [pyEq]; exact leafT fun A hu => .list_str _ _ il hu
        | tup ys =>
          obtain ⟨b, ws, e2, h3, h4⟩ := id r'
          obtain ⟨us', rv', il'⟩ := con_tuple J h3
          subst e2
          cases (show u' = Value.ref b from q')
          simp only [pyEq]
          exact leafT fun A hu => .list_tuple il il' hu
        | dct ys => simp [eqOk] at ok
        | lst ys =>
          obtain ⟨b, ws, e2, h3, h4⟩ := id r'
          obtain ⟨us', rv', il'⟩ := con_list J h3
          subst e2
          cases (show u' = Value.ref b from q')
          simp only [pyEq]
          rw [eqL_range]
          have l1 : xs.length = us.length := (relL_len h2).trans rv.length
          have l2 : ys.length = us'.length := (relL_len h4).trans rv'.length
          simp only [eqOk] at ok
          by_cases hl : xs.length = ys.length
          · rw [hl, Nat.min_self, beq_self_eq_true, Bool.and_true, l2]
            have hsz : us.toArray.size = us'.toArray.size := by rw [List.size_toArray, List.size_toArray]; omega
            have z := PySem.W.EqTree.lists (prog := X.prog) (w := X.w) (n := n) (e := eqAtP xs ys) (ne rfl rfl) il il' hsz fun j g1 g2 => by
              have g1' : j < us.length := by simpa using g1
              have g2' : j < us'.length := by simpa using g2
              obtain ⟨x, p1, p2⟩ := vals_at rv g1'
              obtain ⟨y, p3, p4⟩ := vals_at rv' g2'
              obtain ⟨tx, p5, p6⟩ := relL_at h2 p1
              obtain ⟨ty, p7, p8⟩ := relL_at h4 p3
              rw [eqAtP_get p5 p7]
              have := ih tx ty x y us[j] us'[j] (zipAll_at ok p5 p7) p6 p8 p2 p4
              simpa using this
            have e3 : us.toArray.size = us'.length := by rw [hsz, List.size_toArray]
            rw [e3] at z
            exact z
          · rw [beq_eq_false_iff_ne.mpr hl, Bool.and_false]
            refine .listsLen (ne rfl rfl) il il' ?_
            simp only [List.size_toArray, bne_iff_ne, ne_eq]
            omega
      | tup xs =>
        obtain ⟨a, vs, e1, h1, h2⟩ := id r
        obtain ⟨us, rv, il⟩ := con_tuple J h1
        subst e1
        cases (show u = Value.ref a from q)
        cases t' with
        | non => (first | cases (show v' = _ from r') | cases r'.1); cases q'; simp only [pyEq]; exact leafT fun A hu => .tuple_none il hu
        | bl b => (first | cases (show v' = _ from r') | cases r'.1); cases q'; simp only [pyEq]; exact leafT fun A hu => .tuple_bool _ il hu
        | int i => (first | cases (show v' = _ from r') | cases r'.1); obtain ⟨_, rfl⟩ := q'; simp only [pyEq]; exact leafT fun A hu => .tuple_int _ _ il hu
        | str x => (first | cases (show v' = _ from r') | cases r'.1); obtain ⟨_, rfl⟩ := q'; simp only [pyEq]; exact leafT fun A hu => .tuple_str _ _ il hu
        | lst ys =>
          obtain ⟨b, ws, e2, h3, h4⟩ := id r'
          obtain ⟨us', rv', il'⟩ := con_list J h3
          subst e2
          cases (show u' = Value.ref b from q')
          simp only [pyEq]
          exact leafT fun A hu => .tuple_list il il' hu
        | dct ys => simp [eqOk] at ok
        | tup ys =>
          obtain ⟨b, ws, e2, h3, h4⟩ := id r'
          obtain ⟨us', rv', il'⟩ := con_tuple J h3
          subst e2
          cases (show u' = Value.ref b from q')
          simp only [pyEq]
          rw [eqL_range]
          have l1 : xs.length = us.length := (relL_len h2).trans rv.length
          have l2 : ys.length = us'.length := (relL_len h4).trans rv'.length
          simp only [eqOk] at ok
          have z := PySem.W.EqTree.tuples (prog := X.prog) (w := X.w) (n := n) (e := eqAtP xs ys) (ne rfl rfl) il il' fun j g1 g2 => by
            have g1' : j < us.length := by simpa using g1
            have g2' : j < us'.length := by simpa using g2
            obtain ⟨x, p1, p2⟩ := vals_at rv g1'
            obtain ⟨y, p3, p4⟩ := vals_at rv' g2'
            obtain ⟨tx, p5, p6⟩ := relL_at h2 p1
            obtain ⟨ty, p7, p8⟩ := relL_at h4 p3
            rw [eqAtP_get p5 p7]
            have := ih tx ty x y us[j] us'[j] (zipAll_at ok p5 p7) p6 p8 p2 p4
            simpa using this
          rw [List.size_toArray, List.size_toArray, ← l1, ← l2] at z
          exact z
      | dct xs =>
        cases t' with
        | dct ys =>
          obtain ⟨a, vs, e1, h1, h2⟩ := id r
          obtain ⟨n1, us, kv, dd⟩ := con_dict J h1
          obtain ⟨b, ws, e2, h3, h4⟩ := id r'
          obtain ⟨n2, us', kv', dd'⟩ := con_dict J h3
          subst e1 e2
          cases (show u = Value.ref a from q)
          cases (show u' = Value.ref b from q')
          have nd1 := nd_ky h2 (hf.k a vs (rd_of_con h1)).2
          have z := PySem.W.EqTree.dicts (prog := X.prog) (w := X.w) (n := n) (e := eqKy xs ys) (ne rfl rfl) n1 n2 dd dd' fun k x y hm hy => by
            have nd2 : (us.map (·.1)).Nodup := by
              obtain ⟨_, _, _, _, _, _, _, _, z⟩ := dd
              exact z
            obtain ⟨ky, tx, ty, vx, vy, rfl, hp, g1, g2, q3, q6, r4, r2⟩ := dict_pair nd1 h2 h4 kv kv' nd2 hm hy
            show PySem.W.EqTree X.prog X.w s n x y (eqKy xs ys (kyK ky))
            rw [eqKy_get g1 g2]
            refine ih tx ty vx vy x y ?_ q3 q6 r4 r2
            simp only [eqOk, List.all_eq_true] at ok
            have o1 := ok _ hp
            simp only [g2] at o1
            exact o1
          simp only [pyEq]
          have l1 : us.length = xs.length := by rw [← kv.length, ← relK_len h2]
          have l2 : us'.length = ys.length := by rw [← kv'.length, ← relK_len h4]
          rw [dict_all nd1 h2 h4 kv kv', l1, l2] at z
          exact z
        | _ => simp [eqOk] at ok
      | non =>
        first | cases (show v = _ from r) | cases r.1
        cases q
        cases t' with
        | lst ys =>
          obtain ⟨b, ws, e2, h3, h4⟩ := id r'
          obtain ⟨us', rv', il'⟩ := con_list J h3
          subst e2
          cases (show u' = Value.ref b from q')
          simp only [pyEq]
          exact leafT fun A hu => .none_list il' hu
        | tup ys =>
          obtain ⟨b, ws, e2, h3, h4⟩ := id r'
          obtain ⟨us', rv', il'⟩ := con_tuple J h3
          subst e2
          cases (show u' = Value.ref b from q')
          simp only [pyEq]
          exact leafT fun A hu => .none_tuple il' hu
        | dct ys => simp [eqOk] at ok
        | _ => exact scal (n + 1) _ _ _ _ _ _ rfl rfl r r' rfl q'
      | bl b =>
        first | cases (show v = _ from r) | cases r.1
        cases q
        cases t' with
        | lst ys =>
          obtain ⟨b, ws, e2, h3, h4⟩ := id r'
          obtain ⟨us', rv', il'⟩ := con_list J h3
          subst e2
          cases (show u' = Value.ref b from q')
          simp only [pyEq]
          exact leafT fun A hu => .bool_list _ il' hu
        | tup ys =>
          obtain ⟨b, ws, e2, h3, h4⟩ := id r'
          obtain ⟨us', rv', il'⟩ := con_tuple J h3
          subst e2
          cases (show u' = Value.ref b from q')
          simp only [pyEq]
          exact leafT fun A hu => .bool_tuple _ il' hu
        | dct ys => simp [eqOk] at ok
        | _ => exact scal (n + 1) _ _ _ _ _ _ rfl rfl r r' rfl q'
      | int i =>
        first | cases (show v = _ from r) | cases r.1
        obtain ⟨tk, rfl⟩ := q
        cases t' with
        | lst ys =>
          obtain ⟨b, ws, e2, h3, h4⟩ := id r'
          obtain ⟨us', rv', il'⟩ := con_list J h3
          subst e2
          cases (show u' = Value.ref b from q')
          simp only [pyEq]
          exact leafT fun A hu => .int_list _ _ il' hu
        | tup ys =>
          obtain ⟨b, ws, e2, h3, h4⟩ := id r'
          obtain ⟨us', rv', il'⟩ := con_tuple J h3
          subst e2
          cases (show u' = Value.ref b from q')
          simp only [pyEq]
          exact leafT fun A hu => .int_tuple _ _ il' hu
        | dct ys => simp [eqOk] at ok
        | _ => exact scal (n + 1) _ _ _ _ _ _ rfl rfl r r' ⟨tk, rfl⟩ q'
      | str x =>
        first | cases (show v = _ from r) | cases r.1
        obtain ⟨tk, rfl⟩ := q
        cases t' with
        | lst ys =>
          obtain ⟨b, ws, e2, h3, h4⟩ := id r'
          obtain ⟨us', rv', il'⟩ := con_list J h3
          subst e2
          cases (show u' = Value.ref b from q')
          simp only [pyEq]
          exact leafT fun A hu => .str_list _ _ il' hu
        | tup ys =>
          obtain ⟨b, ws, e2, h3, h4⟩ := id r'
          obtain ⟨us', rv', il'⟩ := con_tuple J h3
          subst e2
          cases (show u' = Value.ref b from q')
          simp only [pyEq]
          exact leafT fun A hu => .str_tuple _ _ il' hu
        | dct ys => simp [eqOk] at ok
        | _ => exact scal (n + 1) _ _ _ _ _ _ rfl rfl r r' ⟨tk, rfl⟩ q'
theorem dict_kids (J : Inv X pins σ H s) {xs ys : List (Ky × T)} {vs ws : List (Key × V)} {us us' : List (Key × Value)} {a : Addr} {k : Key} {x y : Value} {n : Nat} (ok : eqOk (n + 1) (.dct xs) (.dct ys) = true) (nd1 : (xs.map (·.1)).Nodup)
    (h2 : RelK (conH H) xs vs) (h4 : RelK (conH H) ys ws) (kv : KV vs us) (kv' : KV ws us') (dd : s.heap.DictOf (mixKind X.prog X.w) a us) (hm : (k, x) ∈ us) (hy : valueAt us' k = some y) : PySem.W.EqTree X.prog X.w s n x y (eqKy xs ys k) := by
  have nd2 : (us.map (·.1)).Nodup := by
    obtain ⟨_, _, _, _, _, _, _, _, z⟩ := dd
    exact z
  obtain ⟨ky, tx, ty, vx, vy, rfl, hp, g1, g2, q3, q6, r4, r2⟩ := dict_pair nd1 h2 h4 kv kv' nd2 hm hy
  rw [eqKy_get g1 g2]
  refine eq_tree J n tx ty vx vy x y ?_ q3 q6 r4 r2
  simp only [eqOk, List.all_eq_true] at ok
  have o1 := ok _ hp
  simp only [g2] at o1
  exact o1
end
end Cab

set_option Elab.async false
set_option linter.all false
set_option maxRecDepth 100000
set_option maxHeartbeats 4000000
namespace Cab
open PySem PySem.SeqAt
open PySem.AutoSeq1 (wpAny_loadPart')
open PySem.MeetsSeq PySem.MeetsSeq2 PySem.MeetsSeq3
section
/-- x < y gives b and changes nothing, of this program and this world -/
def LtIn (prog : Program) (w : World) (A : Around) (s : Shared) (x y : Value) (b : Bool) : Prop :=
  ∀ (E : Value → Shared → Prop) (Q : Value → Shared → Prop), Q (.bool b) s → wpAny (model prog w) A (richCompare .Lt x y) Q E s
variable {prog : Program} {w : World}
theorem tuple_ltIn (l b : Addr) (items items2 : Array Value) (n n2 : Nat) (dd dd2 : Option Addr) (sl sl2 : Array (Option Value)) (e r : Nat → Bool) :
    MeetsIn prog w (Builtin.«tuple.__lt__» ⟨[.ref l, .ref b], []⟩)
      (fun A R s => s.heap.get? l = some { cls := .type "tuple", dict := dd, data := .seq items n, slots := sl } ∧ s.heap.get? b = some { cls := .type "tuple", dict := dd2, data := .seq items2 n2, slots := sl2 } ∧
        (∀ j (h1 : j < items.size) (h2 : j < items2.size), EqIn prog w A.in1 s items[j] items2[j] (e j)) ∧
        (∀ j (h1 : j < items.size) (h2 : j < items2.size), (∀ i, i < j → e i = true) → e j = false → LtIn prog w A.in1 s items[j] items2[j] (r j)) ∧
        R (.ok (.ret (.bool (Ob.lexAt e r (decide (items.size < items2.size)) 0 (min items.size items2.size))))) s) :=
  .of_wp fun A R s h => by
    obtain ⟨hp, g, d, tk, os⟩ := s; obtain ⟨hl, hb, he, hr, h⟩ := h
    have f2 := AutoSeq1.sub_tuple_tuple
    have hZ : (items.toList.zip items2.toList).length = min items.size items2.size := by simp
    wp_walk using wpAny_loadPart' hl, wpAny_loadPart' hb, wpAny_forIn_list _ (fun rest b s' => b.1 = none ∧ s' = ⟨hp, g, d, tk, os⟩ ∧ ∃ i, rest = (items.toList.zip items2.toList).drop i ∧ (∀ i', i' < i → e i' = true) ∧
      R (.ok (.ret (.bool (Ob.lexAt e r (decide (items.size < items2.size)) i (min items.size items2.size - i))))) ⟨hp, g, d, tk, os⟩) _
    case turn =>
      rintro ⟨y, x⟩ rest b s' ⟨hb', rfl, i, hz, hpre, hR⟩
      have hlt : i < (items.toList.zip items2.toList).length := by
        rcases Nat.lt_or_ge i (items.toList.zip items2.toList).length with h' | h'
        · exact h'
        · rw [List.drop_of_length_le h'] at hz; cases hz
      have hm : i < min items.size items2.size := hZ ▸ hlt
      have h1 : i < items.size := Nat.lt_of_lt_of_le hm (Nat.min_le_left _ _)
      have h2 : i < items2.size := Nat.lt_of_lt_of_le hm (Nat.min_le_right _ _)
      rw [List.drop_eq_getElem_cons hlt] at hz
      injection hz with hyx hrest
      have hy : y = items[i] := by have := congrArg Prod.fst hyx; simpa using this
      have hx : x = items2[i] := by have := congrArg Prod.snd hyx; simpa using this
      subst hy hx
      rw [show min items.size items2.size - i = (min items.size items2.size - (i + 1)) + 1 by omega, Ob.lexAt_succ] at hR
      refine wpAny_bind (he i h1 h2 _ _ ?_)
      cases hei : e i with
      | true =>
        rw [hei, if_pos rfl] at hR
        wp_walk
        refine ⟨rfl, rfl, i + 1, hrest, fun i' hi' => ?_, hR⟩
        by_cases q : i' = i
        · rw [q]; exact hei
        · exact hpre i' (by omega)
      | false =>
        rw [hei, if_neg Bool.false_ne_true] at hR
        have hri := fun E Q => hr i h1 h2 hpre hei E Q
        wp_walk using hri
        exact ⟨_, rfl, by simpa using hR⟩
    case fin =>
      rintro ⟨b1, b2⟩ s' ⟨hb', rfl, i, hz, hpre, hR⟩
      simp only at hb'
      subst hb'
      have hge : min items.size items2.size ≤ i := by
        rcases Nat.lt_or_ge i (items.toList.zip items2.toList).length with h' | h'
        · rw [List.drop_eq_getElem_cons h'] at hz; cases hz
        · exact hZ ▸ h'
      rw [Nat.sub_eq_zero_of_le hge, Ob.lexAt_zero] at hR
      wp_walk
      exact ⟨_, rfl, by simpa [Builtin.Tuple.tupleCompareSizes] using hR⟩
    case h =>
      exact ⟨rfl, rfl, 0, rfl, fun i' h' => by omega, by simpa using h⟩
end
section
variable {prog : Program} {w : World}
theorem ltIn_tuples {A : Around} {s : Shared} {l b : Addr} {items items2 : Array Value} {e r : Nat → Bool} (hl : s.heap.IsTuple l items) (hb : s.heap.IsTuple b items2) (hu : A.units < cLine)
    (he : ∀ j (h1 : j < items.size) (h2 : j < items2.size), EqIn prog w A.in1 s items[j] items2[j] (e j))
    (hr : ∀ j (h1 : j < items.size) (h2 : j < items2.size), (∀ i, i < j → e i = true) → e j = false → LtIn prog w A.in1 s items[j] items2[j] (r j)) :
    LtIn prog w A s (.ref l) (.ref b) (Ob.lexAt e r (decide (items.size < items2.size)) 0 (min items.size items2.size)) := fun E Q h => by
  obtain ⟨⟨cls, dd, data, sl⟩, ho, hc, n, hd⟩ := id hl
  obtain ⟨⟨cls2, dd2, data2, sl2⟩, ho2, hc2, n2, hd2⟩ := id hb
  simp only at hc hd hc2 hd2
  subst hc hd hc2 hd2
  exact wpAny_richCompare_same_room (T := "tuple") (op := .Lt) ⟨_, ho, rfl⟩ ⟨_, ho2, rfl⟩ F.slot_tuple_lt (call_meetsIn F.slot_tuple_lt ⟨_, ho, rfl⟩ F.entry_tuple_lt (F.args_tuple_lt_2 _ _) (tuple_ltIn l b items items2 n n2 dd dd2 sl sl2 e r)
    ⟨ho, ho2, he, hr, show Value.bool (Ob.lexAt e r (decide (items.size < items2.size)) 0 (min items.size items2.size)) ≠ Value.notImplemented ∧ Q (.bool (Ob.lexAt e r (decide (items.size < items2.size)) 0 (min items.size items2.size))) s from ⟨(fun x => nomatch x), h⟩⟩) hu
end
/-- which the first unequal place decides, as the lists have it -/
def ltAtP (xs ys : List T) (j : Nat) : Bool := match xs[j]?, ys[j]? with
  | some x, some y => tupLt x y
  | _, _ => false
theorem lexAt_shift (e r : Nat → Bool) (z : Bool) : ∀ (k i : Nat), Ob.lexAt e r z (i + 1) k = Ob.lexAt (fun j => e (j + 1)) (fun j => r (j + 1)) z i k
  | 0, i => rfl
  | k + 1, i => by
    rw [Ob.lexAt_succ, Ob.lexAt_succ, lexAt_shift e r z k (i + 1)]
theorem lexAt_tups : ∀ (xs ys : List T), Ob.lexAt (eqAtP xs ys) (ltAtP xs ys) (decide (xs.length < ys.length)) 0 (min xs.length ys.length) = tupsLt xs ys
  | [], [] => by simp [tupsLt, Ob.lexAt]
  | [], y :: ys => by simp [tupsLt, Ob.lexAt]
  | x :: xs, [] => by simp [tupsLt, Ob.lexAt]
  | x :: xs, y :: ys => by
    have ih := lexAt_tups xs ys
    rw [List.length_cons, List.length_cons, show min (xs.length + 1) (ys.length + 1) = min xs.length ys.length + 1 by omega, Ob.lexAt_succ, lexAt_shift, tupsLt]
    have h1 : eqAtP (x :: xs) (y :: ys) 0 = pyEq x y := rfl
    have h2 : ltAtP (x :: xs) (y :: ys) 0 = tupLt x y := rfl
    have h3 : (fun j => eqAtP (x :: xs) (y :: ys) (j + 1)) = eqAtP xs ys := rfl
    have h4 : (fun j => ltAtP (x :: xs) (y :: ys) (j + 1)) = ltAtP xs ys := rfl
    rw [h1, h2, h3, h4, show decide (xs.length + 1 < ys.length + 1) = decide (xs.length < ys.length) by simp, ih]
theorem firstOk_at {f : T → T → Bool} : ∀ {xs ys : List T} {j : Nat} {x y : T}, firstOk f xs ys = true → xs[j]? = some x → ys[j]? = some y → (∀ i, i < j → eqAtP xs ys i = true) → pyEq x y = false → f x y = true
  | [], _, j, x, y, _, h1, _, _, _ => by simp at h1
  | _ :: _, [], j, x, y, _, _, h2, _, _ => by simp at h2
  | a :: xs, b :: ys, j, x, y, h, h1, h2, hp, hn => by
    rw [firstOk] at h
    cases j with
    | zero =>
      cases h1
      cases h2
      rw [if_neg (by rw [hn]; exact Bool.false_ne_true)] at h
      exact h
    | succ j =>
      rw [if_pos (show pyEq a b = true from hp 0 (by omega))] at h
      exact firstOk_at (xs := xs) (ys := ys) (j := j) h h1 h2 (fun i hi => hp (i + 1) (by omega)) hn
section
open PySem.Spec PyProof.Rows L2
variable {X : Cx} {pins : List (Addr × Obj)} {σ : St} {H : Hp} {s : Shared}
/-- < of two things -/
theorem lt_tree (strEq : ∀ x y : List Nat, strLt x y = decide (x < y)) (J : Inv X pins σ H s) : ∀ (n : Nat) (t t' : T) (v v' : V) (u u' : Value), ltOk n t t' = true → Rel (conH H) t v → Rel (conH H) t' v' → L2.RelV v u → L2.RelV v' u' → ∀ A : Around, A.units + n < cLine → LtIn X.prog X.w A s u u' (tupLt t t') := by
  intro n
  induction n with
  | zero =>
    intro t t' v v' u u' ok r r' q q' A hA
    cases t <;> cases t' <;> first | (simp [ltOk] at ok; done) | skip
    case int.int =>
      cases (show v = _ from r)
      cases (show v' = _ from r')
      obtain ⟨_, rfl⟩ := q
      obtain ⟨_, rfl⟩ := q'
      exact fun E Q h => PyProof.Rows.lt_int h
    case str.str =>
      cases r.1
      cases r'.1
      obtain ⟨_, rfl⟩ := q
      obtain ⟨_, rfl⟩ := q'
      refine fun E Q h => PyProof.Rows.lt_str ?_
      rw [tupLt, strEq] at h
      rw [mkS_toList, mkS_toList]
      exact h
  | succ n ih =>
    intro t t' v v' u u' ok r r' q q' A hA
    cases t <;> cases t' <;> first | (simp [ltOk] at ok; done) | skip
    case int.int =>
      cases (show v = _ from r)
      cases (show v' = _ from r')
      obtain ⟨_, rfl⟩ := q
      obtain ⟨_, rfl⟩ := q'
      exact fun E Q h => PyProof.Rows.lt_int h
    case str.str =>
      cases r.1
      cases r'.1
      obtain ⟨_, rfl⟩ := q
      obtain ⟨_, rfl⟩ := q'
      refine fun E Q h => PyProof.Rows.lt_str ?_
      rw [tupLt, strEq] at h
      rw [mkS_toList, mkS_toList]
      exact h
    case tup.tup xs ys =>
      obtain ⟨a, vs, rfl, h1, h2⟩ := id r
      obtain ⟨us, rv, il⟩ := con_tuple J h1
      obtain ⟨b, ws, rfl, h3, h4⟩ := id r'
      obtain ⟨us', rv', il'⟩ := con_tuple J h3
      cases (show u = Value.ref a from q)
      cases (show u' = Value.ref b from q')
      have l1 : xs.length = us.length := (relL_len h2).trans rv.length
      have l2 : ys.length = us'.length := (relL_len h4).trans rv'.length
      simp only [ltOk, Bool.and_eq_true] at ok
      have z := ltIn_tuples (prog := X.prog) (w := X.w) (A := A) (e := eqAtP xs ys) (r := ltAtP xs ys) il il' (by omega) (fun j g1 g2 => by
          have g1' : j < us.length := by simpa using g1
          have g2' : j < us'.length := by simpa using g2
          obtain ⟨x, p1, p2⟩ := vals_at rv g1'
          obtain ⟨y, p3, p4⟩ := vals_at rv' g2'
          obtain ⟨tx, p5, p6⟩ := relL_at h2 p1
          obtain ⟨ty, p7, p8⟩ := relL_at h4 p3
          rw [eqAtP_get p5 p7]
          have := (eq_tree J n tx ty x y us[j] us'[j] (zipAll_at ok.1 p5 p7) p6 p8 p2 p4).at A.in1 (by show A.units + 1 + n < cLine; omega)
          simpa using this) (fun j g1 g2 hp hn => by
          have g1' : j < us.length := by simpa using g1
          have g2' : j < us'.length := by simpa using g2
          obtain ⟨x, p1, p2⟩ := vals_at rv g1'
          obtain ⟨y, p3, p4⟩ := vals_at rv' g2'
          obtain ⟨tx, p5, p6⟩ := relL_at h2 p1
          obtain ⟨ty, p7, p8⟩ := relL_at h4 p3
          have e1 : ltAtP xs ys j = tupLt tx ty := by unfold ltAtP; rw [p5, p7]
          rw [eqAtP_get p5 p7] at hn
          have := ih tx ty x y us[j] us'[j] (firstOk_at ok.2 p5 p7 hp hn) p6 p8 p2 p4 A.in1 (by show A.units + 1 + n < cLine; omega)
          rw [e1]
          simpa using this)
      rw [List.size_toArray, List.size_toArray, ← l1, ← l2, lexAt_tups] at z
      exact z
end
end Cab

set_option Elab.async false
set_option linter.all false
set_option maxRecDepth 100000
set_option maxHeartbeats 4000000
namespace Cab
open PySem PySem.Spec PyProof.Rows L2
section
variable {X : Cx} {pins : List (Addr × Obj)} {σ : St} {H : Hp} {s : Shared}
/-- two things without dicts are compared -/
theorem eq_at (J : Inv X pins σ H s) : ∀ (n : Nat) (A : Around) (t t' : T) (v v' : V) (u u' : Value), A.units + n < cLine → nodct n t = true → nodct n t' = true → Rel (conH H) t v → Rel (conH H) t' v' → L2.RelV v u → L2.RelV v' u' → SeqAt.EqAt A s u u' (pyEq t t') := by
  have hf := inv_hf J
  have scal : ∀ (A : Around) (t t' : T) (v v' : V) (u u' : Value), isScalar t = true → isScalar t' = true → Rel (conH H) t v → Rel (conH H) t' v' → L2.RelV v u → L2.RelV v' u' → SeqAt.EqAt A s u u' (pyEq t t') := by
    intro A t t' v v' u u' h1 h2 r r' q q'
    cases t <;> cases t' <;> first | (simp [isScalar] at h1; done) | (simp [isScalar] at h2; done) | skip
    all_goals
      ((first | cases (show v = _ from r) | cases r.1); (first | cases (show v' = _ from r') | cases r'.1))
    all_goals (simp only [L2.RelV] at q q')
    case non.non => subst q q'; simpa [pyEq] using (SeqAt.EqAt.same (A := A) (s := s) Value.none)
    case non.bl => subst q q'; simp only [pyEq]; exact .none_bool _
    case non.int => obtain ⟨_, rfl⟩ := q'; subst q; simp only [pyEq]; exact .none_int _ _
    case non.str => obtain ⟨_, rfl⟩ := q'; subst q; simp only [pyEq]; exact .none_str _ _
    case bl.non => subst q q'; simp only [pyEq]; exact .bool_none _
    case bl.bl => subst q q'; simp only [pyEq]; exact .bool_bool _ _
    case bl.int => obtain ⟨_, rfl⟩ := q'; subst q; simp only [pyEq]; exact .bool_int _ _ _
    case bl.str => obtain ⟨_, rfl⟩ := q'; subst q; simp only [pyEq]; exact .bool_str _ _ _
    case int.non => obtain ⟨_, rfl⟩ := q; subst q'; simp only [pyEq]; exact .int_none _ _
    case int.bl => obtain ⟨_, rfl⟩ := q; subst q'; simp only [pyEq]; exact .int_bool _ _ _
    case int.int => obtain ⟨_, rfl⟩ := q; obtain ⟨_, rfl⟩ := q'; simp only [pyEq]; exact .int_int _ _ _ _
    case int.str => obtain ⟨_, rfl⟩ := q; obtain ⟨_, rfl⟩ := q'; simp only [pyEq]; exact .int_str _ _ _ _
    case str.non => obtain ⟨_, rfl⟩ := q; subst q'; simp only [pyEq]; exact .str_none _ _
    case str.bl => obtain ⟨_, rfl⟩ := q; subst q'; simp only [pyEq]; exact .str_bool _ _ _
    case str.int => obtain ⟨_, rfl⟩ := q; obtain ⟨_, rfl⟩ := q'; simp only [pyEq]; exact .str_int _ _ _ _
    case str.str => obtain ⟨_, rfl⟩ := q; obtain ⟨_, rfl⟩ := q'; simp only [pyEq]; rw [← str_same]; exact .str_str _ _ _ _
  intro n
  induction n with
  | zero =>
    intro A t t' v v' u u' hu ok ok' r r' q q'
    simp only [nodct] at ok ok'
    exact scal A t t' v v' u u' ok ok' r r' q q'
  | succ n ih =>
    intro A t t' v v' u u' hu ok ok' r r' q q'
    have hA : A.units < cLine := by omega
    have hA1 : A.in1.units + n < cLine := by show A.units + 1 + n < cLine; omega
    by_cases hv : v = v'
    · subst hv
      have e := rel_fun r r'
      subst e
      rw [pyEq_refl hf r]
      have e2 : u = u' ∨ (isScalar t = true) := by
        cases t with
        | lst xs =>
          obtain ⟨a, vs, rfl, _⟩ := r
          exact .inl ((show u = Value.ref a from q).trans (show u' = Value.ref a from q').symm)
        | tup xs =>
          obtain ⟨a, vs, rfl, _⟩ := r
          exact .inl ((show u = Value.ref a from q).trans (show u' = Value.ref a from q').symm)
        | dct xs =>
          obtain ⟨a, vs, rfl, _⟩ := r
          exact .inl ((show u = Value.ref a from q).trans (show u' = Value.ref a from q').symm)
        | _ => exact .inr rfl
      rcases e2 with rfl | e2
      · exact .same _
      · have := scal A t t v v u u' e2 e2 r r q q'
        rw [pyEq_refl hf r] at this
        exact this
    · have ne : ∀ {a b : Addr}, v = .ref a → v' = .ref b → a ≠ b := fun e1 e2 e => hv (by rw [e1, e2, e])
      cases t with
      | lst xs =>
        obtain ⟨a, vs, e1, h1, h2⟩ := id r
        obtain ⟨us, rv, il⟩ := con_list J h1
        subst e1
        cases (show u = Value.ref a from q)
        cases t' with
        | non => (first | cases (show v' = _ from r') | cases r'.1); cases q'; simp only [pyEq]; exact .list_none il hA
        | bl b => (first | cases (show v' = _ from r') | cases r'.1); cases q'; simp only [pyEq]; exact .list_bool _ il hA
        | int i => (first | cases (show v' = _ from r') | cases r'.1); obtain ⟨_, rfl⟩ := q'; simp only [pyEq]; exact .list_int _ _ il hA
        | str x => (first | cases (show v' = _ from r') | cases r'.1); obtain ⟨_, rfl⟩ := q'; simp only [pyEq]; exact .list_str _ _ il hA
        | tup ys =>
          obtain ⟨b, ws, e2, h3, h4⟩ := id r'
          obtain ⟨us', rv', il'⟩ := con_tuple J h3
          subst e2
          cases (show u' = Value.ref b from q')
          simp only [pyEq]
          exact .list_tuple il il' hA
        | dct ys => simp [nodct] at ok'
        | lst ys =>
          obtain ⟨b, ws, e2, h3, h4⟩ := id r'
          obtain ⟨us', rv', il'⟩ := con_list J h3
          subst e2
          cases (show u' = Value.ref b from q')
          simp only [pyEq]
          rw [eqL_range]
          have l1 : xs.length = us.length := (relL_len h2).trans rv.length
          have l2 : ys.length = us'.length := (relL_len h4).trans rv'.length
          simp only [nodct, List.all_eq_true] at ok ok'
          by_cases hl : xs.length = ys.length
          · rw [hl, Nat.min_self, beq_self_eq_true, Bool.and_true, l2]
            have hsz : us.toArray.size = us'.toArray.size := by rw [List.size_toArray, List.size_toArray]; omega
            have z := SeqAt.EqAt.of_refs (ne rfl rfl) (SeqAt.RcAt.lists (e := eqAtP xs ys) il il' hsz hA fun j g1 g2 => by
              have g1' : j < us.length := by simpa using g1
              have g2' : j < us'.length := by simpa using g2
              obtain ⟨x, p1, p2⟩ := vals_at rv g1'
              obtain ⟨y, p3, p4⟩ := vals_at rv' g2'
              obtain ⟨tx, p5, p6⟩ := relL_at h2 p1
              obtain ⟨ty, p7, p8⟩ := relL_at h4 p3
              rw [eqAtP_get p5 p7]
              have := ih A.in1 tx ty x y us[j] us'[j] hA1 (ok _ (List.mem_of_getElem? p5)) (ok' _ (List.mem_of_getElem? p7)) p6 p8 p2 p4
              simpa using this)
            have e3 : us.toArray.size = us'.length := by rw [hsz, List.size_toArray]
            rw [e3] at z
            exact z
          · rw [beq_eq_false_iff_ne.mpr hl, Bool.and_false]
            refine SeqAt.EqAt.of_refs (ne rfl rfl) (SeqAt.RcAt.lists_lengths il il' ?_ hA)
            simp only [List.size_toArray, bne_iff_ne, ne_eq]
            omega
      | tup xs =>
        obtain ⟨a, vs, e1, h1, h2⟩ := id r
        obtain ⟨us, rv, il⟩ := con_tuple J h1
        subst e1
        cases (show u = Value.ref a from q)
        cases t' with
        | non => (first | cases (show v' = _ from r') | cases r'.1); cases q'; simp only [pyEq]; exact .tuple_none il hA
        | bl b => (first | cases (show v' = _ from r') | cases r'.1); cases q'; simp only [pyEq]; exact .tuple_bool _ il hA
        | int i => (first | cases (show v' = _ from r') | cases r'.1); obtain ⟨_, rfl⟩ := q'; simp only [pyEq]; exact .tuple_int _ _ il hA
        | str x => (first | cases (show v' = _ from r') | cases r'.1); obtain ⟨_, rfl⟩ := q'; simp only [pyEq]; exact .tuple_str _ _ il hA
        | lst ys =>
          obtain ⟨b, ws, e2, h3, h4⟩ := id r'
          obtain ⟨us', rv', il'⟩ := con_list J h3
          subst e2
          cases (show u' = Value.ref b from q')
          simp only [pyEq]
          exact .tuple_list il il' hA
        | dct ys => simp [nodct] at ok'
        | tup ys =>
          obtain ⟨b, ws, e2, h3, h4⟩ := id r'
          obtain ⟨us', rv', il'⟩ := con_tuple J h3
          subst e2
          cases (show u' = Value.ref b from q')
          simp only [pyEq]
          rw [eqL_range]
          have l1 : xs.length = us.length := (relL_len h2).trans rv.length
          have l2 : ys.length = us'.length := (relL_len h4).trans rv'.length
          simp only [nodct, List.all_eq_true] at ok ok'
          have z := SeqAt.EqAt.of_refs (ne rfl rfl) (SeqAt.RcAt.tuples (e := eqAtP xs ys) il il' hA fun j g1 g2 => by
            have g1' : j < us.length := by simpa using g1
            have g2' : j < us'.length := by simpa using g2
            obtain ⟨x, p1, p2⟩ := vals_at rv g1'
            obtain ⟨y, p3, p4⟩ := vals_at rv' g2'
            obtain ⟨tx, p5, p6⟩ := relL_at h2 p1
            obtain ⟨ty, p7, p8⟩ := relL_at h4 p3
            rw [eqAtP_get p5 p7]
            have := ih A.in1 tx ty x y us[j] us'[j] hA1 (ok _ (List.mem_of_getElem? p5)) (ok' _ (List.mem_of_getElem? p7)) p6 p8 p2 p4
            simpa using this)
          rw [List.size_toArray, List.size_toArray, ← l1, ← l2] at z
          exact z
      | dct xs => simp [nodct] at ok
      | non =>
        first | cases (show v = _ from r) | cases r.1
        cases q
        cases t' with
        | lst ys =>
          obtain ⟨b, ws, e2, h3, h4⟩ := id r'
          obtain ⟨us', rv', il'⟩ := con_list J h3
          subst e2
          cases (show u' = Value.ref b from q')
          simp only [pyEq]
          exact .none_list il' hA
        | tup ys =>
          obtain ⟨b, ws, e2, h3, h4⟩ := id r'
          obtain ⟨us', rv', il'⟩ := con_tuple J h3
          subst e2
          cases (show u' = Value.ref b from q')
          simp only [pyEq]
          exact .none_tuple il' hA
        | dct ys => simp [nodct] at ok'
        | _ => exact scal A _ _ _ _ _ _ rfl rfl r r' rfl q'
      | bl b =>
        first | cases (show v = _ from r) | cases r.1
        cases q
        cases t' with
        | lst ys =>
          obtain ⟨b, ws, e2, h3, h4⟩ := id r'
          obtain ⟨us', rv', il'⟩ := con_list J h3
          subst e2
          cases (show u' = Value.ref b from q')
          simp only [pyEq]
          exact .bool_list _ il' hA
        | tup ys =>
          obtain ⟨b, ws, e2, h3, h4⟩ := id r'
          obtain ⟨us', rv', il'⟩ := con_tuple J h3
          subst e2
          cases (show u' = Value.ref b from q')
          simp only [pyEq]
          exact .bool_tuple _ il' hA
        | dct ys => simp [nodct] at ok'
        | _ => exact scal A _ _ _ _ _ _ rfl rfl r r' rfl q'
      | int i =>
        first | cases (show v = _ from r) | cases r.1
        obtain ⟨tk, rfl⟩ := q
        cases t' with
        | lst ys =>
          obtain ⟨b, ws, e2, h3, h4⟩ := id r'
          obtain ⟨us', rv', il'⟩ := con_list J h3
          subst e2
          cases (show u' = Value.ref b from q')
          simp only [pyEq]
          exact .int_list _ _ il' hA
        | tup ys =>
          obtain ⟨b, ws, e2, h3, h4⟩ := id r'
          obtain ⟨us', rv', il'⟩ := con_tuple J h3
          subst e2
          cases (show u' = Value.ref b from q')
          simp only [pyEq]
          exact .int_tuple _ _ il' hA
        | dct ys => simp [nodct] at ok'
        | _ => exact scal A _ _ _ _ _ _ rfl rfl r r' ⟨tk, rfl⟩ q'
      | str x =>
        first | cases (show v = _ from r) | cases r.1
        obtain ⟨tk, rfl⟩ := q
        cases t' with
        | lst ys =>
          obtain ⟨b, ws, e2, h3, h4⟩ := id r'
          obtain ⟨us', rv', il'⟩ := con_list J h3
          subst e2
          cases (show u' = Value.ref b from q')
          simp only [pyEq]
          exact .str_list _ _ il' hA
        | tup ys =>
          obtain ⟨b, ws, e2, h3, h4⟩ := id r'
          obtain ⟨us', rv', il'⟩ := con_tuple J h3
          subst e2
          cases (show u' = Value.ref b from q')
          simp only [pyEq]
          exact .str_tuple _ _ il' hA
        | dct ys => simp [nodct] at ok'
        | _ => exact scal A _ _ _ _ _ _ rfl rfl r r' ⟨tk, rfl⟩ q'
end
end Cab

set_option Elab.async false
set_option linter.all false
set_option maxRecDepth 100000
set_option maxHeartbeats 4000000
namespace Cab
open PySem PySem.Spec PyProof.Rows L2
/-- not two lists, not two tuples, no dict -/
def unlike : T → T → Bool
  | .dct _, _ => false
  | _, .dct _ => false
  | .lst _, .lst _ => false
  | .tup _, .tup _ => false
  | _, _ => true
section
variable {X : Cx} {pins : List (Addr × Obj)} {σ : St} {H : Hp} {s : Shared}
theorem rc_un (J : Inv X pins σ H s) {A : Around} (hA : A.units < cLine) {t t' : T} {v v' : V} {u u' : Value} (ok : unlike t t' = true) (r : Rel (conH H) t v) (r' : Rel (conH H) t' v') (q : L2.RelV v u) (q' : L2.RelV v' u') : SeqAt.RcAt A s u u' (pyEq t t') := by
  cases t <;> cases t' <;> first | (simp [unlike] at ok; done) | skip
  case non.non => cases (show v = _ from r); cases q; cases (show v' = _ from r'); cases q'; simp only [pyEq, b2i, Bool.not_false]; exact SeqAt.RcAt.none_none
  case non.bl => cases (show v = _ from r); cases q; cases (show v' = _ from r'); cases q'; simp only [pyEq, b2i, Bool.not_false]; exact SeqAt.RcAt.none_bool _
  case non.int => cases (show v = _ from r); cases q; cases (show v' = _ from r'); obtain ⟨_, rfl⟩ := q'; simp only [pyEq, b2i, Bool.not_false]; exact SeqAt.RcAt.none_int _ _
  case non.str => cases (show v = _ from r); cases q; cases r'.1; obtain ⟨_, rfl⟩ := q'; simp only [pyEq, b2i, Bool.not_false]; exact SeqAt.RcAt.none_str _ _
  case non.lst => cases (show v = _ from r); cases q; obtain ⟨_, _, rfl, c1, _⟩ := r'; obtain ⟨_, _, il1⟩ := con_list J c1; cases q'; simp only [pyEq, b2i, Bool.not_false]; exact SeqAt.RcAt.none_list il1 hA
  case non.tup => cases (show v = _ from r); cases q; obtain ⟨_, _, rfl, c1, _⟩ := r'; obtain ⟨_, _, il1⟩ := con_tuple J c1; cases q'; simp only [pyEq, b2i, Bool.not_false]; exact SeqAt.RcAt.none_tuple il1 hA
  case bl.non => cases (show v = _ from r); cases q; cases (show v' = _ from r'); cases q'; simp only [pyEq, b2i, Bool.not_false]; exact SeqAt.RcAt.bool_none _
  case bl.bl => cases (show v = _ from r); cases q; cases (show v' = _ from r'); cases q'; simp only [pyEq, b2i, Bool.not_false]; exact SeqAt.RcAt.bool_bool _ _
  case bl.int => cases (show v = _ from r); cases q; cases (show v' = _ from r'); obtain ⟨_, rfl⟩ := q'; simp only [pyEq, b2i, Bool.not_false]; exact SeqAt.RcAt.bool_int _ _ _
  case bl.str => cases (show v = _ from r); cases q; cases r'.1; obtain ⟨_, rfl⟩ := q'; simp only [pyEq, b2i, Bool.not_false]; exact SeqAt.RcAt.bool_str _ _ _
  case bl.lst => cases (show v = _ from r); cases q; obtain ⟨_, _, rfl, c1, _⟩ := r'; obtain ⟨_, _, il1⟩ := con_list J c1; cases q'; simp only [pyEq, b2i, Bool.not_false]; exact SeqAt.RcAt.bool_list _ il1 hA
  case bl.tup => cases (show v = _ from r); cases q; obtain ⟨_, _, rfl, c1, _⟩ := r'; obtain ⟨_, _, il1⟩ := con_tuple J c1; cases q'; simp only [pyEq, b2i, Bool.not_false]; exact SeqAt.RcAt.bool_tuple _ il1 hA
  case int.non => cases (show v = _ from r); obtain ⟨_, rfl⟩ := q; cases (show v' = _ from r'); cases q'; simp only [pyEq, b2i, Bool.not_false]; exact SeqAt.RcAt.int_none _ _
  case int.bl => cases (show v = _ from r); obtain ⟨_, rfl⟩ := q; cases (show v' = _ from r'); cases q'; simp only [pyEq, b2i, Bool.not_false]; exact SeqAt.RcAt.int_bool _ _ _
  case int.int => cases (show v = _ from r); obtain ⟨_, rfl⟩ := q; cases (show v' = _ from r'); obtain ⟨_, rfl⟩ := q'; simp only [pyEq, b2i, Bool.not_false]; exact SeqAt.RcAt.int_int _ _ _ _
  case int.str => cases (show v = _ from r); obtain ⟨_, rfl⟩ := q; cases r'.1; obtain ⟨_, rfl⟩ := q'; simp only [pyEq, b2i, Bool.not_false]; exact SeqAt.RcAt.int_str _ _ _ _
  case int.lst => cases (show v = _ from r); obtain ⟨_, rfl⟩ := q; obtain ⟨_, _, rfl, c1, _⟩ := r'; obtain ⟨_, _, il1⟩ := con_list J c1; cases q'; simp only [pyEq, b2i, Bool.not_false]; exact SeqAt.RcAt.int_list _ _ il1 hA
  case int.tup => cases (show v = _ from r); obtain ⟨_, rfl⟩ := q; obtain ⟨_, _, rfl, c1, _⟩ := r'; obtain ⟨_, _, il1⟩ := con_tuple J c1; cases q'; simp only [pyEq, b2i, Bool.not_false]; exact SeqAt.RcAt.int_tuple _ _ il1 hA
  case str.non => cases r.1; obtain ⟨_, rfl⟩ := q; cases (show v' = _ from r'); cases q'; simp only [pyEq, b2i, Bool.not_false]; exact SeqAt.RcAt.str_none _ _
  case str.bl => cases r.1; obtain ⟨_, rfl⟩ := q; cases (show v' = _ from r'); cases q'; simp only [pyEq, b2i, Bool.not_false]; exact SeqAt.RcAt.str_bool _ _ _
  case str.int => cases r.1; obtain ⟨_, rfl⟩ := q; cases (show v' = _ from r'); obtain ⟨_, rfl⟩ := q'; simp only [pyEq, b2i, Bool.not_false]; exact SeqAt.RcAt.str_int _ _ _ _
  case str.str => cases r.1; obtain ⟨_, rfl⟩ := q; cases r'.1; obtain ⟨_, rfl⟩ := q'; simp only [pyEq, b2i, Bool.not_false]; rw [← str_same]; exact SeqAt.RcAt.str_str _ _ _ _
  case str.lst => cases r.1; obtain ⟨_, rfl⟩ := q; obtain ⟨_, _, rfl, c1, _⟩ := r'; obtain ⟨_, _, il1⟩ := con_list J c1; cases q'; simp only [pyEq, b2i, Bool.not_false]; exact SeqAt.RcAt.str_list _ _ il1 hA
  case str.tup => cases r.1; obtain ⟨_, rfl⟩ := q; obtain ⟨_, _, rfl, c1, _⟩ := r'; obtain ⟨_, _, il1⟩ := con_tuple J c1; cases q'; simp only [pyEq, b2i, Bool.not_false]; exact SeqAt.RcAt.str_tuple _ _ il1 hA
  case lst.non => obtain ⟨_, _, rfl, c0, _⟩ := r; obtain ⟨_, _, il0⟩ := con_list J c0; cases q; cases (show v' = _ from r'); cases q'; simp only [pyEq, b2i, Bool.not_false]; exact SeqAt.RcAt.list_none il0 hA
  case lst.bl => obtain ⟨_, _, rfl, c0, _⟩ := r; obtain ⟨_, _, il0⟩ := con_list J c0; cases q; cases (show v' = _ from r'); cases q'; simp only [pyEq, b2i, Bool.not_false]; exact SeqAt.RcAt.list_bool _ il0 hA
  case lst.int => obtain ⟨_, _, rfl, c0, _⟩ := r; obtain ⟨_, _, il0⟩ := con_list J c0; cases q; cases (show v' = _ from r'); obtain ⟨_, rfl⟩ := q'; simp only [pyEq, b2i, Bool.not_false]; exact SeqAt.RcAt.list_int _ _ il0 hA
  case lst.str => obtain ⟨_, _, rfl, c0, _⟩ := r; obtain ⟨_, _, il0⟩ := con_list J c0; cases q; cases r'.1; obtain ⟨_, rfl⟩ := q'; simp only [pyEq, b2i, Bool.not_false]; exact SeqAt.RcAt.list_str _ _ il0 hA
  case lst.tup => obtain ⟨_, _, rfl, c0, _⟩ := r; obtain ⟨_, _, il0⟩ := con_list J c0; cases q; obtain ⟨_, _, rfl, c1, _⟩ := r'; obtain ⟨_, _, il1⟩ := con_tuple J c1; cases q'; simp only [pyEq, b2i, Bool.not_false]; exact SeqAt.RcAt.list_tuple il0 il1 hA
  case tup.non => obtain ⟨_, _, rfl, c0, _⟩ := r; obtain ⟨_, _, il0⟩ := con_tuple J c0; cases q; cases (show v' = _ from r'); cases q'; simp only [pyEq, b2i, Bool.not_false]; exact SeqAt.RcAt.tuple_none il0 hA
  case tup.bl => obtain ⟨_, _, rfl, c0, _⟩ := r; obtain ⟨_, _, il0⟩ := con_tuple J c0; cases q; cases (show v' = _ from r'); cases q'; simp only [pyEq, b2i, Bool.not_false]; exact SeqAt.RcAt.tuple_bool _ il0 hA
  case tup.int => obtain ⟨_, _, rfl, c0, _⟩ := r; obtain ⟨_, _, il0⟩ := con_tuple J c0; cases q; cases (show v' = _ from r'); obtain ⟨_, rfl⟩ := q'; simp only [pyEq, b2i, Bool.not_false]; exact SeqAt.RcAt.tuple_int _ _ il0 hA
  case tup.str => obtain ⟨_, _, rfl, c0, _⟩ := r; obtain ⟨_, _, il0⟩ := con_tuple J c0; cases q; cases r'.1; obtain ⟨_, rfl⟩ := q'; simp only [pyEq, b2i, Bool.not_false]; exact SeqAt.RcAt.tuple_str _ _ il0 hA
  case tup.lst => obtain ⟨_, _, rfl, c0, _⟩ := r; obtain ⟨_, _, il0⟩ := con_tuple J c0; cases q; obtain ⟨_, _, rfl, c1, _⟩ := r'; obtain ⟨_, _, il1⟩ := con_list J c1; cases q'; simp only [pyEq, b2i, Bool.not_false]; exact SeqAt.RcAt.tuple_list il0 il1 hA
theorem rcne_un (J : Inv X pins σ H s) {A : Around} (hA : A.units < cLine) {t t' : T} {v v' : V} {u u' : Value} (ok : unlike t t' = true) (r : Rel (conH H) t v) (r' : Rel (conH H) t' v') (q : L2.RelV v u) (q' : L2.RelV v' u') : SeqAt.RcNeAt A s u u' (!pyEq t t') := by
  cases t <;> cases t' <;> first | (simp [unlike] at ok; done) | skip
  case non.non => cases (show v = _ from r); cases q; cases (show v' = _ from r'); cases q'; simp only [pyEq, b2i, Bool.not_false]; exact SeqAt.RcNeAt.none_none
  case non.bl => cases (show v = _ from r); cases q; cases (show v' = _ from r'); cases q'; simp only [pyEq, b2i, Bool.not_false]; exact SeqAt.RcNeAt.none_bool _
  case non.int => cases (show v = _ from r); cases q; cases (show v' = _ from r'); obtain ⟨_, rfl⟩ := q'; simp only [pyEq, b2i, Bool.not_false]; exact SeqAt.RcNeAt.none_int _ _
  case non.str => cases (show v = _ from r); cases q; cases r'.1; obtain ⟨_, rfl⟩ := q'; simp only [pyEq, b2i, Bool.not_false]; exact SeqAt.RcNeAt.none_str _ _
  case non.lst => cases (show v = _ from r); cases q; obtain ⟨_, _, rfl, c1, _⟩ := r'; obtain ⟨_, _, il1⟩ := con_list J c1; cases q'; simp only [pyEq, b2i, Bool.not_false]; exact SeqAt.RcNeAt.none_list il1 hA
  case non.tup => cases (show v = _ from r); cases q; obtain ⟨_, _, rfl, c1, _⟩ := r'; obtain ⟨_, _, il1⟩ := con_tuple J c1; cases q'; simp only [pyEq, b2i, Bool.not_false]; exact SeqAt.RcNeAt.none_tuple il1 hA
  case bl.non => cases (show v = _ from r); cases q; cases (show v' = _ from r'); cases q'; simp only [pyEq, b2i, Bool.not_false]; exact SeqAt.RcNeAt.bool_none _
  case bl.bl => cases (show v = _ from r); cases q; cases (show v' = _ from r'); cases q'; simp only [pyEq, b2i, Bool.not_false]; exact SeqAt.RcNeAt.bool_bool _ _
  case bl.int => cases (show v = _ from r); cases q; cases (show v' = _ from r'); obtain ⟨_, rfl⟩ := q'; simp only [pyEq, b2i, Bool.not_false]; exact SeqAt.RcNeAt.bool_int _ _ _
  case bl.str => cases (show v = _ from r); cases q; cases r'.1; obtain ⟨_, rfl⟩ := q'; simp only [pyEq, b2i, Bool.not_false]; exact SeqAt.RcNeAt.bool_str _ _ _
  case bl.lst => cases (show v = _ from r); cases q; obtain ⟨_, _, rfl, c1, _⟩ := r'; obtain ⟨_, _, il1⟩ := con_list J c1; cases q'; simp only [pyEq, b2i, Bool.not_false]; exact SeqAt.RcNeAt.bool_list _ il1 hA
  case bl.tup => cases (show v = _ from r); cases q; obtain ⟨_, _, rfl, c1, _⟩ := r'; obtain ⟨_, _, il1⟩ := con_tuple J c1; cases q'; simp only [pyEq, b2i, Bool.not_false]; exact SeqAt.RcNeAt.bool_tuple _ il1 hA
  case int.non => cases (show v = _ from r); obtain ⟨_, rfl⟩ := q; cases (show v' = _ from r'); cases q'; simp only [pyEq, b2i, Bool.not_false]; exact SeqAt.RcNeAt.int_none _ _
  case int.bl => cases (show v = _ from r); obtain ⟨_, rfl⟩ := q; cases (show v' = _ from r'); cases q'; simp only [pyEq, b2i, Bool.not_false]; exact SeqAt.RcNeAt.int_bool _ _ _
  case int.int => cases (show v = _ from r); obtain ⟨_, rfl⟩ := q; cases (show v' = _ from r'); obtain ⟨_, rfl⟩ := q'; simp only [pyEq, b2i, Bool.not_false]; exact SeqAt.RcNeAt.int_int _ _ _ _
  case int.str => cases (show v = _ from r); obtain ⟨_, rfl⟩ := q; cases r'.1; obtain ⟨_, rfl⟩ := q'; simp only [pyEq, b2i, Bool.not_false]; exact SeqAt.RcNeAt.int_str _ _ _ _
  case int.lst => cases (show v = _ from r); obtain ⟨_, rfl⟩ := q; obtain ⟨_, _, rfl, c1, _⟩ := r'; obtain ⟨_, _, il1⟩ := con_list J c1; cases q'; simp only [pyEq, b2i, Bool.not_false]; exact SeqAt.RcNeAt.int_list _ _ il1 hA
  case int.tup => cases (show v = _ from r); obtain ⟨_, rfl⟩ := q; obtain ⟨_, _, rfl, c1, _⟩ := r'; obtain ⟨_, _, il1⟩ := con_tuple J c1; cases q'; simp only [pyEq, b2i, Bool.not_false]; exact SeqAt.RcNeAt.int_tuple _ _ il1 hA
  case str.non => cases r.1; obtain ⟨_, rfl⟩ := q; cases (show v' = _ from r'); cases q'; simp only [pyEq, b2i, Bool.not_false]; exact SeqAt.RcNeAt.str_none _ _
  case str.bl => cases r.1; obtain ⟨_, rfl⟩ := q; cases (show v' = _ from r'); cases q'; simp only [pyEq, b2i, Bool.not_false]; exact SeqAt.RcNeAt.str_bool _ _ _
  case str.int => cases r.1; obtain ⟨_, rfl⟩ := q; cases (show v' = _ from r'); obtain ⟨_, rfl⟩ := q'; simp only [pyEq, b2i, Bool.not_false]; exact SeqAt.RcNeAt.str_int _ _ _ _
  case str.str => cases r.1; obtain ⟨_, rfl⟩ := q; cases r'.1; obtain ⟨_, rfl⟩ := q'; simp only [pyEq, b2i, Bool.not_false]; rw [← str_same]; exact SeqAt.RcNeAt.str_str _ _ _ _
  case str.lst => cases r.1; obtain ⟨_, rfl⟩ := q; obtain ⟨_, _, rfl, c1, _⟩ := r'; obtain ⟨_, _, il1⟩ := con_list J c1; cases q'; simp only [pyEq, b2i, Bool.not_false]; exact SeqAt.RcNeAt.str_list _ _ il1 hA
  case str.tup => cases r.1; obtain ⟨_, rfl⟩ := q; obtain ⟨_, _, rfl, c1, _⟩ := r'; obtain ⟨_, _, il1⟩ := con_tuple J c1; cases q'; simp only [pyEq, b2i, Bool.not_false]; exact SeqAt.RcNeAt.str_tuple _ _ il1 hA
  case lst.non => obtain ⟨_, _, rfl, c0, _⟩ := r; obtain ⟨_, _, il0⟩ := con_list J c0; cases q; cases (show v' = _ from r'); cases q'; simp only [pyEq, b2i, Bool.not_false]; exact SeqAt.RcNeAt.list_none il0 hA
  case lst.bl => obtain ⟨_, _, rfl, c0, _⟩ := r; obtain ⟨_, _, il0⟩ := con_list J c0; cases q; cases (show v' = _ from r'); cases q'; simp only [pyEq, b2i, Bool.not_false]; exact SeqAt.RcNeAt.list_bool _ il0 hA
  case lst.int => obtain ⟨_, _, rfl, c0, _⟩ := r; obtain ⟨_, _, il0⟩ := con_list J c0; cases q; cases (show v' = _ from r'); obtain ⟨_, rfl⟩ := q'; simp only [pyEq, b2i, Bool.not_false]; exact SeqAt.RcNeAt.list_int _ _ il0 hA
  case lst.str => obtain ⟨_, _, rfl, c0, _⟩ := r; obtain ⟨_, _, il0⟩ := con_list J c0; cases q; cases r'.1; obtain ⟨_, rfl⟩ := q'; simp only [pyEq, b2i, Bool.not_false]; exact SeqAt.RcNeAt.list_str _ _ il0 hA
  case lst.tup => obtain ⟨_, _, rfl, c0, _⟩ := r; obtain ⟨_, _, il0⟩ := con_list J c0; cases q; obtain ⟨_, _, rfl, c1, _⟩ := r'; obtain ⟨_, _, il1⟩ := con_tuple J c1; cases q'; simp only [pyEq, b2i, Bool.not_false]; exact SeqAt.RcNeAt.list_tuple il0 il1 hA
  case tup.non => obtain ⟨_, _, rfl, c0, _⟩ := r; obtain ⟨_, _, il0⟩ := con_tuple J c0; cases q; cases (show v' = _ from r'); cases q'; simp only [pyEq, b2i, Bool.not_false]; exact SeqAt.RcNeAt.tuple_none il0 hA
  case tup.bl => obtain ⟨_, _, rfl, c0, _⟩ := r; obtain ⟨_, _, il0⟩ := con_tuple J c0; cases q; cases (show v' = _ from r'); cases q'; simp only [pyEq, b2i, Bool.not_false]; exact SeqAt.RcNeAt.tuple_bool _ il0 hA
  case tup.int => obtain ⟨_, _, rfl, c0, _⟩ := r; obtain ⟨_, _, il0⟩ := con_tuple J c0; cases q; cases (show v' = _ from r'); obtain ⟨_, rfl⟩ := q'; simp only [pyEq, b2i, Bool.not_false]; exact SeqAt.RcNeAt.tuple_int _ _ il0 hA
  case tup.str => obtain ⟨_, _, rfl, c0, _⟩ := r; obtain ⟨_, _, il0⟩ := con_tuple J c0; cases q; cases r'.1; obtain ⟨_, rfl⟩ := q'; simp only [pyEq, b2i, Bool.not_false]; exact SeqAt.RcNeAt.tuple_str _ _ il0 hA
  case tup.lst => obtain ⟨_, _, rfl, c0, _⟩ := r; obtain ⟨_, _, il0⟩ := con_tuple J c0; cases q; obtain ⟨_, _, rfl, c1, _⟩ := r'; obtain ⟨_, _, il1⟩ := con_list J c1; cases q'; simp only [pyEq, b2i, Bool.not_false]; exact SeqAt.RcNeAt.tuple_list il0 il1 hA
/-- == of two things -/
theorem rc_eq (J : Inv X pins σ H s) {t t' : T} {v v' : V} {u u' : Value} (hu : X.A.units + 70 < cLine) (ok : eqOk 60 t t' = true) (r : Rel (conH H) t v) (r' : Rel (conH H) t' v') (q : L2.RelV v u) (q' : L2.RelV v' u')
    {E Q : Value → Shared → Prop} (h : Q (.bool (pyEq t t')) s) : wpAny (model X.prog X.w) X.A (compareOp .Eq u u') Q E s := by
  have hA : X.A.units < cLine := by omega
  have hA1 : X.A.in1.units + 59 < cLine := by show X.A.units + 1 + 59 < cLine; omega
  by_cases ul : unlike t t' = true
  · exact rc_un J hA ul r r' q q' X.prog X.w E Q h
  · cases t <;> cases t' <;> first | (exact absurd rfl ul) | (simp [eqOk] at ok; done) | skip
    case lst.lst xs ys =>
      obtain ⟨a, vs, rfl, h1, h2⟩ := id r
      obtain ⟨us, rv, il⟩ := con_list J h1
      obtain ⟨b, ws, rfl, h3, h4⟩ := id r'
      obtain ⟨us', rv', il'⟩ := con_list J h3
      cases (show u = Value.ref a from q)
      cases (show u' = Value.ref b from q')
      have l1 : xs.length = us.length := (relL_len h2).trans rv.length
      have l2 : ys.length = us'.length := (relL_len h4).trans rv'.length
      simp only [pyEq, eqL_range] at h
      simp only [eqOk] at ok
      by_cases hl : xs.length = ys.length
      · have hsz : us.toArray.size = us'.toArray.size := by rw [List.size_toArray, List.size_toArray]; omega
        refine PySem.W.eq_listsT (n := 59) (e := eqAtP xs ys) il il' hsz (fun j g1 g2 => ?_) (by omega) ?_
        · have g1' : j < us.length := by simpa using g1
          have g2' : j < us'.length := by simpa using g2
          obtain ⟨x, p1, p2⟩ := vals_at rv g1'
          obtain ⟨y, p3, p4⟩ := vals_at rv' g2'
          obtain ⟨tx, p5, p6⟩ := relL_at h2 p1
          obtain ⟨ty, p7, p8⟩ := relL_at h4 p3
          rw [eqAtP_get p5 p7]
          have := eq_tree J 59 tx ty x y us[j] us'[j] (zipAll_at ok p5 p7) p6 p8 p2 p4
          simpa using this
        · rw [hl, Nat.min_self, beq_self_eq_true, Bool.and_true, l2] at h
          rw [hsz, List.size_toArray]
          exact h
      · rw [beq_eq_false_iff_ne.mpr hl, Bool.and_false] at h
        exact SeqAt.RcAt.lists_lengths il il' (by simp only [List.size_toArray, bne_iff_ne, ne_eq]; omega) hA X.prog X.w E Q h
    case tup.tup xs ys =>
      obtain ⟨a, vs, rfl, h1, h2⟩ := id r
      obtain ⟨us, rv, il⟩ := con_tuple J h1
      obtain ⟨b, ws, rfl, h3, h4⟩ := id r'
      obtain ⟨us', rv', il'⟩ := con_tuple J h3
      cases (show u = Value.ref a from q)
      cases (show u' = Value.ref b from q')
      have l1 : xs.length = us.length := (relL_len h2).trans rv.length
      have l2 : ys.length = us'.length := (relL_len h4).trans rv'.length
      simp only [pyEq, eqL_range] at h
      simp only [eqOk] at ok
      refine PySem.W.eq_tuplesT (n := 59) (e := eqAtP xs ys) il il' (fun j g1 g2 => ?_) (by omega) ?_
      · have g1' : j < us.length := by simpa using g1
        have g2' : j < us'.length := by simpa using g2
        obtain ⟨x, p1, p2⟩ := vals_at rv g1'
        obtain ⟨y, p3, p4⟩ := vals_at rv' g2'
        obtain ⟨tx, p5, p6⟩ := relL_at h2 p1
        obtain ⟨ty, p7, p8⟩ := relL_at h4 p3
        rw [eqAtP_get p5 p7]
        have := eq_tree J 59 tx ty x y us[j] us'[j] (zipAll_at ok p5 p7) p6 p8 p2 p4
        simpa using this
      · rw [List.size_toArray, List.size_toArray, ← l1, ← l2]
        exact h
    case dct.dct xs ys =>
      have tr := eq_tree J 60 (.dct xs) (.dct ys) v v' u u' ok r r' q q'
      obtain ⟨a, vs, rfl, h1, h2⟩ := id r
      obtain ⟨n1, us, kv, dd⟩ := con_dict J h1
      obtain ⟨b, ws, rfl, h3, h4⟩ := id r'
      obtain ⟨n2, us', kv', dd'⟩ := con_dict J h3
      cases (show u = Value.ref a from q)
      cases (show u' = Value.ref b from q')
      have hf := inv_hf J
      have nd1 := nd_ky h2 (hf.k a vs (rd_of_con h1)).2
      refine PySem.W.eq_dictsT (n := 59) (e := eqKy xs ys) n1 n2 dd dd' (fun k x y hm hy => ?_) (by omega) ?_
      · exact dict_kids J ok nd1 h2 h4 kv kv' dd hm hy
      · have l1 : us.length = xs.length := by rw [← kv.length, ← relK_len h2]
        have l2 : us'.length = ys.length := by rw [← kv'.length, ← relK_len h4]
        rw [dict_all nd1 h2 h4 kv kv', l1, l2]
        simpa [pyEq] using h
end
end Cab

set_option Elab.async false
set_option linter.all false
set_option maxRecDepth 100000
set_option maxHeartbeats 4000000
namespace Cab
open PySem PySem.Spec PyProof.Rows L2
def copK : Cop → CmpOp
  | .eq => .Eq
  | .ne => .NotEq
  | .lt => .Lt
  | .le => .LtE
  | .gt => .Gt
  | .ge => .GtE
  | .is => .Is
  | .isn => .IsNot
  | .mem => .In
  | .nmem => .NotIn
theorem rdT_con {I H : Hp} (hs : ∀ a o, I a = some o → Rd H a o) {t : T} {v : V} (r : RdT I H t v) : Rel (conH H) t v := by
  cases t with
  | lst xs =>
    obtain ⟨a, vs, e, h1, h2⟩ := r
    exact ⟨a, vs, e, con_of h1 (fun _ _ z => nomatch z), relL_con hs h2⟩
  | tup xs =>
    obtain ⟨a, vs, e, _, h1, h2⟩ := r
    exact ⟨a, vs, e, con_of h1 (fun _ _ z => nomatch z), relL_con hs h2⟩
  | dct xs =>
    obtain ⟨a, vs, e, h1, h2⟩ := r
    exact ⟨a, vs, e, con_of h1 (fun _ _ z => nomatch z), relK_con hs h2⟩
  | non => exact r
  | bl b => exact r
  | int i => exact r
  | str x => exact r
theorem strLt_eq : ∀ x y : List Nat, strLt x y = decide (x < y)
  | [], [] => by simp [strLt]
  | [], _ :: _ => by simp [strLt]
  | _ :: _, [] => by simp [strLt]
  | a :: x, b :: y => by
    rw [strLt, strLt_eq x y]
    by_cases h : a = b
    · subst h
      simp [List.cons_lt_cons_iff]
    · simp [List.cons_lt_cons_iff, h]
section
variable {X : Cx} {pins : List (Addr × Obj)} {σ : St} {H : Hp} {s : Shared}
theorem hits_of (J : Inv X pins σ H s) {A : Around} (hA : A.units + 59 < cLine) {ys : List (Ky × T)} {ws : List (Key × V)} {us' : List (Key × Value)} (h4 : RelK (conH H) ys ws) (kv' : KV ws us') (ok2 : (ys.all fun p => nodct 59 p.2) = true) :
    ∀ {xs : List (Ky × T)} {vs : List (Key × V)} {us : List (Key × Value)}, (xs.all fun p => nodct 59 p.2) = true → RelK (conH H) xs vs → KV vs us → PySem.W.KeqHits A s us' us (eqK xs ys)
  | [], vs, us, _, h, kv => by
    cases (show vs = [] from h)
    cases kv
    simp only [eqK]
    exact .nil
  | (k, t) :: xs, vs, us, ok, h, kv => by
    obtain ⟨v, r, rfl, h1, h2⟩ := h
    cases kv with
    | cons q qs =>
      rename_i q2 us2
      obtain ⟨k2, u⟩ := q2
      obtain ⟨e1, e2⟩ := q
      cases (show kyK k = k2 from e1)
      simp only [List.all_cons, Bool.and_eq_true] at ok
      simp only [eqK, eqP]
      have q4 := relK_get (k := k) h4
      have r2 := kv'.val (kyK k)
      cases g : kget k ys with
      | none =>
        rw [g] at q4
        have q4' : valV ws (kyK k) = none := q4
        rw [q4'] at r2
        simp only [Bool.false_and]
        refine .miss ?_
        cases e : valueAt us' (kyK k) with
        | none => rfl
        | some y =>
          rw [e] at r2
          exact r2.elim
      | some w =>
        rw [g] at q4
        obtain ⟨vy, q5, q6⟩ := q4
        rw [q5] at r2
        obtain ⟨y, e, ry⟩ := r2.some_of
        have okw : nodct 59 w = true := by
          have := List.all_eq_true.mp ok2 _ (kget_mem g)
          exact this
        exact .hit e (eq_at J 59 A t w v vy u y hA ok.1 okw h1.2 q6 e2 ry) (hits_of J hA h4 kv' ok2 ok.2 h2 qs)
/-- != of two things -/
theorem rc_ne (J : Inv X pins σ H s) {t t' : T} {v v' : V} {u u' : Value} (hu : X.A.units + 70 < cLine) (ok : neOk t t' = true) (r : Rel (conH H) t v) (r' : Rel (conH H) t' v') (q : L2.RelV v u) (q' : L2.RelV v' u')
    {E Q : Value → Shared → Prop} (h : Q (.bool (!pyEq t t')) s) : wpAny (model X.prog X.w) X.A (compareOp .NotEq u u') Q E s := by
  have hA : X.A.units < cLine := by omega
  have hA1 : X.A.in1.units + 59 < cLine := by show X.A.units + 1 + 59 < cLine; omega
  by_cases ul : unlike t t' = true
  · exact rcne_un J hA ul r r' q q' X.prog X.w E Q h
  · cases t <;> cases t' <;> first | (exact absurd rfl ul) | (simp [neOk] at ok; done) | skip
    case lst.lst xs ys =>
      obtain ⟨a, vs, rfl, h1, h2⟩ := id r
      obtain ⟨us, rv, il⟩ := con_list J h1
      obtain ⟨b, ws, rfl, h3, h4⟩ := id r'
      obtain ⟨us', rv', il'⟩ := con_list J h3
      cases (show u = Value.ref a from q)
      cases (show u' = Value.ref b from q')
      have l1 : xs.length = us.length := (relL_len h2).trans rv.length
      have l2 : ys.length = us'.length := (relL_len h4).trans rv'.length
      simp only [pyEq, eqL_range] at h
      simp only [neOk, Bool.or_eq_true, bne_iff_ne, ne_eq, Bool.and_eq_true] at ok
      by_cases hl : xs.length = ys.length
      · have hsz : us.toArray.size = us'.toArray.size := by rw [List.size_toArray, List.size_toArray]; omega
        rcases ok with ok | ok
        · exact absurd hl ok
        refine SeqAt.RcNeAt.lists (e := eqAtP xs ys) il il' hsz hA (fun j g1 g2 => ?_) X.prog X.w E Q ?_
        · have g1' : j < us.length := by simpa using g1
          have g2' : j < us'.length := by simpa using g2
          obtain ⟨x, p1, p2⟩ := vals_at rv g1'
          obtain ⟨y, p3, p4⟩ := vals_at rv' g2'
          obtain ⟨tx, p5, p6⟩ := relL_at h2 p1
          obtain ⟨ty, p7, p8⟩ := relL_at h4 p3
          rw [eqAtP_get p5 p7]
          have := eq_at J 59 X.A.in1 tx ty x y us[j] us'[j] hA1 (List.all_eq_true.mp ok.1 _ (List.mem_of_getElem? p5)) (List.all_eq_true.mp ok.2 _ (List.mem_of_getElem? p7)) p6 p8 p2 p4
          simpa using this
        · rw [hl, Nat.min_self, beq_self_eq_true, Bool.and_true, l2] at h
          rw [hsz, List.size_toArray]
          exact h
      · rw [beq_eq_false_iff_ne.mpr hl, Bool.and_false] at h
        exact SeqAt.RcNeAt.lists_lengths il il' (by simp only [List.size_toArray, bne_iff_ne, ne_eq]; omega) hA X.prog X.w E Q h
    case tup.tup xs ys =>
      obtain ⟨a, vs, rfl, h1, h2⟩ := id r
      obtain ⟨us, rv, il⟩ := con_tuple J h1
      obtain ⟨b, ws, rfl, h3, h4⟩ := id r'
      obtain ⟨us', rv', il'⟩ := con_tuple J h3
      cases (show u = Value.ref a from q)
      cases (show u' = Value.ref b from q')
      have l1 : xs.length = us.length := (relL_len h2).trans rv.length
      have l2 : ys.length = us'.length := (relL_len h4).trans rv'.length
      simp only [pyEq, eqL_range] at h
      simp only [neOk, Bool.and_eq_true] at ok
      refine SeqAt.RcNeAt.tuples (e := eqAtP xs ys) il il' hA (fun j g1 g2 => ?_) X.prog X.w E Q ?_
      · have g1' : j < us.length := by simpa using g1
        have g2' : j < us'.length := by simpa using g2
        obtain ⟨x, p1, p2⟩ := vals_at rv g1'
        obtain ⟨y, p3, p4⟩ := vals_at rv' g2'
        obtain ⟨tx, p5, p6⟩ := relL_at h2 p1
        obtain ⟨ty, p7, p8⟩ := relL_at h4 p3
        rw [eqAtP_get p5 p7]
        have := eq_at J 59 X.A.in1 tx ty x y us[j] us'[j] hA1 (List.all_eq_true.mp ok.1 _ (List.mem_of_getElem? p5)) (List.all_eq_true.mp ok.2 _ (List.mem_of_getElem? p7)) p6 p8 p2 p4
        simpa using this
      · rw [List.size_toArray, List.size_toArray, ← l1, ← l2]
        exact h
    case dct.dct xs ys =>
      obtain ⟨a, vs, rfl, h1, h2⟩ := id r
      obtain ⟨n1, us, kv, dd⟩ := con_dict J h1
      obtain ⟨b, ws, rfl, h3, h4⟩ := id r'
      obtain ⟨n2, us', kv', dd'⟩ := con_dict J h3
      cases (show u = Value.ref a from q)
      cases (show u' = Value.ref b from q')
      have l1 : us.length = xs.length := by rw [← kv.length, ← relK_len h2]
      have l2 : us'.length = ys.length := by rw [← kv'.length, ← relK_len h4]
      simp only [neOk, Bool.or_eq_true, bne_iff_ne, ne_eq, Bool.and_eq_true] at ok
      refine PySem.W.keq_ne (knd := mixKind X.prog X.w) (r := eqK xs ys) n1 n2 dd dd' hA (fun hl => ?_) ?_
      · rcases ok with ok | ok
        · exact absurd (by omega) ok
        · exact hits_of J hA1 h4 kv' ok.2 ok.1 h2 kv
      · rw [l1, l2]
        simpa [pyEq] using h
/- the equality of an entry and a thing -/
open Classical in
noncomputable def eqV (H : Hp) (ys : List T) (x : T) (y : Value) : Bool := decide (∃ t v, t ∈ ys ∧ Rel (conH H) t v ∧ L2.RelV v y ∧ pyEq t x = true)
open Classical in
theorem eqV_at {ys : List T} {x t : T} {v : V} {y : Value} (hm : t ∈ ys) (r : Rel (conH H) t v) (q : L2.RelV v y) : eqV H ys x y = pyEq t x := by
  unfold eqV
  cases e : pyEq t x with
  | true =>
    exact decide_eq_true ⟨t, v, hm, r, q, e⟩
  | false =>
    refine decide_eq_false ?_
    rintro ⟨t', v', _, r', q', e'⟩
    have e1 := L2.RelV.inj q q'
    subst e1
    rw [rel_fun r r', e'] at e
    cases e
theorem any_eqV {all : List T} {x : T} : ∀ {ys : List T} {vs : List V} {us : List Value}, (∀ t ∈ ys, t ∈ all) → RelL (conH H) ys vs → Vals vs us → us.any (eqV H all x) = ys.any fun y => pyEq y x
  | [], vs, us, _, h, q => by
    cases (show vs = [] from h)
    cases q
    rfl
  | y :: ys, vs, us, hm, h, q => by
    obtain ⟨v, r, rfl, h1, h2⟩ := h
    cases q with
    | cons q1 q2 =>
      rw [List.any_cons, List.any_cons, eqV_at (hm y List.mem_cons_self) h1 q1, any_eqV (fun t ht => hm t (List.mem_cons_of_mem _ ht)) h2 q2]
theorem mem_pre (J : Inv X pins σ H s) (hu : X.A.units + 70 < cLine) {ys : List T} {x : T} {vs : List V} {us : List Value} {vx : V} {ux : Value} (ok : ys.all (nodct 59) = true) (okx : nodct 59 x = true) (h : RelL (conH H) ys vs) (q : Vals vs us) (r : Rel (conH H) x vx) (qx : L2.RelV vx ux) :
    ∀ y, y ∈ us.toArray → SeqAt.EqAt X.A.in1 s y ux (eqV H ys x y) := by
  have hA1 : X.A.in1.units + 59 < cLine := by show X.A.units + 1 + 59 < cLine; omega
  intro y hy
  have hy' : y ∈ us := by simpa using hy
  obtain ⟨j, hj, rfl⟩ := List.mem_iff_getElem.mp hy'
  obtain ⟨v, p1, p2⟩ := vals_at q hj
  obtain ⟨ty, p3, p4⟩ := relL_at h p1
  have hm := List.mem_of_getElem? p3
  rw [eqV_at hm p4 p2]
  exact eq_at J 59 X.A.in1 ty x v vx us[j] ux hA1 (List.all_eq_true.mp ok _ hm) okx p4 r p2 qx
/-- what a comparison is worth -/
def rCmp (op : Cop) : R2 := fun x y H Q => (∃ t t' b, Rel (conH H) t x ∧ Rel (conH H) t' y ∧ cmpT op t t' = some b ∧ Q (.bl b) H) ∨ (∃ a, x = .ref a ∧ y = .non ∧ ((op = .is ∧ Q (.bl false) H) ∨ (op = .isn ∧ Q (.bl true) H)))
theorem tKy_kV {t : T} {k : Ky} {x : V} (h : tKy t = some k) (r : Rel (conH H) t x) : x = kV (kyK k) := by
  cases t <;> simp only [tKy, Option.some.injEq, reduceCtorEq] at h
  · subst h
    exact r
  · subst h
    exact r.1
theorem relK_some {I : Hp} {k : Ky} {t : List (Ky × T)} {v : List (Key × V)} (h : RelK I t v) : (valV v (kyK k)).isSome = (kget k t).isSome := by
  have := relK_get (k := k) h
  cases e : kget k t with
  | none =>
    rw [e] at this
    rw [show valV v (kyK k) = none from this]
    rfl
  | some w =>
    rw [e] at this
    obtain ⟨x, e2, _⟩ := this
    rw [e2]
    rfl
theorem is_non {t : T} {x : V} (r : Rel (conH H) t x) : decide (x = V.non) = (match t with | .non => true | _ => false) := by
  cases t with
  | non =>
    cases (show x = _ from r)
    rfl
  | bl b =>
    cases (show x = _ from r)
    simp
  | int b =>
    cases (show x = _ from r)
    simp
  | str b =>
    cases r.1
    simp
  | lst xs =>
    obtain ⟨a, vs, rfl, _⟩ := r
    simp
  | tup xs =>
    obtain ⟨a, vs, rfl, _⟩ := r
    simp
  | dct xs =>
    obtain ⟨a, vs, rfl, _⟩ := r
    simp
theorem op_cmp (hu : X.A.units + 70 < cLine) (op : Cop) : OpR X (compareOp (copK op)) (rCmp op) := by
  intro pins s σ H x y v u Q J rx ry h
  rcases h with ⟨t, t', b, r, r', e, q⟩ | ⟨a, rfl, rfl, ⟨rfl, q⟩ | ⟨rfl, q⟩⟩
  · cases op with
    | eq =>
      simp only [cmpT, Option.ite_none_right_eq_some, Option.some.injEq] at e
      obtain ⟨ok, rfl⟩ := e
      exact rc_eq J hu ok r r' rx ry ⟨.bl _, H, J, rfl, q⟩
    | ne =>
      simp only [cmpT, Option.ite_none_right_eq_some, Option.some.injEq] at e
      obtain ⟨ok, rfl⟩ := e
      exact rc_ne J hu ok r r' rx ry ⟨.bl _, H, J, rfl, q⟩
    | lt =>
      cases t <;> cases t' <;> simp only [cmpT, reduceCtorEq, Option.some.injEq, Option.ite_none_right_eq_some] at e
      · subst e
        rename_i b c
        cases (show x = _ from r)
        cases (show y = _ from r')
        cases rx
        cases ry
        refine PyProof.Rows.lt_bool ⟨.bl (!b && c), H, J, ?_, q⟩
        show Value.bool (decide (PyProof.Rows.b2i b < PyProof.Rows.b2i c)) = Value.bool (!b && c)
        cases b <;> cases c <;> rfl
      · subst e
        exact op_lt pins s σ H x y v u Q J rx ry ⟨_, _, r, r', q⟩
      · subst e
        refine op_lt_str pins s σ H x y v u Q J rx ry ⟨_, _, r.1, r'.1, ?_⟩
        rw [mkS_toList, mkS_toList, ← strLt_eq]
        exact q
      · obtain ⟨ok, rfl⟩ := e
        exact lt_tree strLt_eq J 60 _ _ _ _ _ _ ok r r' rx ry X.A (by omega) _ _ ⟨.bl _, H, J, rfl, q⟩
    | le =>
      cases t <;> cases t' <;> simp only [cmpT, reduceCtorEq, Option.some.injEq] at e
      subst e
      exact op_le pins s σ H x y v u Q J rx ry ⟨_, _, r, r', q⟩
    | gt =>
      cases t <;> cases t' <;> simp only [cmpT, reduceCtorEq, Option.some.injEq] at e
      · subst e
        rename_i b c
        cases (show x = _ from r)
        cases (show y = _ from r')
        cases rx
        cases ry
        refine PyProof.Rows.gt_bool ⟨.bl (b && !c), H, J, ?_, q⟩
        show Value.bool (decide (PyProof.Rows.b2i b > PyProof.Rows.b2i c)) = Value.bool (b && !c)
        cases b <;> cases c <;> rfl
      · subst e
        exact op_gt pins s σ H x y v u Q J rx ry ⟨_, _, r, r', q⟩
      · subst e
        refine op_gt_str pins s σ H x y v u Q J rx ry ⟨_, _, r.1, r'.1, ?_⟩
        rw [mkS_toList, mkS_toList, ← strLt_eq]
        exact q
    | ge =>
      cases t <;> cases t' <;> simp only [cmpT, reduceCtorEq, Option.some.injEq] at e
      subst e
      exact op_ge pins s σ H x y v u Q J rx ry ⟨_, _, r, r', q⟩
    | is =>
      cases t' with
      | non =>
        refine op_isN pins s σ H x y v u Q J rx ry ⟨r', ?_⟩
        rw [is_non r]
        cases t <;> simp only [cmpT, Option.some.injEq] at e <;> (subst e; exact q)
      | bl j =>
        cases t <;> simp only [cmpT, reduceCtorEq, Option.some.injEq] at e
        subst e
        refine op_is_bl pins s σ H x y v u Q J rx ry ⟨_, _, r, r', ?_⟩
        rw [← beq_of]
        exact q
      | _ => cases t <;> simp [cmpT] at e
    | isn =>
      cases t' with
      | non =>
        refine op_notN pins s σ H x y v u Q J rx ry ⟨r', ?_⟩
        rw [is_non r]
        cases t <;> simp only [cmpT, Option.some.injEq] at e <;> (subst e; exact q)
      | bl j =>
        cases t <;> simp only [cmpT, reduceCtorEq, Option.some.injEq] at e
        subst e
        refine op_isnot_bl pins s σ H x y v u Q J rx ry ⟨_, _, r, r', ?_⟩
        rw [← beq_of]
        exact q
      | _ => cases t <;> simp [cmpT] at e
    | mem =>
      cases t' with
      | str z =>
        cases t with
        | str c =>
          match c, r, e with
          | [c], r, e =>
            simp only [cmpT, Option.some.injEq] at e
            subst e
            refine op_in_sign pins s σ H x y v u Q J rx ry ⟨c, mkS z, r.1, r'.1, ?_⟩
            rw [mkS_toList]
            exact q
          | [], r, e => simp [cmpT] at e
          | _ :: _ :: _, r, e => simp [cmpT] at e
        | _ => simp [cmpT] at e
      | lst ys =>
        have e' : (if (ys.all (nodct 59) && nodct 59 t) = true then some (ys.any fun y => pyEq y t) else none) = some b := by
          cases t with
          | str c =>
            match c, e with
            | [], e => exact e
            | [_], e => exact e
            | _ :: _ :: _, e => exact e
          | _ => exact e
        simp only [Option.ite_none_right_eq_some, Option.some.injEq, Bool.and_eq_true] at e'
        obtain ⟨ok, rfl⟩ := e'
        obtain ⟨a, vs, rfl, h1, h2⟩ := r'
        obtain ⟨us, rv, il⟩ := con_list J h1
        cases (show u = Value.ref a from ry)
        refine SeqAt.in_listAt (eqV H ys t) il (mem_pre J hu ok.1 ok.2 h2 rv r rx) ⟨.bl _, H, J, rfl, ?_⟩
        rw [List.any_toArray, any_eqV (fun _ h => h) h2 rv]
        exact q
      | tup ys =>
        have e' : (if (ys.all (nodct 59) && nodct 59 t) = true then some (ys.any fun y => pyEq y t) else none) = some b := by
          cases t with
          | str c =>
            match c, e with
            | [], e => exact e
            | [_], e => exact e
            | _ :: _ :: _, e => exact e
          | _ => exact e
        simp only [Option.ite_none_right_eq_some, Option.some.injEq, Bool.and_eq_true] at e'
        obtain ⟨ok, rfl⟩ := e'
        obtain ⟨a, vs, rfl, h1, h2⟩ := r'
        obtain ⟨us, rv, il⟩ := con_tuple J h1
        cases (show u = Value.ref a from ry)
        refine SeqAt.in_tupleAt (eqV H ys t) il (mem_pre J hu ok.1 ok.2 h2 rv r rx) ⟨.bl _, H, J, rfl, ?_⟩
        rw [List.any_toArray, any_eqV (fun _ h => h) h2 rv]
        exact q
      | dct kvs =>
        have e' : (tKy t).map (fun k => (kget k kvs).isSome) = some b := by
          cases t with
          | str c =>
            match c, e with
            | [], e => exact e
            | [_], e => exact e
            | _ :: _ :: _, e => exact e
          | _ => exact e
        obtain ⟨k, ek, rfl⟩ := Option.map_eq_some_iff.mp e'
        have ex := tKy_kV ek r
        obtain ⟨a, ws, rfl, h1, h2⟩ := r'
        cases (show u = Value.ref a from ry)
        refine d_in (A := X.A) (by omega) J (.inl ⟨ws, kyK k, rd_of_con h1, ex, rfl⟩) rx fun s3 I3 => ⟨.bl _, H, I3, rfl, ?_⟩
        rw [relK_some h2]
        exact q
      | _ => cases t with
        | str c =>
          match c, e with
          | [], e => simp [cmpT] at e
          | [_], e => simp [cmpT] at e
          | _ :: _ :: _, e => simp [cmpT] at e
        | _ => simp [cmpT] at e
    | nmem =>
      cases t' with
      | str z =>
        cases t with
        | str c =>
          match c, r, e with
          | [c], r, e =>
            simp only [cmpT, Option.some.injEq] at e
            subst e
            refine op_notIn_sign pins s σ H x y v u Q J rx ry ⟨c, mkS z, r.1, r'.1, ?_⟩
            rw [mkS_toList]
            exact q
          | [], r, e => simp [cmpT] at e
          | _ :: _ :: _, r, e => simp [cmpT] at e
        | _ => simp [cmpT] at e
      | lst ys =>
        have e' : (if (ys.all (nodct 59) && nodct 59 t) = true then some (!ys.any fun y => pyEq y t) else none) = some b := by
          cases t with
          | str c =>
            match c, e with
            | [], e => exact e
            | [_], e => exact e
            | _ :: _ :: _, e => exact e
          | _ => exact e
        simp only [Option.ite_none_right_eq_some, Option.some.injEq, Bool.and_eq_true] at e'
        obtain ⟨ok, rfl⟩ := e'
        obtain ⟨a, vs, rfl, h1, h2⟩ := r'
        obtain ⟨us, rv, il⟩ := con_list J h1
        cases (show u = Value.ref a from ry)
        refine SeqAt.notIn_listAt (eqV H ys t) il (mem_pre J hu ok.1 ok.2 h2 rv r rx) ⟨.bl _, H, J, rfl, ?_⟩
        rw [List.any_toArray, any_eqV (fun _ h => h) h2 rv]
        exact q
      | tup ys =>
        have e' : (if (ys.all (nodct 59) && nodct 59 t) = true then some (!ys.any fun y => pyEq y t) else none) = some b := by
          cases t with
          | str c =>
            match c, e with
            | [], e => exact e
            | [_], e => exact e
            | _ :: _ :: _, e => exact e
          | _ => exact e
        simp only [Option.ite_none_right_eq_some, Option.some.injEq, Bool.and_eq_true] at e'
        obtain ⟨ok, rfl⟩ := e'
        obtain ⟨a, vs, rfl, h1, h2⟩ := r'
        obtain ⟨us, rv, il⟩ := con_tuple J h1
        cases (show u = Value.ref a from ry)
        refine SeqAt.notIn_tupleAt (eqV H ys t) il (mem_pre J hu ok.1 ok.2 h2 rv r rx) ⟨.bl _, H, J, rfl, ?_⟩
        rw [List.any_toArray, any_eqV (fun _ h => h) h2 rv]
        exact q
      | dct kvs =>
        have e' : (tKy t).map (fun k => !(kget k kvs).isSome) = some b := by
          cases t with
          | str c =>
            match c, e with
            | [], e => exact e
            | [_], e => exact e
            | _ :: _ :: _, e => exact e
          | _ => exact e
        obtain ⟨k, ek, rfl⟩ := Option.map_eq_some_iff.mp e'
        have ex := tKy_kV ek r
        obtain ⟨a, ws, rfl, h1, h2⟩ := r'
        cases (show u = Value.ref a from ry)
        refine d_notIn (A := X.A) (by omega) J (.inl ⟨ws, kyK k, rd_of_con h1, ex, rfl⟩) rx fun s3 I3 => ⟨.bl _, H, I3, rfl, ?_⟩
        rw [relK_some h2]
        exact q
      | _ => cases t with
        | str c =>
          match c, e with
          | [], e => simp [cmpT] at e
          | [_], e => simp [cmpT] at e
          | _ :: _ :: _, e => simp [cmpT] at e
        | _ => simp [cmpT] at e
  · exact op_isN pins s σ H _ _ v u Q J rx ry ⟨rfl, by simpa using q⟩
  · exact op_notN pins s σ H _ _ v u Q J rx ry ⟨rfl, by simpa using q⟩
end
end Cab

set_option Elab.async false
set_option linter.all false
set_option maxRecDepth 100000
set_option maxHeartbeats 4000000
namespace Cab
open PySem PySem.Spec PyProof.Rows L2
/-! ### places -/
theorem atI_L2 {α : Type} {xs : List α} {i : Int} {v : α} (h : Cab.atI xs i = some v) : L2.atI xs i = some v := by
  unfold Cab.atI at h
  unfold L2.atI L2.ixN
  by_cases h0 : 0 ≤ i
  · rw [if_pos h0] at h ⊢
    have hl := (List.getElem?_eq_some_iff.mp h).1
    rw [if_pos (by omega)]
    exact h
  · rw [if_neg h0] at h ⊢
    split at h
    · rename_i h1
      rw [if_pos h1]
      exact h
    · cases h
theorem atI_map {α β : Type} {f : α → β} {xs : List α} {i : Int} : Cab.atI (xs.map f) i = (Cab.atI xs i).map f := by
  unfold Cab.atI
  rw [List.length_map]
  split
  · rw [List.getElem?_map]
  · split
    · rw [List.getElem?_map]
    · rfl
theorem atI_get' {α : Type} {xs : List α} {i : Int} {v : α} (h : Cab.atI xs i = some v) : ∃ j : Nat, xs[j]? = some v ∧ ∀ {β : Type} (ys : List β), ys.length = xs.length → Cab.atI ys i = ys[j]? := by
  unfold Cab.atI at h
  split at h
  · rename_i h0
    refine ⟨_, h, fun ys hl => ?_⟩
    unfold Cab.atI
    rw [if_pos h0]
  · split at h
    · rename_i h0 h1
      refine ⟨_, h, fun ys hl => ?_⟩
      unfold Cab.atI
      rw [if_neg h0, hl, if_pos h1]
    · cases h
theorem relUs_at {I : Hp} {m : List Addr} : ∀ {t : List U} {v : List V} {j : Nat} {y : U}, RelUs I m t v → t[j]? = some y → ∃ x, v[j]? = some x ∧ RelU I m y x
  | [], _, j, x, h, e => by simp at e
  | t :: ts, _, j, x, h, e => by
    obtain ⟨v, r, e1, h1, h2⟩ := h
    subst e1
    cases j with
    | zero =>
      cases e
      exact ⟨v, rfl, h1⟩
    | succ j => exact relUs_at (t := ts) (v := r) (j := j) h2 e
theorem relUK_get {I : Hp} {m : List Addr} {k : Ky} : ∀ {t : List (Ky × U)} {v : List (Key × V)}, RelUK I m t v → match kget k t with
    | some w => ∃ x, valV v (kyK k) = some x ∧ RelU I m w x
    | none => valV v (kyK k) = none
  | [], _, h => by
    cases h
    rfl
  | (j, w) :: r, _, h => by
    obtain ⟨x, rs, e, h1, h2⟩ := h
    subst e
    unfold kget
    by_cases hj : j = k
    · subst hj
      rw [if_pos rfl]
      exact ⟨x, valV_pos rfl, h1.2⟩
    · rw [if_neg hj, valV_neg fun z => hj (kyK_inj z)]
      exact relUK_get h2
theorem tKy_I {I : Hp} {t : T} {k : Ky} {x : V} (h : tKy t = some k) (r : Rel I t x) : x = kV (kyK k) ∧ kyB k := by
  cases t <;> simp only [tKy, Option.some.injEq, reduceCtorEq] at h
  · subst h
    exact ⟨r, trivial⟩
  · subst h
    exact ⟨r.1, r.2⟩
section
variable {X : Cx}
theorem ix_dict (hu : X.A.units + 1 < cLine) : IxR X (fun x y H Q => ∃ a v, x = .ref a ∧ DGet H a y (some v) ∧ Q v H) := by
  intro value slice pins s σ H x y v u Q I rx ry h hs
  obtain ⟨a, w, rfl, g, q⟩ := h
  cases rx
  exact tail_any (dict_typeIs I g) PySem.F.slot_dict_getitem.lookup (d_getItem hu I g ry fun w' s3 I3 rw' => ⟨w, H, I3, rw', q⟩) hs
def rIdx (K : PySem.W.Frag) : R2 := fun x y H Q => rIx K x y H Q ∨ ∃ a v, x = .ref a ∧ DGet H a y (some v) ∧ Q v H
theorem ix_any (hu : X.A.units + 1 < cLine) : IxR X (rIdx X.K) := ix_seq.or (ix_dict hu)
end
section
variable {cl : Nat → Addr} {I : Hp} {m : List Addr} {s : Store} {H : Hp} {K : PySem.W.Frag}
theorem idx_ok (si : Sim cl I m s H) {u k r : U} {x y : V} {Q : VK} (rx : RelU I m u x) (ry : RelU I m k y) (e : idxU s u k = some r) (q : ∀ z, RelU I m r z → Q z H) : rIdx K x y H Q := by
  cases u with
  | v t =>
    cases k with
    | v k =>
      simp only [idxU, Option.map_eq_some_iff] at e
      obtain ⟨w, e, rfl⟩ := e
      cases t with
      | lst xs =>
        cases k <;> simp only [idxT, reduceCtorEq] at e
        obtain ⟨a, vs, rfl, h1, h2⟩ := rx
        obtain ⟨j, e1, e2⟩ := atI_get' e
        obtain ⟨z, e3, rz⟩ := relL_at' h2 e1
        exact .inl (.inl ⟨a, vs, _, z, rfl, ry, .inl (si.sub _ _ h1), atI_L2 (by rw [e2 vs (relL_len h2).symm, e3]), q z rz⟩)
      | tup xs =>
        cases k <;> simp only [idxT, reduceCtorEq] at e
        obtain ⟨a, vs, rfl, h1, h2⟩ := rx
        obtain ⟨j, e1, e2⟩ := atI_get' e
        obtain ⟨z, e3, rz⟩ := relL_at' h2 e1
        exact .inl (.inr (.inl ⟨a, vs, _, z, rfl, ry, .inl (si.sub _ _ h1), atI_L2 (by rw [e2 vs (relL_len h2).symm, e3]), q z rz⟩))
      | str xs =>
        cases k <;> simp only [idxT, reduceCtorEq, Option.map_eq_some_iff] at e
        obtain ⟨c, e, rfl⟩ := e
        refine .inl (.inr (.inr ⟨mkS xs, _, c, rx.1, ry, by rw [mkS_len, line_LIM]; exact rx.2, atI_L2 (by rw [mkS_toList]; exact e), q _ ⟨rfl, ?_⟩⟩))
        show 1 ≤ LIM
        decide
      | dct kvs =>
        simp only [idxT, Option.bind_eq_some_iff] at e
        obtain ⟨kk, ek, e⟩ := e
        obtain ⟨a, ws, rfl, h1, h2⟩ := rx
        have g := relK_get (k := kk) h2
        rw [e] at g
        obtain ⟨z, g1, g2⟩ := g
        exact .inr ⟨a, z, rfl, .inl ⟨ws, kyK kk, si.sub _ _ h1, (tKy_I ek ry).1, g1.symm⟩, q z g2⟩
      | _ => cases k <;> simp [idxT] at e
    | ref i => simp [idxU] at e
    | tup us => simp [idxU] at e
  | tup us =>
    cases k with
    | v k =>
      cases k <;> simp only [idxU, reduceCtorEq] at e
      obtain ⟨a, vs, rfl, h1, h2⟩ := rx
      obtain ⟨j, e1, e2⟩ := atI_get' e
      obtain ⟨z, e3, rz⟩ := relUs_at h2 e1
      exact .inl (.inr (.inl ⟨a, vs, _, z, rfl, ry, .inl (si.sub _ _ h1), atI_L2 (by rw [e2 vs (relUs_len h2).symm, e3]), q z rz⟩))
    | ref i => simp [idxU] at e
    | tup us => simp [idxU] at e
  | ref i =>
    cases k with
    | v k =>
      simp only [idxU] at e
      cases es : s[i]? with
      | none =>
        rw [es] at e
        cases k <;> simp at e
      | some o =>
        rw [es] at e
        obtain ⟨a, ho, rfl, e2, e3, e4⟩ := si.at rx es
        cases o with
        | lst us =>
          cases k <;> simp only [reduceCtorEq] at e
          obtain ⟨vs, rfl, h2⟩ := e4
          obtain ⟨j, e1, e2⟩ := atI_get' e
          obtain ⟨z, e3', rz⟩ := relUs_at h2 e1
          exact .inl (.inl ⟨a, vs, _, z, rfl, ry, .inl (.inl e3), atI_L2 (by rw [e2 vs (relUs_len h2).symm, e3']), q z rz⟩)
        | dct kvs =>
          simp only [Option.bind_eq_some_iff] at e
          obtain ⟨kk, ek, e⟩ := e
          obtain ⟨ws, rfl, h2⟩ := e4
          have g := relUK_get (k := kk) h2
          rw [e] at g
          obtain ⟨z, g1, g2⟩ := g
          exact .inr ⟨a, z, rfl, .inl ⟨ws, kyK kk, .inl e3, (tKy_I ek ry).1, g1.symm⟩, q z g2⟩
        | ins c fs => cases k <;> simp at e
    | ref i => simp [idxU] at e
    | tup us => simp [idxU] at e
theorem relUK_len : ∀ {ts : List (Ky × U)} {vs : List (Key × V)}, RelUK I m ts vs → ts.length = vs.length
  | [], _, h => by
    cases h
    rfl
  | _ :: _, _, h => by
    obtain ⟨v, r, e, _, h2⟩ := h
    rw [e, List.length_cons, List.length_cons, relUK_len h2]
end
/-! ### len -/
section
variable {X : Cx}
theorem call_lenR : CallR X (.builtin "len") (fun xs H Q => ∃ a kvs, xs = [V.ref a] ∧ Rd H a (.dK kvs) ∧ Q (.int kvs.length) H) := by
  intro pins s σ H xs us Q I r h
  obtain ⟨a, kvs, rfl, ha, q⟩ := h
  obtain ⟨u, rfl, ru⟩ := vals1 r
  cases ru
  exact d_len I ha fun t s' I' => ⟨.int kvs.length, H, I', ⟨t, rfl⟩, q⟩
def rLen (K : PySem.W.Frag) : List V → Hp → VK → Prop := fun xs H Q => (∃ p ys, xs = [.ref p] ∧ (SqL K H p ys ∨ SqT K H p ys) ∧ Q (.int ys.length) H) ∨ (∃ z : Str, xs = [.str z] ∧ z.length ≤ sizeLine ∧ Q (.int z.length) H) ∨ (∃ a kvs, xs = [V.ref a] ∧ Rd H a (.dK kvs) ∧ Q (.int kvs.length) H)
theorem call_len_any : CallR X (.builtin "len") (rLen X.K) := call_len_seq.or (call_len_str.or call_lenR)
end
section
variable {cl : Nat → Addr} {I : Hp} {m : List Addr} {s : Store} {H : Hp} {K : PySem.W.Frag}
theorem len_ok (si : Sim cl I m s H) {u : U} {n : Nat} {x : V} {Q : VK} (rx : RelU I m u x) (e : lenU s u = some n) (q : Q (.int n) H) : rLen K [x] H Q := by
  cases u with
  | v t =>
    cases t <;> simp only [lenU, reduceCtorEq, Option.some.injEq, Option.ite_none_right_eq_some] at e
    · subst_vars
      have e := e.2
      subst e
      exact .inr (.inl ⟨_, by rw [rx.1], by rw [mkS_len, line_LIM]; exact rx.2, by rw [mkS_len]; exact q⟩)
    · subst e
      obtain ⟨a, vs, rfl, h1, h2⟩ := rx
      exact .inl ⟨a, vs, rfl, .inl (.inl (si.sub _ _ h1)), by rw [← relL_len h2]; exact q⟩
    · subst e
      obtain ⟨a, vs, rfl, h1, h2⟩ := rx
      exact .inl ⟨a, vs, rfl, .inr (.inl (si.sub _ _ h1)), by rw [← relL_len h2]; exact q⟩
    · subst e
      obtain ⟨a, vs, rfl, h1, h2⟩ := rx
      exact .inr (.inr ⟨a, vs, rfl, si.sub _ _ h1, by rw [← relK_len h2]; exact q⟩)
  | tup us =>
    simp only [lenU, Option.some.injEq] at e
    subst e
    obtain ⟨a, vs, rfl, h1, h2⟩ := rx
    exact .inl ⟨a, vs, rfl, .inr (.inl (si.sub _ _ h1)), by rw [← relUs_len h2]; exact q⟩
  | ref i =>
    simp only [lenU] at e
    cases es : s[i]? with
    | none =>
      rw [es] at e
      cases e
    | some o =>
      rw [es] at e
      obtain ⟨a, ho, rfl, e2, e3, e4⟩ := si.at rx es
      cases o with
      | lst us =>
        obtain ⟨vs, rfl, h2⟩ := e4
        cases e
        exact .inl ⟨a, vs, rfl, .inl (.inl (.inl e3)), by rw [← relUs_len h2]; exact q⟩
      | dct kvs =>
        obtain ⟨vs, rfl, h2⟩ := e4
        cases e
        exact .inr (.inr ⟨a, vs, rfl, .inl e3, by rw [← relUK_len h2]; exact q⟩)
      | ins c fs => cases e
end
/-! ### truth -/
section
variable {X : Cx}
theorem tru_dict : TruR X (fun x H Q => ∃ a kvs, x = .ref a ∧ Rd H a (.dK kvs) ∧ Q (!kvs.isEmpty) H) := by
  intro pins s σ H x v Q I rx h
  obtain ⟨a, kvs, rfl, ha, q⟩ := h
  cases rx
  exact d_truth I ha fun s' I' => ⟨H, I', q⟩
def rTru (K : PySem.W.Frag) : V → Hp → (Bool → Hp → Prop) → Prop := fun x H Q => (∃ k, TruV K x H k ∧ Q k H) ∨ ∃ a kvs, x = .ref a ∧ Rd H a (.dK kvs) ∧ Q (!kvs.isEmpty) H
theorem tru_any : TruR X (rTru X.K) := by
  intro pins s σ H x v Q I rx h
  rcases h with h | h
  · exact tru_ok pins s σ H x v Q I rx h
  · exact tru_dict pins s σ H x v Q I rx h
theorem pt_tru {a : Expr} {ta : TE} (ha : PE X a ta) (he : ∀ whole, isTrue a X.env whole = (do let v ← whole; standAt a.pos; holding [v] (truthy v))) : PT X a (fun σ H Q => ta σ H fun x H' => rTru X.K x H' Q) := by
  refine ⟨fun pins s σ H Q I h => ?_⟩
  exact isTrue_plain (thn (ha.run pins s σ H _ I h) fun v s1 ⟨x, H1, I1, r1, q1⟩ => tru_any pins s1 σ H1 x v Q I1 r1 q1) (he _)
end
section
variable {cl : Nat → Addr} {I : Hp} {m : List Addr} {s : Store} {H : Hp} {K : PySem.W.Frag}
theorem isEmpty_len {α β : Type} {xs : List α} {ys : List β} (h : xs.length = ys.length) : xs.isEmpty = ys.isEmpty := by
  cases xs <;> cases ys <;> simp_all
theorem tru_of (si : Sim cl I m s H) {u : U} {b : Bool} {x : V} {Q : Bool → Hp → Prop} (rx : RelU I m u x) (e : truth s u = some b) (q : Q b H) : rTru K x H Q := by
  cases u with
  | v t =>
    cases t <;> simp only [truth, reduceCtorEq, Option.some.injEq] at e
    · subst e
      cases (show x = _ from rx)
      exact .inl ⟨false, rfl, q⟩
    · subst e
      cases (show x = _ from rx)
      exact .inl ⟨_, rfl, q⟩
    · subst e
      cases (show x = _ from rx)
      exact .inl ⟨_, rfl, q⟩
    · subst e
      obtain ⟨a, vs, rfl, h1, h2⟩ := rx
      exact .inl ⟨_, .inl ⟨vs, .inl (si.sub _ _ h1), rfl⟩, by rw [← isEmpty_len (relL_len h2)]; exact q⟩
    · subst e
      obtain ⟨a, vs, rfl, h1, h2⟩ := rx
      exact .inl ⟨_, .inr (.inl ⟨vs, .inl (si.sub _ _ h1), rfl⟩), by rw [← isEmpty_len (relL_len h2)]; exact q⟩
    · subst e
      obtain ⟨a, vs, rfl, h1, h2⟩ := rx
      exact .inr ⟨a, vs, rfl, si.sub _ _ h1, by rw [← isEmpty_len (relK_len h2)]; exact q⟩
  | tup us => simp [truth] at e
  | ref i => simp [truth] at e
end
/-! ### isinstance -/
def kdN : Kd → String
  | .bool => "bool"
  | .int => "int"
  | .str => "str"
  | .list => "list"
  | .dict => "dict"
  | .tuple => "tuple"
/-- a thing's own class -/
def tyN : T → String
  | .non => "NoneType"
  | .bl _ => "bool"
  | .int _ => "int"
  | .str _ => "str"
  | .lst _ => "list"
  | .tup _ => "tuple"
  | .dct _ => "dict"
theorem tyX_of {K : PySem.W.Frag} {H : Hp} {t : T} {x : V} (r : Rel (conH H) t x) : TyX K H x (.type (tyN t)) := by
  cases t with
  | non => cases (show x = _ from r); exact .base .non
  | bl b => cases (show x = _ from r); exact .base (.bl b)
  | int b => cases (show x = _ from r); exact .base (.int b)
  | str b => cases r.1; exact .base (.str _)
  | lst xs =>
    obtain ⟨a, vs, rfl, h1, _⟩ := r
    rcases rd_of_con h1 with h | ⟨o, h⟩
    · exact .base (.lst h)
    · exact .base (.frz h)
  | tup xs =>
    obtain ⟨a, vs, rfl, h1, _⟩ := r
    rcases rd_of_con h1 with h | ⟨o, h⟩
    · exact .base (.tup h)
    · exact .fTuple h
  | dct xs =>
    obtain ⟨a, vs, rfl, h1, _⟩ := r
    rcases rd_of_con h1 with h | ⟨o, h⟩
    · exact .base (.dK h)
    · exact .fDict h
theorem kit_of_kd {K : PySem.W.Frag} (t : T) (k : Kd) : PySem.W.kitOne K (.type (tyN t)) (.type (kdN k)) = some (isKd t k) := by
  cases t <;> cases k <;> exact kit_ty (by simp only [tyN, kdN, isKd]; decide +kernel)
theorem kit_any_kd {K : PySem.W.Frag} (t : T) : ∀ ks : List Kd, PySem.W.kitAny K (.type (tyN t)) (ks.map fun k => .type (kdN k)) = some (ks.any (isKd t))
  | [] => kitAny_nil
  | k :: ks => by
    refine kitAny_cons (kit_of_kd t k) (fun e => ?_) fun e => ?_
    · rw [List.any_cons, e, Bool.false_or]
      exact kit_any_kd t ks
    · rw [List.any_cons, e, Bool.true_or]
end Cab

set_option Elab.async false
set_option linter.all false
set_option maxRecDepth 100000
set_option maxHeartbeats 4000000
namespace Cab
open PySem PySem.Spec PyProof.Rows L2
/-! ### slices -/
theorem cut1_eq (n d : Nat) (o : Option Int) : cut1 n d o = HT.sIx n d o := by
  cases o <;> rfl
theorem relL_drop {I : Hp} : ∀ {ts : List T} {vs : List V} (n : Nat), RelL I ts vs → RelL I (ts.drop n) (vs.drop n)
  | _, _, 0, h => h
  | [], _, n + 1, h => by
    cases h
    rfl
  | _ :: _, _, n + 1, h => by
    obtain ⟨v, r, rfl, _, h2⟩ := h
    exact relL_drop n h2
theorem relL_take {I : Hp} : ∀ {ts : List T} {vs : List V} (n : Nat), RelL I ts vs → RelL I (ts.take n) (vs.take n)
  | _, _, 0, h => rfl
  | [], _, n + 1, h => by
    cases h
    rfl
  | _ :: _, _, n + 1, h => by
    obtain ⟨v, r, rfl, h1, h2⟩ := h
    exact ⟨v, r.take n, rfl, h1, relL_take n h2⟩
theorem relL_cut {I : Hp} {ts : List T} {vs : List V} (lo hi : Option Int) (h : RelL I ts vs) : RelL I (cut ts lo hi) (cutV vs lo hi) := by
  unfold cut cutV
  rw [cut1_eq, cut1_eq, relL_len h]
  exact relL_take _ (relL_drop _ h)
theorem cutS_eq (x : List Nat) (lo hi : Option Int) : cutS (mkS x) lo hi = mkS (cut x lo hi) := by
  unfold cutS cut
  rw [mkS_len, mkS_toList, cut1_eq, cut1_eq]
  rfl
theorem cut_len {α : Type} (x : List α) (lo hi : Option Int) : (cut x lo hi).length ≤ x.length := by
  unfold cut
  rw [List.length_take, List.length_drop]
  omega
theorem cut_all {α : Type} {x : List α} {lo hi : Option Int} (h1 : cut1 x.length 0 lo = 0) (h2 : cut1 x.length x.length hi = x.length) : cut x lo hi = x := by
  unfold cut
  rw [h1, h2]
  simp
def rCut (K : PySem.W.Frag) : V → Option Int → Option Int → Hp → VK → Prop := fun x lo hi H Q => rSlL K x lo hi H Q ∨ rSlA K x lo hi H Q ∨ rSlS x lo hi H Q
theorem sl_any {X : Cx} : SlR X (rCut X.K) := SlR.or sl_list (SlR.or sl_tupA sl_str)
theorem cut_ok {I H : Hp} {K : PySem.W.Frag} {t w : T} {lo hi : Option Int} {x : V} {Q : VK} (rx : RdT I H t x) (e : cutT lo hi t = some w) (q : Fin I H w Q) : rCut K x lo hi H Q := by
  cases t <;> simp only [cutT, reduceCtorEq, Option.some.injEq] at e
  · subst e
    exact .inr (.inr ⟨_, rx.1, by rw [mkS_len, line_LIM]; exact rx.2, q.1 _ ⟨by rw [cutS_eq], Nat.le_trans (cut_len _ _ _) rx.2⟩⟩)
  · subst e
    obtain ⟨a, vs, rfl, h1, h2⟩ := rx
    exact .inl ⟨a, vs, rfl, .inl h1, fun p hp => q.2 p _ hp ⟨_, rfl, relL_cut lo hi h2⟩⟩
  · subst e
    obtain ⟨a, vs, rfl, h0, h1, h2⟩ := rx
    refine .inr (.inl ⟨a, vs, rfl, .inl h1, fun z => q.1 _ ?_, fun _ p hp => q.2 p _ hp ⟨_, rfl, relL_cut lo hi h2⟩⟩)
    rw [cut_all (by rw [cut1_eq, relL_len h2]; exact z.1) (by rw [cut1_eq, relL_len h2]; exact z.2)]
    exact ⟨a, vs, rfl, h0, h2⟩
theorem relK_kyT {I : Hp} : ∀ {ts : List (Ky × T)} {vs : List (Key × V)}, RelK I ts vs → RelL I (ts.map fun p => kyT p.1) (vs.map fun kv => kV kv.1)
  | [], _, h => by
    cases h
    rfl
  | (q, _) :: _, _, h => by
    obtain ⟨v, r, rfl, h1, h2⟩ := h
    refine ⟨kV (kyK q), _, rfl, ?_, relK_kyT h2⟩
    cases q with
    | i n => rfl
    | s x => exact ⟨rfl, h1.1⟩
/-! ### built-in functions over data -/
def RdL (I H : Hp) : List T → List V → Prop
  | [], vs => vs = []
  | t :: ts, vs => ∃ v r, vs = v :: r ∧ RdT I H t v ∧ RdL I H ts r
def rPrm (p : Prm) : List V → Hp → VK → Prop := fun xs H Q => ∃ I ts w, (∀ a o, I a = some o → Rd H a o) ∧ RdL I H ts xs ∧ primT p ts = some w ∧ Fin I H w Q
theorem all_ints {I : Hp} : ∀ {xs : List T} {is : List Int} {vs : List V}, allInt xs = some is → RelL I xs vs → vs = is.map V.int
  | [], _, _, e, r => by
    cases e
    exact r
  | t :: xs, is, vs, e, r => by
    obtain ⟨v, rs, rfl, r1, r2⟩ := r
    cases t <;> simp only [allInt, optAll, reduceCtorEq] at e
    rename_i i
    cases e2 : allInt xs with
    | none =>
      simp only [allInt] at e2
      rw [e2] at e
      cases e
    | some js =>
      have e3 := e2
      simp only [allInt] at e2
      rw [e2] at e
      cases e
      rw [all_ints e3 r2, show v = V.int i from r1]
      rfl
theorem all_bls {I : Hp} : ∀ {xs : List T} {is : List Bool} {vs : List V}, allBl xs = some is → RelL I xs vs → vs = is.map V.bl
  | [], _, _, e, r => by
    cases e
    exact r
  | t :: xs, is, vs, e, r => by
    obtain ⟨v, rs, rfl, r1, r2⟩ := r
    cases t <;> simp only [allBl, optAll, reduceCtorEq] at e
    rename_i i
    cases e2 : allBl xs with
    | none =>
      simp only [allBl] at e2
      rw [e2] at e
      cases e
    | some js =>
      have e3 := e2
      simp only [allBl] at e2
      rw [e2] at e
      cases e
      rw [all_bls e3 r2, show v = V.bl i from r1]
      rfl
theorem all_strs {I : Hp} : ∀ {xs : List T} {is : List (List Nat)} {vs : List V}, allStr xs = some is → RelL I xs vs → vs = (is.map mkS).map V.str ∧ ∀ x ∈ is, x.length ≤ LIM
  | [], _, _, e, r => by
    cases e
    exact ⟨r, fun _ h => by cases h⟩
  | t :: xs, is, vs, e, r => by
    obtain ⟨v, rs, rfl, r1, r2⟩ := r
    cases t <;> simp only [allStr, optAll, reduceCtorEq] at e
    rename_i i
    cases e2 : allStr xs with
    | none =>
      simp only [allStr] at e2
      rw [e2] at e
      cases e
    | some js =>
      have e3 := e2
      simp only [allStr] at e2
      rw [e2] at e
      cases e
      obtain ⟨h1, h2⟩ := all_strs e3 r2
      rw [h1, r1.1]
      refine ⟨rfl, fun x hx => ?_⟩
      rcases List.mem_cons.mp hx with rfl | hx
      · exact r1.2
      · exact h2 x hx
theorem rdL1 {I H : Hp} {t : T} {vs : List V} (h : RdL I H [t] vs) : ∃ v, vs = [v] ∧ RdT I H t v := by
  obtain ⟨v, r, rfl, h1, h2⟩ := h
  cases h2
  exact ⟨v, rfl, h1⟩
theorem rdL2 {I H : Hp} {t t' : T} {vs : List V} (h : RdL I H [t, t'] vs) : ∃ v v', vs = [v, v'] ∧ RdT I H t v ∧ RdT I H t' v' := by
  obtain ⟨v, r, rfl, h1, h2⟩ := h
  obtain ⟨v', rfl, h3⟩ := rdL1 h2
  exact ⟨v, v', rfl, h1, h3⟩
section
variable {X : Cx}
theorem pr_abs : CallR X (.builtin "abs") (rPrm .abs) := by
  intro pins s σ H xs us Q J r h
  obtain ⟨I, ts, w, hs, rd, e, f⟩ := h
  match ts, e, rd with
  | [.int i], e, rd =>
    cases e
    obtain ⟨v, rfl, r1⟩ := rdL1 rd
    exact call_abs pins s σ H _ us Q J r ⟨i, by rw [show v = V.int i from r1], f.1 _ rfl⟩
theorem pr_min (hc : X.calm = true) : CallR X (.builtin "min") (rPrm .min) := by
  intro pins s σ H xs us Q J r h
  obtain ⟨I, ts, w, hs, rd, e, f⟩ := h
  match ts, e, rd with
  | [.int i, .int j], e, rd =>
    cases e
    obtain ⟨v, v', rfl, r1, r2⟩ := rdL2 rd
    exact call_min2 hc pins s σ H _ us Q J r ⟨i, j, by rw [show v = V.int i from r1, show v' = V.int j from r2], f.1 _ rfl⟩
theorem pr_max (hc : X.calm = true) : CallR X (.builtin "max") (rPrm .max) := by
  intro pins s σ H xs us Q J r h
  obtain ⟨I, ts, w, hs, rd, e, f⟩ := h
  match ts, e, rd with
  | [.int i, .int j], e, rd =>
    cases e
    obtain ⟨v, v', rfl, r1, r2⟩ := rdL2 rd
    exact call_max2 hc pins s σ H _ us Q J r ⟨i, j, by rw [show v = V.int i from r1, show v' = V.int j from r2], f.1 _ rfl⟩
theorem pr_sum (hc : X.calm = true) : CallR X (.builtin "sum") (rPrm .sum) := by
  intro pins s σ H xs us Q J r h
  obtain ⟨I, ts, w, hs, rd, e, f⟩ := h
  match ts, e, rd with
  | [.lst xs], e, rd =>
    simp only [primT, Option.map_eq_some_iff] at e
    obtain ⟨is, e3, rfl⟩ := e
    obtain ⟨v, rfl, a, vs, rfl, h1, h2⟩ := rdL1 rd
    have e2 := all_ints e3 h2
    subst e2
    exact cr_sum hc pins s σ H _ us Q J r ⟨a, is, rfl, .inl h1, f.1 _ rfl⟩
theorem pr_all (hc : X.calm = true) : CallR X (.builtin "all") (rPrm .all) := by
  intro pins s σ H xs us Q J r h
  obtain ⟨I, ts, w, hs, rd, e, f⟩ := h
  match ts, e, rd with
  | [.lst xs], e, rd =>
    simp only [primT, Option.map_eq_some_iff] at e
    obtain ⟨is, e3, rfl⟩ := e
    obtain ⟨v, rfl, a, vs, rfl, h1, h2⟩ := rdL1 rd
    have e2 := all_bls e3 h2
    subst e2
    exact cr_all hc pins s σ H _ us Q J r ⟨a, is, rfl, .inl h1, f.1 _ rfl⟩
theorem pr_any (hc : X.calm = true) : CallR X (.builtin "any") (rPrm .any) := by
  intro pins s σ H xs us Q J r h
  obtain ⟨I, ts, w, hs, rd, e, f⟩ := h
  match ts, e, rd with
  | [.lst xs], e, rd =>
    simp only [primT, Option.map_eq_some_iff] at e
    obtain ⟨is, e3, rfl⟩ := e
    obtain ⟨v, rfl, a, vs, rfl, h1, h2⟩ := rdL1 rd
    have e2 := all_bls e3 h2
    subst e2
    exact cr_any hc pins s σ H _ us Q J r ⟨a, is, rfl, .inl h1, f.1 _ rfl⟩
theorem pr_ord : CallR X (.builtin "ord") (rPrm .ord) := by
  intro pins s σ H xs us Q J r h
  obtain ⟨I, ts, w, hs, rd, e, f⟩ := h
  match ts, e, rd with
  | [.str [c]], e, rd =>
    cases e
    obtain ⟨v, rfl, r1⟩ := rdL1 rd
    exact call_ord pins s σ H _ us Q J r ⟨mkS [c], by rw [r1.1], rfl, f.1 _ rfl⟩
theorem pr_int : CallR X (.type "int") (rPrm .int) := by
  intro pins s σ H xs us Q J r h
  obtain ⟨I, ts, w, hs, rd, e, f⟩ := h
  match ts, e, rd with
  | [.int i], e, rd =>
    cases e
    obtain ⟨v, rfl, r1⟩ := rdL1 rd
    exact call_int1 pins s σ H _ us Q J r (.inl ⟨i, by rw [show v = V.int i from r1], f.1 _ rfl⟩)
  | [.bl i], e, rd =>
    cases e
    obtain ⟨v, rfl, r1⟩ := rdL1 rd
    exact call_int1 pins s σ H _ us Q J r (.inr ⟨i, by rw [show v = V.bl i from r1], f.1 _ rfl⟩)
theorem pr_list (hc : X.calm = true) : CallR X (.type "list") (rPrm .list) := by
  intro pins s σ H xs us Q J r h
  obtain ⟨I, ts, w, hs, rd, e, f⟩ := h
  match ts, e, rd with
  | [.lst xs], e, rd =>
    cases e
    obtain ⟨v, rfl, a, vs, rfl, h1, h2⟩ := rdL1 rd
    exact call_list_of pins s σ H _ us Q J r ⟨a, vs, rfl, .inl (.inl h1), fun p hp => f.2 p _ hp ⟨_, rfl, h2⟩⟩
  | [.tup xs], e, rd =>
    cases e
    obtain ⟨v, rfl, a, vs, rfl, _, h1, h2⟩ := rdL1 rd
    exact call_list_of pins s σ H _ us Q J r ⟨a, vs, rfl, .inr (.inl h1), fun p hp => f.2 p _ hp ⟨_, rfl, h2⟩⟩
  | [.dct xs], e, rd =>
    cases e
    obtain ⟨v, rfl, a, vs, rfl, h1, h2⟩ := rdL1 rd
    exact call_listD hc pins s σ H _ us Q J r ⟨a, vs, rfl, h1, fun p hp => f.2 p _ hp ⟨_, rfl, relK_kyT h2⟩⟩
theorem pr_tuple : CallR X (.type "tuple") (rPrm .tuple) := by
  intro pins s σ H xs us Q J r h
  obtain ⟨I, ts, w, hs, rd, e, f⟩ := h
  match ts, e, rd with
  | [.lst xs], e, rd =>
    cases e
    obtain ⟨v, rfl, a, vs, rfl, h1, h2⟩ := rdL1 rd
    exact call_tuple_of pins s σ H _ us Q J r ⟨a, vs, rfl, .inl ⟨.inl h1, fun p hp => f.2 p _ hp ⟨_, rfl, h2⟩⟩⟩
  | [.tup xs], e, rd =>
    cases e
    obtain ⟨v, rfl, a, vs, rfl, h0, h1, h2⟩ := rdL1 rd
    exact call_tuple_of pins s σ H _ us Q J r ⟨a, vs, rfl, .inr ⟨.inl h1, f.1 _ ⟨a, vs, rfl, h0, h2⟩⟩⟩
end
end Cab

set_option Elab.async false
set_option linter.all false
set_option maxRecDepth 100000
set_option maxHeartbeats 4000000
namespace Cab
open PySem PySem.Spec PyProof.Rows L2
/-! ### more built-in functions over data -/
theorem nat_repr_list (n : Nat) : (Nat.repr n).toList = Nat.toDigits 10 n := by
  unfold Nat.repr
  simp
theorem str_int (i : Int) : Str.ofString (toString i) = mkS (intText i) := by
  rw [Str.ofString_eq_toList]
  unfold mkS
  congr 2
  rw [Int.toString_eq_repr]
  cases i with
  | ofNat n =>
    have e : ¬ (Int.ofNat n) < 0 := by simp
    unfold intText
    rw [if_neg e]
    show (Nat.repr n).toList.map Char.toNat = digits n
    rw [nat_repr_list]
    rfl
  | negSucc n =>
    have e : Int.negSucc n < 0 := Int.negSucc_lt_zero n
    unfold intText
    rw [if_pos e]
    show ("-" ++ Nat.repr (n + 1)).toList.map Char.toNat = 45 :: digits (n + 1)
    rw [String.toList_append, nat_repr_list]
    rfl
theorem intText_len {i : Int} (h : i.natAbs.log2 < 1920) : (intText i).length ≤ LIM := by
  have := PyProof.Rows.int_text_len_1921 h
  rw [str_int, mkS_len] at this
  exact Nat.le_trans this (by decide)
/-! ### sorted -/
theorem strLe_eq (x y : List Nat) : strLe x y = decide (x ≤ y) := by
  unfold strLe
  rw [strLt_eq]
  by_cases h : y < x
  · simp [h]
  · simp [h, List.not_lt.mp h]
theorem strLe_trans (a b c : List Nat) (h : strLe a b = true) (k : strLe b c = true) : strLe a c = true := by
  rw [strLe_eq, decide_eq_true_eq] at *
  exact List.le_trans h k
theorem strLe_total (a b : List Nat) : (strLe a b || strLe b a) = true := by
  rw [strLe_eq, strLe_eq, Bool.or_eq_true, decide_eq_true_eq, decide_eq_true_eq]
  exact List.le_total a b
theorem strLe_antisymm (a b : List Nat) (h : strLe a b = true) (k : strLe b a = true) : a = b := by
  rw [strLe_eq, decide_eq_true_eq] at *
  exact List.le_antisymm h k
theorem ltCps_eq : ∀ x y : List Nat, Spec.ltCps x y = strLt x y
  | [], [] => rfl
  | [], _ :: _ => rfl
  | _ :: _, [] => rfl
  | a :: x, b :: y => by
    rw [Spec.ltCps, strLt, ltCps_eq x y]
    by_cases h : a = b
    · subst h
      simp
    · simp [h]
theorem rising_pair : ∀ (zs : List (List Nat)) (p : List Nat), PyProof.Rows.risingS (mkS p) (zs.map mkS) = true → (p :: zs).Pairwise fun a b => strLe a b = true
  | [], p, _ => by simp
  | z :: zs, p, h => by
    rw [List.map_cons, PyProof.Rows.risingS, Bool.and_eq_true, mkS_toList, mkS_toList, ltCps_eq] at h
    have ih := rising_pair zs z h.2
    refine List.pairwise_cons.mpr ⟨fun y hy => ?_, ih⟩
    rcases List.mem_cons.mp hy with rfl | hy
    · exact h.1
    · exact strLe_trans _ _ _ h.1 ((List.pairwise_cons.mp ih).1 y hy)
theorem sortedS_pair {zs : List (List Nat)} (h : PyProof.Rows.sortedS (zs.map mkS) = true) : zs.Pairwise fun a b => strLe a b = true := by
  cases zs with
  | nil => exact .nil
  | cons z zs => exact rising_pair zs z h
theorem strs_of_perm {ys : List Str} {xs : List (List Nat)} (h : ys.Perm (xs.map mkS)) : ∃ zs : List (List Nat), ys = zs.map mkS ∧ zs.Perm xs := by
  refine ⟨ys.map fun s => s.cps.toList, ?_, ?_⟩
  · rw [List.map_map]
    have : ∀ s : Str, (mkS ∘ fun s : Str => s.cps.toList) s = s := fun s => by
      show mkS s.cps.toList = s
      unfold mkS
      cases s
      simp
    rw [show (mkS ∘ fun s : Str => s.cps.toList) = id from funext this, List.map_id]
  · have := h.map fun s : Str => s.cps.toList
    rw [List.map_map] at this
    have e : ((fun s : Str => s.cps.toList) ∘ mkS) = id := funext fun x => mkS_toList x
    rw [e, List.map_id] at this
    exact this
theorem sort_strs {ys : List Str} {xs : List (List Nat)} (h : ys.Perm (xs.map mkS)) (k : PyProof.Rows.sortedS ys = true) : ys = (xs.mergeSort strLe).map mkS := by
  obtain ⟨zs, rfl, hp⟩ := strs_of_perm h
  congr 1
  exact List.Perm.eq_of_pairwise (fun a b _ _ => strLe_antisymm a b) (sortedS_pair k) (List.pairwise_mergeSort strLe_trans strLe_total xs) (hp.trans (List.mergeSort_perm xs strLe).symm)
theorem sort_ints {ys xs : List Int} (h : ys.Perm xs) (k : ys.Pairwise (· ≤ ·)) : ys = xs.mergeSort fun a b => decide (a ≤ b) := by
  have := List.pairwise_mergeSort (le := fun a b : Int => decide (a ≤ b)) (fun a b c h k => by simp only [decide_eq_true_eq] at *; omega) (fun a b => by simp only [Bool.or_eq_true, decide_eq_true_eq]; omega) xs
  refine List.Perm.eq_of_pairwise (le := fun a b : Int => decide (a ≤ b) = true) (fun a b _ _ h k => by simp only [decide_eq_true_eq] at *; omega) (k.imp fun {a b} h => by simpa using h) this (h.trans (List.mergeSort_perm xs _).symm)
/-! ### dicts of pairs -/
theorem putK_fresh {κ : Type} [DecidableEq κ] {kvs : List (κ × V)} {q : κ} {v : V} (h : q ∉ kvs.map (·.1)) : putK kvs q v = kvs ++ [(q, v)] := by
  unfold putK
  rw [if_neg]
  intro h2
  simp only [List.any_eq_true, decide_eq_true_eq] at h2
  obtain ⟨p, hp, e⟩ := h2
  exact h (List.mem_map.mpr ⟨p, hp, e⟩)
theorem putK_cons {κ : Type} [DecidableEq κ] {p : κ × V} {r : List (κ × V)} {q : κ} {v : V} (h : p.1 ∉ r.map (·.1)) : putK (p :: r) q v = if p.1 = q then (q, v) :: r else p :: putK r q v := by
  by_cases e : p.1 = q
  · rw [if_pos e]
    unfold putK
    rw [if_pos (by simp [e])]
    rw [List.map_cons, if_pos e, e]
    congr 1
    refine (List.map_congr_left fun x hx => ?_).trans (List.map_id r)
    rw [if_neg]
    · rfl
    · intro e2
      exact h (List.mem_map.mpr ⟨x, hx, e2.trans e.symm⟩)
  · rw [if_neg e]
    unfold putK
    by_cases e2 : (r.any fun kv => decide (kv.1 = q)) = true
    · rw [if_pos e2, if_pos (by rw [List.any_cons, e2, Bool.or_true]), List.map_cons, if_neg e]
    · rw [if_neg e2, if_neg (by rw [List.any_cons, decide_eq_false e]; simpa using e2)]
      rfl
theorem putK_keys {κ : Type} [DecidableEq κ] {q : κ} {v : V} : ∀ {w : List (κ × V)}, (w.map (·.1)).Nodup → ((putK w q v).map (·.1)).Nodup ∧ ∀ x, x ∈ (putK w q v).map (·.1) ↔ x = q ∨ x ∈ w.map (·.1)
  | [], _ => by simp [putK]
  | p :: w, nd => by
    have nd' : p.1 ∉ w.map (·.1) ∧ (w.map (·.1)).Nodup := List.nodup_cons.mp nd
    obtain ⟨h1, h2⟩ := putK_keys (q := q) (v := v) nd'.2
    rw [putK_cons nd'.1]
    by_cases e : p.1 = q
    · rw [if_pos e]
      subst e
      exact ⟨nd, fun x => by simp⟩
    · rw [if_neg e]
      refine ⟨List.nodup_cons.mpr ⟨fun z => ?_, h1⟩, fun x => ?_⟩
      · rcases (h2 _).mp z with z | z
        · exact e z
        · exact nd'.1 z
      · rw [List.map_cons, List.mem_cons, h2, List.map_cons, List.mem_cons]
        constructor
        · rintro (h | h | h)
          · exact .inr (.inl h)
          · exact .inl h
          · exact .inr (.inr h)
        · rintro (h | h | h)
          · exact .inr (.inl h)
          · exact .inl h
          · exact .inr (.inr h)
theorem relK_put {I : Hp} {q : Ky} {t : T} {v : V} (hq : kyB q) (r : Rel I t v) : ∀ {ts : List (Ky × T)} {w : List (Key × V)}, (w.map (·.1)).Nodup → RelK I ts w → RelK I (kput q t ts) (putK w (kyK q) v)
  | [], _, _, h => by
    cases h
    exact ⟨v, [], rfl, ⟨hq, r⟩, rfl⟩
  | (k, u) :: ts, _, nd, h => by
    obtain ⟨x, rs, rfl, h1, h2⟩ := h
    have nd' : kyK k ∉ rs.map (·.1) ∧ (rs.map (·.1)).Nodup := List.nodup_cons.mp nd
    unfold kput
    rw [putK_cons nd'.1]
    by_cases e : k = q
    · rw [if_pos e, if_pos (by rw [e])]
      exact ⟨v, rs, rfl, ⟨hq, r⟩, h2⟩
    · rw [if_neg e, if_neg fun z => e (kyK_inj z)]
      exact ⟨x, _, rfl, h1, relK_put hq r nd'.2 h2⟩
theorem relK_merge {I : Hp} : ∀ {ps acc : List (Ky × T)} {vs w : List (Key × V)}, RelK I ps vs → (w.map (·.1)).Nodup → RelK I acc w → RelK I (merge acc ps) (mergeK w vs)
  | [], acc, vs, w, r, _, h => by
    cases r
    exact h
  | (q, t) :: ps, acc, vs, w, r, nd, h => by
    obtain ⟨v, rs, rfl, r1, r2⟩ := r
    exact relK_merge (acc := kput q t acc) (w := putK w (kyK q) v) r2 (putK_keys nd).1 (relK_put r1.1 r1.2 nd h)
theorem all_pairs {I H : Hp} (hs : ∀ a o, I a = some o → Rd H a o) : ∀ {xs : List T} {ps : List (Ky × T)} {vs : List V}, allPair xs = some ps → RelL I xs vs → ∃ as ws, vs = as.map V.ref ∧ RelK I ps ws ∧ Paired (fun (p : Addr) (kv : Key × V) => Rd H p (.tup [kV kv.1, kv.2])) as ws
  | [], _, _, e, r => by
    cases e
    cases r
    exact ⟨[], [], rfl, rfl, .nil⟩
  | t :: xs, ps, vs, e, r => by
    obtain ⟨v, rs, rfl, r1, r2⟩ := r
    match t, r1, e with
    | .tup [k, u], r1, e =>
      simp only [allPair, optAll] at e
      cases ek : tKy k with
      | none =>
        rw [ek] at e
        cases e
      | some q =>
        rw [ek] at e
        cases e2 : allPair xs with
        | none =>
          simp only [allPair] at e2
          rw [e2] at e
          cases e
        | some qs =>
          have e3 := e2
          simp only [allPair] at e2
          rw [e2] at e
          cases e
          obtain ⟨as, ws, rfl, h1, h2⟩ := all_pairs hs e3 r2
          obtain ⟨a, us, rfl, ha, x, r, rfl, hx, y, r', rfl, hy, hn⟩ := r1
          cases hn
          have hk : x = kV (kyK q) ∧ kyB q := by
            cases k <;> simp only [tKy, reduceCtorEq, Option.some.injEq] at ek <;> subst ek
            · exact ⟨hx, trivial⟩
            · exact hx
          obtain ⟨rfl, hb⟩ := hk
          exact ⟨a :: as, (kyK q, y) :: ws, rfl, ⟨y, ws, rfl, ⟨hb, hy⟩, h1⟩, .cons (hs _ _ ha) h2⟩
section
variable {X : Cx}
theorem pr_str : CallR X (.type "str") (rPrm .str) := by
  intro pins s σ H xs us Q J r h
  obtain ⟨I, ts, w, hs, rd, e, f⟩ := h
  match ts, e, rd with
  | [.int i], e, rd =>
    simp only [primT] at e
    split at e
    · rename_i hz
      cases e
      obtain ⟨v, rfl, r1⟩ := rdL1 rd
      refine call_str_int pins s σ H _ us Q J r ⟨i, by rw [show v = V.int i from r1], hz, f.1 _ ⟨?_, intText_len hz⟩⟩
      rw [← str_int]
    · cases e
theorem relL_ints {I : Hp} : ∀ is : List Int, RelL I (is.map T.int) (is.map V.int)
  | [] => rfl
  | i :: is => ⟨_, _, rfl, rfl, relL_ints is⟩
theorem relL_strs {I : Hp} : ∀ {ss : List (List Nat)}, (∀ x ∈ ss, x.length ≤ LIM) → RelL I (ss.map T.str) ((ss.map mkS).map V.str)
  | [], _ => rfl
  | x :: ss, h => ⟨_, _, rfl, ⟨rfl, h x List.mem_cons_self⟩, relL_strs fun y hy => h y (List.mem_cons_of_mem _ hy)⟩
theorem optAll_len {α β : Type} {f : α → Option β} : ∀ {xs : List α} {ys : List β}, optAll f xs = some ys → ys.length = xs.length
  | [], ys, h => by
    cases h
    rfl
  | x :: xs, ys, h => by
    unfold optAll at h
    split at h
    · split at h
      · cases h
        rename_i e
        simp [optAll_len e]
      · cases h
    · cases h
theorem keys_int : ∀ {ws : List (Key × V)} {is : List Int}, (ws.map fun kv => kV kv.1) = is.map V.int → ws.map (·.1) = is.map Sum.inl
  | [], [], _ => rfl
  | [], _ :: _, h => by cases h
  | _ :: _, [], h => by cases h
  | (.inl n, v) :: ws, i :: is, h => by
    simp only [List.map_cons, List.cons.injEq] at h
    obtain ⟨h1, h2⟩ := h
    cases h1
    simp only [List.map_cons, keys_int h2]
  | (.inr x, v) :: ws, i :: is, h => by
    simp only [List.map_cons, List.cons.injEq] at h
    cases h.1
theorem keys_str : ∀ {ws : List (Key × V)} {is : List Str}, (ws.map fun kv => kV kv.1) = is.map V.str → ws.map (·.1) = is.map Sum.inr
  | [], [], _ => rfl
  | [], _ :: _, h => by cases h
  | _ :: _, [], h => by cases h
  | (.inr n, v) :: ws, i :: is, h => by
    simp only [List.map_cons, List.cons.injEq] at h
    obtain ⟨h1, h2⟩ := h
    cases h1
    simp only [List.map_cons, keys_str h2]
  | (.inl x, v) :: ws, i :: is, h => by
    simp only [List.map_cons, List.cons.injEq] at h
    cases h.1
theorem pr_sorted (hc : X.calm = true) : CallR X (.builtin "sorted") (rPrm .sorted) := by
  intro pins s σ H xs us Q J r h
  obtain ⟨I, ts, w, hs, rd, e, f⟩ := h
  match ts, e, rd with
  | [.lst xs], e, rd =>
    simp only [primT] at e
    split at e
    · rename_i hz
      obtain ⟨v, rfl, a, vs, rfl, h1, h2⟩ := rdL1 rd
      unfold sortT at e
      split at e
      · rename_i is ei
        cases e
        have := all_ints ei h2
        subst this
        refine cr_sorted pins s σ H _ us Q J r ⟨a, is, rfl, .inl h1, by rw [optAll_len ei]; exact hz, fun ys p hp ho hf => ?_⟩
        rw [sort_ints hp ho]
        exact f.2 p _ hf ⟨_, rfl, relL_ints _⟩
      · split at e
        · rename_i ss es
          cases e
          obtain ⟨e2, hl⟩ := all_strs es h2
          subst e2
          refine cr_sortedS pins s σ H _ us Q J r ⟨a, _, rfl, .inl h1, by rw [List.length_map, optAll_len es]; exact hz, fun ys p hp ho hf => ?_⟩
          rw [sort_strs hp ho]
          exact f.2 p _ hf ⟨_, rfl, relL_strs fun x hx => hl x ((List.mergeSort_perm _ _).mem_iff.mp hx)⟩
        · cases e
    · cases e
  | [.dct kvs], e, rd =>
    simp only [primT] at e
    split at e
    · rename_i hz
      obtain ⟨v, rfl, a, ws, rfl, h1, h2⟩ := rdL1 rd
      have hk := relK_kyT h2
      unfold sortT at e
      split at e
      · rename_i is ei
        cases e
        have hv := all_ints ei hk
        refine call_sortedDI hc pins s σ H _ us Q J r ⟨a, ws, is, rfl, h1, keys_int hv, by rw [optAll_len ei, List.length_map]; exact hz, fun ys p hp ho hf => ?_⟩
        rw [sort_ints hp ho]
        exact f.2 p _ hf ⟨_, rfl, relL_ints _⟩
      · split at e
        · rename_i ss es
          cases e
          obtain ⟨e2, hl⟩ := all_strs es hk
          refine call_sortedD hc pins s σ H _ us Q J r ⟨a, ws, ss.map mkS, rfl, h1, keys_str e2, by rw [List.length_map, optAll_len es, List.length_map]; exact hz, fun ys p hp ho hf => ?_⟩
          rw [sort_strs hp ho]
          exact f.2 p _ hf ⟨_, rfl, relL_strs fun x hx => hl x ((List.mergeSort_perm _ _).mem_iff.mp hx)⟩
        · cases e
    · cases e
theorem pr_dict (hc : X.calm = true) : CallR X (.type "dict") (rPrm .dict) := by
  intro pins s σ H xs us Q J r h
  obtain ⟨I, ts, w, hs, rd, e, f⟩ := h
  match ts, e, rd with
  | [.lst xs], e, rd =>
    simp only [primT, Option.map_eq_some_iff] at e
    obtain ⟨ps, e3, rfl⟩ := e
    obtain ⟨v, rfl, a, vs, rfl, h1, h2⟩ := rdL1 rd
    obtain ⟨as, ws, rfl, h3, h4⟩ := all_pairs (H := H) hs e3 h2
    exact call_dictP hc pins s σ H _ us Q J r ⟨a, as, ws, rfl, .inl h1, L2.Paired.mapP h4 fun p kv z => .inl z, fun p hp => f.2 p _ hp ⟨_, rfl, relK_merge h3 List.nodup_nil rfl⟩⟩
end
end Cab

set_option Elab.async false
set_option linter.all false
set_option maxRecDepth 100000
set_option maxHeartbeats 4000000
namespace Cab
open PySem PySem.Spec PyProof.Rows L2
/-! ### where a text stands -/
structure MC where
  N : List Str
  sc : Scope
  fns : List (Str × (Nat × Nat × Nat))
  blt : List Str
  csts : List (Str × Nat)
def nameOk (x : Str) : Bool := !(x == ("__debug__" : Str)) && !(x == ("__classdict__" : Str)) && !(x == ("__name__" : Str))
def visB (sc : Scope) (x : Str) : Bool := match sc.names.lookup x with
  | some .local => true
  | some .cell => true
  | some .free => true
  | _ => false
def glB (sc : Scope) (x : Str) : Bool := match sc.names.lookup x with
  | some .globalImplicit => true
  | _ => false
def locB (sc : Scope) (x : Str) : Bool := match sc.names.lookup x with
  | some .local => true
  | _ => false
def cellB (sc : Scope) (x : Str) : Bool := match sc.names.lookup x with
  | some .cell => true
  | _ => false
def cfB (sc : Scope) (x : Str) : Bool := match sc.names.lookup x with
  | some .cell => true
  | some .free => true
  | _ => false
/-- what a def of the text promises -/
def spC (cl : Nat → Addr) (C : Call) (n f : Nat) : Sp := fun vs H Q E => vs.length = n ∧ ∃ I m us s, HF H ∧ Sim cl I m s H ∧ RelUs I m us vs ∧ OutR cl RelU (fun c d _ H => E c d H) ([] : St) I m H (C f us s) fun _ _ _ _ H x => Q x H
/-- a def that may be called -/
structure FnK (X : Cx) (cl : Nat → Addr) (C : Call) (k : Nat) (x : Str) (q : Nat × Nat × Nat) : Prop where
  ex : ∃ (dfl : List T) (fa : Addr) (fd : FuncData) (ps : List Str), X.mg x = some (.ref fa) ∧ PySem.W.keepIn X.K (.ref fa) = true ∧ FnOk X.prog X.w X.K X.mg X.base (L2.CX X.prog X.w) k fa fd ps (spC cl C q.2.1 q.1) ∧ dfl.length = q.2.2 ∧
    (∀ us s, us.length ≤ q.2.1 → q.2.1 ≤ us.length + q.2.2 → C q.1 us s = C q.1 (us ++ (dfl.drop (dfl.length - (q.2.1 - us.length))).map .v) s) ∧
    ∀ j, j ≤ q.2.1 → q.2.1 ≤ j + q.2.2 → ∃ dvs ds, Vals dvs ds ∧ Binds X.K fd ps ds ∧ ∀ I : Hp, RelL I (dfl.drop (dfl.length - (q.2.1 - j))) dvs
structure Good (cl : Nat → Addr) (G : Glo) (C : Call) (k : Nat) (c : MC) (X : Cx) (W : WX) : Prop where
  N : X.N = c.N
  nd : c.N.Nodup
  vis : ∀ x, visB c.sc x = true → Vis X.env.scope x
  gl : ∀ x, glB c.sc x = true → Gl X x
  loc : ∀ x, locB c.sc x = true → X.env.scope.names.lookup x = some .local
  cell : ∀ x, cellB c.sc x = true → X.env.scope.names.lookup x = some .cell ∧ X.fn x = true
  cf : ∀ x, cfB c.sc x = true → X.env.scope.names.lookup x = some .cell ∨ X.env.scope.names.lookup x = some .free
  kind : X.env.scope.kind = .function
  calm : X.calm = true
  tk : Takes X W
  room : Room k X.A
  own : PassesOwn (model X.prog X.w) X.A X.env X.xe
  blt : ∀ x, x ∈ c.blt → X.mg x = none
  fns : ∀ x f, c.fns.lookup x = some f → FnK X cl C k x f
  csts : ∀ x g, c.csts.lookup x = some g → ∃ t u v, G g = some t ∧ X.mg x = some u ∧ RelV v u ∧ ∀ I : Hp, Rel I t v
section
variable {cl : Nat → Addr} {G : Glo} {C : Call} {k : Nat} {c : MC} {X : Cx} {W : WX}
theorem Good.hu (g : Good cl G C k c X W) : X.A.units + 70 < cLine := by
  have := g.room.un
  omega
theorem Good.hu1 (g : Good cl G C k c X W) : X.A.units + 1 < cLine := by
  have := g.room.un
  omega
/-! ### a comprehension's block -/
theorem lookup_map {f : Str × NameKind → NameKind} : ∀ {l : List (Str × NameKind)} {x : Str} {a : NameKind}, l.lookup x = some a → ∃ y, y = x ∧ (l.map fun p => (p.1, f p)).lookup x = some (f (y, a))
  | [], _, _, h => by simp at h
  | (n, b) :: r, x, a, h => by
    simp only [List.lookup_cons] at h
    simp only [List.map_cons, List.lookup_cons]
    by_cases e : x = n
    · subst e
      simp only [beq_self_eq_true] at h ⊢
      cases h
      exact ⟨x, rfl, rfl⟩
    · have e2 : (x == n) = false := beq_eq_false_iff_ne.mpr e
      simp only [e2] at h ⊢
      exact lookup_map h
theorem relabel_look {sc : Scope} {env : PySem.Env} {x : Str} {a : NameKind} (h : sc.names.lookup x = some a) : ∃ b, (relabel sc env).names.lookup x = some b ∧ (a ≠ .free → b = a) ∧ (a = .free → b = .free ∨ b = .cell) := by
  obtain ⟨y, e, h2⟩ := lookup_map (f := fun p => if (p.2 == NameKind.free && env.scope.kind == .function && env.kindOf p.1 == some .cell) = true then NameKind.cell else p.2) h
  subst e
  refine ⟨if (a == NameKind.free && env.scope.kind == .function && env.kindOf y == some .cell) = true then NameKind.cell else a, ?_, fun ha => ?_, fun ha => ?_⟩
  · refine Eq.trans ?_ h2
    unfold relabel
    congr 1
    refine List.map_congr_left fun p _ => ?_
    obtain ⟨n, q⟩ := p
    simp only
    split <;> rfl
  · have : (a == NameKind.free) = false := by cases a <;> first | rfl | exact absurd rfl ha
    simp [this]
  · subst ha
    split
    · exact .inr rfl
    · exact .inl rfl
theorem Good.blk (g : Good cl G C k c X W) {scope : Scope} {own : List (Str × Nat)} (ok : blkC c.N c.sc scope own = true) (s : Shared) (H : Hp) (Ca : Addr) (cls : List (Str × Addr)) (fp : List Addr) :
    Good cl G C k { c with sc := scope } (X.blk s H scope (compEnvC scope cls Ca X.env) fp) fun _ _ _ _ => False where
  N := g.N
  nd := g.nd
  vis := fun x h => by
    unfold visB at h
    simp only at h
    cases e : scope.names.lookup x with
    | none => rw [e] at h; cases h
    | some a =>
      rw [e] at h
      obtain ⟨b, e1, e2, e3⟩ := relabel_look (env := X.env) e
      show (relabel scope X.env).names.lookup x = _ ∨ (relabel scope X.env).names.lookup x = _ ∨ (relabel scope X.env).names.lookup x = _
      rw [e1]
      cases a <;> simp at h
      · left; rw [e2 (by simp)]
      · right; left; rw [e2 (by simp)]
      · rcases e3 rfl with z | z
        · right; right; rw [z]
        · right; left; rw [z]
  gl := fun x h => by
    unfold glB at h
    simp only at h
    cases e : scope.names.lookup x with
    | none => rw [e] at h; cases h
    | some a =>
      rw [e] at h
      obtain ⟨b, e1, e2, e3⟩ := relabel_look (env := X.env) e
      show (relabel scope X.env).names.lookup x = _
      rw [e1]
      cases a <;> simp at h
      rw [e2 (by simp)]
  loc := fun x h => by
    unfold locB at h
    simp only at h
    cases e : scope.names.lookup x with
    | none => rw [e] at h; cases h
    | some a =>
      rw [e] at h
      obtain ⟨b, e1, e2, e3⟩ := relabel_look (env := X.env) e
      show (relabel scope X.env).names.lookup x = _
      rw [e1]
      cases a <;> simp at h
      rw [e2 (by simp)]
  cell := fun x h => by
    unfold cellB at h
    simp only at h
    cases e : scope.names.lookup x with
    | none => rw [e] at h; cases h
    | some a =>
      rw [e] at h
      obtain ⟨b, e1, e2, e3⟩ := relabel_look (env := X.env) e
      cases a <;> simp at h
      refine ⟨?_, ?_⟩
      · show (relabel scope X.env).names.lookup x = _
        rw [e1, e2 (by simp)]
      · show (scope.names.lookup x == some .cell) = true
        rw [e]
        rfl
  cf := fun x h => by
    unfold cfB at h
    simp only at h
    cases e : scope.names.lookup x with
    | none => rw [e] at h; cases h
    | some a =>
      rw [e] at h
      obtain ⟨b, e1, e2, e3⟩ := relabel_look (env := X.env) e
      show (relabel scope X.env).names.lookup x = _ ∨ (relabel scope X.env).names.lookup x = _
      rw [e1]
      cases a <;> simp at h
      · left; rw [e2 (by simp)]
      · rcases e3 rfl with z | z
        · right; rw [z]
        · left; rw [z]
  kind := by
    show scope.kind = .function
    exact (blkOk_by (sc := c.sc) ok).kind
  calm := g.calm
  tk := fun u s' h => by
    obtain ⟨_, _, _, _, _, _, _, _, _, _, _, _, _, _, _, _, h⟩ := h
    exact h
  room := g.room
  own := PassesOwn.never
  blt := g.blt
  fns := fun x f h => ⟨(g.fns x f h).ex⟩
  csts := g.csts
theorem Good.blkOk (g : Good cl G C k c X W) {scope : Scope} {own : List (Str × Nat)} (ok : blkC c.N c.sc scope own = true) : BlkOk X.N X.env.scope scope own := by
  have h := blkOk_by ok
  refine ⟨h.kind, h.uniq, fun p hp => by rw [g.N]; exact h.ix p hp, fun y hy e => ?_, fun y hy e => by rw [g.N]; exact h.own y hy e⟩
  refine g.cf _ ?_
  unfold cfB
  rcases h.free y hy e with z | z <;> rw [z]
end
end Cab

set_option Elab.async false
set_option linter.all false
set_option maxRecDepth 100000
set_option maxHeartbeats 4000000
namespace Cab
open PySem PySem.Spec PyProof.Rows L2
theorem nameOk_d {x : Str} (h : nameOk x = true) : (x == ("__debug__" : Str)) = false := by
  unfold nameOk at h
  simp only [Bool.and_eq_true, Bool.not_eq_true'] at h
  exact h.1.1
theorem nameOk_c {x : Str} (h : nameOk x = true) : (x == ("__classdict__" : Str)) = false := by
  unfold nameOk at h
  simp only [Bool.and_eq_true, Bool.not_eq_true'] at h
  exact h.1.2
/-! ### arguments without stars -/
def isStar : Expr → Bool
  | .Starred _ _ => true
  | _ => false
theorem star_one {e : Expr} (h : isStar e = false) (es : List Expr) (env : PySem.Env) : starEach (e :: es) env = (false, eval e env) :: starEach es env := by
  cases e <;> first | (simp [isStar] at h; done) | simp only [starEach]
theorem star_no {pos : Pos} {env : PySem.Env} : ∀ {es : List Expr}, (es.all fun e => !isStar e) = true → (backTo pos (starEach es env)).any (·.1) = false
  | [], _ => rfl
  | e :: es, h => by
    simp only [List.all_cons, Bool.and_eq_true, Bool.not_eq_true'] at h
    rw [star_one h.1]
    have := star_no (pos := pos) (env := env) h.2
    unfold backTo at this ⊢
    rw [List.map_cons, List.any_cons, this]
    rfl
theorem star_few {pos : Pos} {env : PySem.Env} : ∀ {es : List Expr}, (es.all fun e => !isStar e) = true → (backTo pos (starEach es env)).all (fun x => !x.1) = true
  | [], _ => rfl
  | e :: es, h => by
    simp only [List.all_cons, Bool.and_eq_true, Bool.not_eq_true'] at h
    rw [star_one h.1]
    have := star_few (pos := pos) (env := env) h.2
    unfold backTo at this ⊢
    rw [List.map_cons, List.all_cons, this]
    rfl
section
variable {cl : Nat → Addr} {G : Glo} {C : Call} {k : Nat} {c : MC} {X : Cx} {W : WX}
/-! ### names, constants -/
theorem s_var {i : Nat} {x : Str} {pos : Pos} (hN : X.N[i]? = some x) (hv : Vis X.env.scope x) (hn : nameOk x = true) : PE X (.Name x pos) (den cl G C W (.var i)) := by
  refine pe_w (pe_var hN hv (nameOk_d hn) (nameOk_c hn)) fun σ H Q ⟨I, m, ρ, s, hf, si, rs, o⟩ => ?_
  simp only [ev] at o
  cases e : ρ[i]? with
  | none =>
    rw [e] at o
    exact o.elim
  | some u =>
    cases u with
    | none =>
      rw [e] at o
      exact o.elim
    | some u =>
      rw [e] at o
      obtain ⟨v, h1, h2⟩ := rs.2 i u e
      exact ⟨v, h1, fun _ => o I m H v hf Ext.refl si h2⟩
theorem s_val {e : E} {t : T} {v : V} {x : Expr} (h : PE X x (tC v)) (he : ∀ ρ s, ev G C e ρ s = .ok (.v t) s) (r : ∀ I : Hp, Rel I t v) : PE X x (den cl G C W e) := by
  refine pe_w h fun σ H Q ⟨I, m, ρ, s, hf, si, rs, o⟩ => ?_
  rw [he] at o
  exact fun _ => o I m H v hf Ext.refl si (r I)
/-- a written constant -/
def mC : T → Const → Bool
  | .non, .none => true
  | .bl b, .bool b' => b == b'
  | .int i, .int j => i == j
  | .str x, .str y => y == mkS x && decide (x.length ≤ LIM)
  | _, _ => false
theorem s_con {t : T} {q : Const} {j : Nat} {pos : Pos} (h : mC t q = true) : PE X (.Constant q j pos) (den cl G C W (.con t)) := by
  cases t <;> cases q <;> simp only [mC, beq_iff_eq, Bool.and_eq_true, decide_eq_true_eq, reduceCtorEq] at h
  · exact s_val (t := .non) pe_non (fun _ _ => by simp only [ev]) fun _ => rfl
  · subst h
    exact s_val (t := .bl _) pe_bl (fun _ _ => by simp only [ev]) fun _ => rfl
  · subst h
    exact s_val (t := .int _) pe_int (fun _ _ => by simp only [ev]) fun _ => rfl
  · obtain ⟨rfl, h⟩ := h
    exact s_val (t := .str _) pe_str (fun _ _ => by simp only [ev]) fun _ => ⟨rfl, h⟩
theorem s_glo (g : Good cl G C k c X W) {x : Str} {n : Nat} {pos : Pos} (h : c.csts.lookup x = some n) (hg : glB c.sc x = true) (hn : nameOk x = true) : PE X (.Name x pos) (den cl G C W (.glo n)) := by
  obtain ⟨t, u, v, h1, h2, h3, h4⟩ := g.csts x n h
  refine s_val (pe_glob (g.gl x hg) h2 h3 (nameOk_d hn)) (fun _ _ => ?_) h4
  simp only [ev, h1]
/-! ### operators -/
theorem s_bin {op : Bop} {a b : E} {xa xb : Expr} {pos : Pos} (hop : op ≠ .bor) (ha : PE X xa (den cl G C W a)) (hb : PE X xb (den cl G C W b)) : PE X (.BinOp xa (opK op) xb pos) (den cl G C W (.bin op a b)) := by
  refine pe_w (pe_op (op_bin op hop) ha hb) fun σ H Q ⟨I, m, ρ, s, hf, si, rs, o⟩ => ?_
  simp only [ev] at o
  refine ⟨I, m, ρ, s, hf, si, rs, OutR.first o fun u s1 I1 m1 H1 x hf1 e1 si1 r1 o1 => ?_⟩
  refine ⟨I1, m1, ρ, s1, hf1, si1, rs.mono e1, OutR.first o1 fun w s2 I2 m2 H2 y hf2 e2 si2 r2 o2 => ?_⟩
  unfold lift2 at o2
  cases ea : asT s2 u with
  | none =>
    rw [ea] at o2
    exact o2.elim
  | some t =>
    cases eb : asT s2 w with
    | none =>
      rw [ea, eb] at o2
      exact o2.elim
    | some t' =>
      rw [ea, eb] at o2
      simp only at o2
      cases ew : binT op t t' with
      | none =>
        rw [ew] at o2
        exact o2.elim
      | some z =>
        rw [ew] at o2
        exact ⟨I2, t, t', z, asT_rd si2 (RelU.mono e2.i e2.mm r1) ea, asT_rd si2 r2 eb, ew, fin_of si2 o2⟩
theorem s_neg {a : E} {xa : Expr} {pos : Pos} (ha : PE X xa (den cl G C W a)) : PE X (.UnaryOp .USub xa pos) (den cl G C W (.neg a)) := by
  refine pe_w (pe_un un_neg ha) fun σ H Q ⟨I, m, ρ, s, hf, si, rs, o⟩ => ?_
  simp only [ev] at o
  refine ⟨I, m, ρ, s, hf, si, rs, OutR.first o fun u s1 I1 m1 H1 x hf1 e1 si1 r1 o1 => ?_⟩
  cases u with
  | v t =>
    cases t with
    | int i => exact ⟨i, r1, fun hf => o1 I1 m1 H1 _ hf Ext.refl si1 rfl⟩
    | _ => exact o1.elim
  | _ => exact o1.elim
theorem asBl_some {u : U} {b : Bool} (h : asBl u = some b) : u = .v (.bl b) := by
  cases u with
  | v t =>
    cases t <;> simp only [asBl, reduceCtorEq, Option.some.injEq] at h
    rw [h]
  | _ => cases h
theorem s_not {a : E} {xa : Expr} {pos : Pos} (ha : PE X xa (den cl G C W a)) : PE X (.UnaryOp .Not xa pos) (den cl G C W (.not a)) := by
  refine pe_w (pe_not ha) fun σ H Q ⟨I, m, ρ, s, hf, si, rs, o⟩ => ?_
  simp only [ev] at o
  refine ⟨I, m, ρ, s, hf, si, rs, OutR.first o fun u s1 I1 m1 H1 x hf1 e1 si1 r1 o1 => ?_⟩
  cases eb : asBl u with
  | none =>
    rw [eb] at o1
    exact o1.elim
  | some b =>
    rw [eb] at o1
    cases asBl_some eb
    exact ⟨b, r1, fun hf => o1 I1 m1 H1 _ hf Ext.refl si1 rfl⟩
theorem s_notT {a : E} {xa : Expr} {pos : Pos} (ha : PT X xa (denT cl G C W a)) : PT X (.UnaryOp .Not xa pos) (denT cl G C W (.not a)) := by
  refine pt_w (pt_not ha) fun σ H Q ⟨I, m, ρ, s, hf, si, rs, o⟩ => ?_
  simp only [ev] at o
  refine ⟨I, m, ρ, s, hf, si, rs, OutR.first o fun u s1 I1 m1 H1 x hf1 e1 si1 r1 o1 => ?_⟩
  cases eb : asBl u with
  | none =>
    rw [eb] at o1
    exact o1.elim
  | some b =>
    rw [eb] at o1
    cases asBl_some eb
    refine ⟨b, rfl, fun hf => ?_⟩
    obtain ⟨b', e, q⟩ := o1 I1 m1 H1 (.bl !b) hf Ext.refl si1 rfl
    cases e
    exact q
theorem s_and {a b : E} {xa xb : Expr} {rest : List Expr} {pos : Pos} (ha : PE X xa (den cl G C W a)) (hb : PE X (.BoolOp .And (xb :: rest) pos) (den cl G C W b)) : PE X (.BoolOp .And (xa :: xb :: rest) pos) (den cl G C W (.and a b)) := by
  refine pe_w (pe_and ha hb) fun σ H Q ⟨I, m, ρ, s, hf, si, rs, o⟩ => ?_
  simp only [ev] at o
  refine ⟨I, m, ρ, s, hf, si, rs, OutR.first o fun u s1 I1 m1 H1 x hf1 e1 si1 r1 o1 => ?_⟩
  cases eb : asBl u with
  | none =>
    rw [eb] at o1
    exact o1.elim
  | some d =>
    rw [eb] at o1
    cases asBl_some eb
    refine ⟨d, r1, ?_⟩
    cases d with
    | true =>
      rw [if_pos rfl]
      exact ⟨I1, m1, ρ, s1, hf1, si1, rs.mono e1, o1.imp fun u s' I' m' H' x _ _ _ _ q hf => q⟩
    | false =>
      rw [if_neg Bool.false_ne_true]
      exact fun hf => o1 I1 m1 H1 _ hf Ext.refl si1 rfl
theorem s_or {a b : E} {xa xb : Expr} {rest : List Expr} {pos : Pos} (ha : PE X xa (den cl G C W a)) (hb : PE X (.BoolOp .Or (xb :: rest) pos) (den cl G C W b)) : PE X (.BoolOp .Or (xa :: xb :: rest) pos) (den cl G C W (.or a b)) := by
  refine pe_w (pe_or ha hb) fun σ H Q ⟨I, m, ρ, s, hf, si, rs, o⟩ => ?_
  simp only [ev] at o
  refine ⟨I, m, ρ, s, hf, si, rs, OutR.first o fun u s1 I1 m1 H1 x hf1 e1 si1 r1 o1 => ?_⟩
  cases eb : asBl u with
  | none =>
    rw [eb] at o1
    exact o1.elim
  | some d =>
    rw [eb] at o1
    cases asBl_some eb
    refine ⟨d, r1, ?_⟩
    cases d with
    | false =>
      rw [if_neg Bool.false_ne_true]
      exact ⟨I1, m1, ρ, s1, hf1, si1, rs.mono e1, o1.imp fun u s' I' m' H' x _ _ _ _ q hf => q⟩
    | true =>
      rw [if_pos rfl]
      exact fun hf => o1 I1 m1 H1 _ hf Ext.refl si1 rfl
theorem s_andT {a b : E} {xa xb : Expr} {rest : List Expr} {pos : Pos} (ha : PT X xa (denT cl G C W a)) (hb : PW X (.BoolOp .And (xb :: rest) pos) (denT cl G C W b)) : PW X (.BoolOp .And (xa :: xb :: rest) pos) (denT cl G C W (.and a b)) := by
  have h := pw_and ha hb
  refine ⟨fun wh pins s σ H Q J q => ?_⟩
  obtain ⟨I, m, ρ, s0, hf, si, rs, o⟩ := q
  simp only [ev] at o
  refine thn (h.run wh pins s σ H (fun b H' => HF H' → Q b H') J ?_) fun _ _ ⟨H', J', z⟩ => ⟨H', J', z (inv_hf J')⟩
  refine ⟨I, m, ρ, s0, hf, si, rs, OutR.first o fun u s1 I1 m1 H1 x hf1 e1 si1 r1 o1 => ?_⟩
  cases eb : asBl u with
  | none =>
    rw [eb] at o1
    exact o1.elim
  | some d =>
    rw [eb] at o1
    cases asBl_some eb
    refine ⟨d, rfl, ?_⟩
    cases d with
    | true =>
      rw [if_pos rfl]
      exact ⟨I1, m1, ρ, s1, hf1, si1, rs.mono e1, o1.imp fun u s' I' m' H' x _ _ _ _ ⟨b, e, q⟩ => ⟨b, e, fun _ => q⟩⟩
    | false =>
      rw [if_neg Bool.false_ne_true]
      refine fun hf => ?_
      obtain ⟨b', e, q⟩ := o1 I1 m1 H1 (.bl false) hf Ext.refl si1 rfl
      cases e
      exact q
theorem s_orT {a b : E} {xa xb : Expr} {rest : List Expr} {pos : Pos} (ha : PT X xa (denT cl G C W a)) (hb : PW X (.BoolOp .Or (xb :: rest) pos) (denT cl G C W b)) : PW X (.BoolOp .Or (xa :: xb :: rest) pos) (denT cl G C W (.or a b)) := by
  have h := pw_or ha hb
  refine ⟨fun wh pins s σ H Q J q => ?_⟩
  obtain ⟨I, m, ρ, s0, hf, si, rs, o⟩ := q
  simp only [ev] at o
  refine thn (h.run wh pins s σ H (fun b H' => HF H' → Q b H') J ?_) fun _ _ ⟨H', J', z⟩ => ⟨H', J', z (inv_hf J')⟩
  refine ⟨I, m, ρ, s0, hf, si, rs, OutR.first o fun u s1 I1 m1 H1 x hf1 e1 si1 r1 o1 => ?_⟩
  cases eb : asBl u with
  | none =>
    rw [eb] at o1
    exact o1.elim
  | some d =>
    rw [eb] at o1
    cases asBl_some eb
    refine ⟨d, rfl, ?_⟩
    cases d with
    | false =>
      rw [if_neg Bool.false_ne_true]
      exact ⟨I1, m1, ρ, s1, hf1, si1, rs.mono e1, o1.imp fun u s' I' m' H' x _ _ _ _ ⟨b, e, q⟩ => ⟨b, e, fun _ => q⟩⟩
    | true =>
      rw [if_pos rfl]
      refine fun hf => ?_
      obtain ⟨b', e, q⟩ := o1 I1 m1 H1 (.bl true) hf Ext.refl si1 rfl
      cases e
      exact q
theorem cmp_ok {I : Hp} {m : List Addr} {s : Store} {H : Hp} (si : Sim cl I m s H) {op : Cop} {u w : U} {x y : V} {b : Bool} {Q : VK} (rx : RelU I m u x) (ry : RelU I m w y) (e : cmpU op s u w = some b) (q : Q (.bl b) H) : rCmp op x y H Q := by
  have vw : ∀ op', (match view 64 s u, view 64 s w with
      | some t, some t' => cmpT op' t t'
      | _, _ => none) = some b → op' = op → rCmp op x y H Q := by
    intro op' e' h
    subst h
    cases e1 : view 64 s u with
    | none => rw [e1] at e'; cases e'
    | some t =>
      cases e2 : view 64 s w with
      | none => rw [e1, e2] at e'; cases e'
      | some t' =>
        rw [e1, e2] at e'
        exact .inl ⟨t, t', b, view_con si 64 u t x e1 rx, view_con si 64 w t' y e2 ry, e', q⟩
  have ot : (match asT s u, asT s w with
      | some t, some t' => cmpT op t t'
      | _, _ => none) = some b → rCmp op x y H Q := by
    intro e'
    cases e1 : asT s u with
    | none => rw [e1] at e'; cases e'
    | some t =>
      cases e2 : asT s w with
      | none => rw [e1, e2] at e'; cases e'
      | some t' =>
        rw [e1, e2] at e'
        exact .inl ⟨t, t', b, rdT_con si.sub (asT_rd si rx e1), rdT_con si.sub (asT_rd si ry e2), e', q⟩
  have dv : ∀ {t t' : T}, u = .v t → w = .v t' → cmpT op t t' = some b → rCmp op x y H Q := by
    intro t t' h1 h2 e'
    subst h1 h2
    exact .inl ⟨t, t', b, rel_con si.sub rx, rel_con si.sub ry, e', q⟩
  cases op with
  | eq => exact vw .eq e rfl
  | ne => exact vw .ne e rfl
  | is =>
    cases u with
    | v t =>
      cases w with
      | v t' => exact dv rfl rfl e
      | _ => simp [cmpU] at e
    | ref i =>
      cases w with
      | v t' =>
        cases t' <;> simp only [cmpU, reduceCtorEq, Option.some.injEq] at e
        subst e
        obtain ⟨a, _, rfl⟩ := rx
        cases (show y = _ from ry)
        exact .inr ⟨a, rfl, rfl, .inl ⟨rfl, q⟩⟩
      | _ => simp [cmpU] at e
    | tup us =>
      cases w with
      | v t' =>
        cases t' <;> simp only [cmpU, reduceCtorEq, Option.some.injEq] at e
        subst e
        obtain ⟨a, _, rfl, _⟩ := rx
        cases (show y = _ from ry)
        exact .inr ⟨a, rfl, rfl, .inl ⟨rfl, q⟩⟩
      | _ => simp [cmpU] at e
  | isn =>
    cases u with
    | v t =>
      cases w with
      | v t' => exact dv rfl rfl e
      | _ => simp [cmpU] at e
    | ref i =>
      cases w with
      | v t' =>
        cases t' <;> simp only [cmpU, reduceCtorEq, Option.some.injEq] at e
        subst e
        obtain ⟨a, _, rfl⟩ := rx
        cases (show y = _ from ry)
        exact .inr ⟨a, rfl, rfl, .inr ⟨rfl, q⟩⟩
      | _ => simp [cmpU] at e
    | tup us =>
      cases w with
      | v t' =>
        cases t' <;> simp only [cmpU, reduceCtorEq, Option.some.injEq] at e
        subst e
        obtain ⟨a, _, rfl, _⟩ := rx
        cases (show y = _ from ry)
        exact .inr ⟨a, rfl, rfl, .inr ⟨rfl, q⟩⟩
      | _ => simp [cmpU] at e
  | lt => exact ot e
  | le => exact ot e
  | gt => exact ot e
  | ge => exact ot e
  | mem => exact ot e
  | nmem => exact ot e
theorem s_cmp (g : Good cl G C k c X W) {op : Cop} {a b : E} {xa xb : Expr} {pos : Pos} (hm : behindInMarks (copK op) xb = false) (ha : PE X xa (den cl G C W a)) (hb : PE X xb (den cl G C W b)) :
    PE X (.Compare xa [copK op] [xb] pos) (den cl G C W (.cmp op a b)) ∧ PT X (.Compare xa [copK op] [xb] pos) (denT cl G C W (.cmp op a b)) := by
  refine ⟨pe_w (pe_cmpR (op_cmp g.hu op) ha hb hm) fun σ H Q ⟨I, m, ρ, s, hf, si, rs, o⟩ => ?_, pt_w (pt_cmpR (op_cmp g.hu op) ha hb hm) fun σ H Q ⟨I, m, ρ, s, hf, si, rs, o⟩ => ?_⟩
  · simp only [ev] at o
    refine ⟨I, m, ρ, s, hf, si, rs, OutR.first o fun u s1 I1 m1 H1 x hf1 e1 si1 r1 o1 => ?_⟩
    refine ⟨I1, m1, ρ, s1, hf1, si1, rs.mono e1, OutR.first o1 fun w s2 I2 m2 H2 y hf2 e2 si2 r2 o2 => ?_⟩
    cases ec : cmpU op s2 u w with
    | none =>
      rw [ec] at o2
      exact o2.elim
    | some b =>
      rw [ec] at o2
      exact cmp_ok si2 (RelU.mono e2.i e2.mm r1) r2 ec fun hf => o2 I2 m2 H2 _ hf Ext.refl si2 rfl
  · simp only [ev] at o
    refine ⟨I, m, ρ, s, hf, si, rs, OutR.first o fun u s1 I1 m1 H1 x hf1 e1 si1 r1 o1 => ?_⟩
    refine ⟨I1, m1, ρ, s1, hf1, si1, rs.mono e1, OutR.first o1 fun w s2 I2 m2 H2 y hf2 e2 si2 r2 o2 => ?_⟩
    cases ec : cmpU op s2 u w with
    | none =>
      rw [ec] at o2
      exact o2.elim
    | some b =>
      rw [ec] at o2
      refine cmp_ok si2 (RelU.mono e2.i e2.mm r1) r2 ec ⟨b, rfl, fun hf => ?_⟩
      obtain ⟨b', e, q⟩ := o2 I2 m2 H2 (.bl b) hf Ext.refl si2 rfl
      cases e
      exact q
theorem s_chn (g : Good cl G C k c X W) {o1 o2 : Cop} {a b d : E} {xa xb xd : Expr} {pos : Pos} (hm : lastMarks [copK o1, copK o2] [xb, xd] = false) (ha : PE X xa (den cl G C W a)) (hb : PE X xb (den cl G C W b)) (hd : PE X xd (den cl G C W d)) :
    PE X (.Compare xa [copK o1, copK o2] [xb, xd] pos) (den cl G C W (.chn o1 o2 a b d)) ∧ PT X (.Compare xa [copK o1, copK o2] [xb, xd] pos) (denT cl G C W (.chn o1 o2 a b d)) := by
  refine ⟨pe_w (pe_chain (op_cmp g.hu o1) (op_cmp g.hu o2) ha hb hd hm) fun σ H Q ⟨I, m, ρ, s, hf, si, rs, o⟩ => ?_, pt_w (pt_chain (op_cmp g.hu o1) (op_cmp g.hu o2) ha hb hd hm) fun σ H Q ⟨I, m, ρ, s, hf, si, rs, o⟩ => ?_⟩
  · simp only [ev] at o
    refine ⟨I, m, ρ, s, hf, si, rs, OutR.first o fun u s1 I1 m1 H1 x hf1 e1 si1 r1 o1 => ?_⟩
    refine ⟨I1, m1, ρ, s1, hf1, si1, rs.mono e1, OutR.first o1 fun w s2 I2 m2 H2 y hf2 e2 si2 r2 o2 => ?_⟩
    cases ec : cmpU _ s2 u w with
    | none =>
      rw [ec] at o2
      exact o2.elim
    | some b =>
      rw [ec] at o2
      refine cmp_ok si2 (RelU.mono e2.i e2.mm r1) r2 ec ⟨b, rfl, ?_⟩
      cases b with
      | true =>
        rw [if_pos rfl]
        refine ⟨I2, m2, ρ, s2, hf2, si2, (rs.mono e1).mono e2, OutR.first o2 fun z s3 I3 m3 H3 y3 hf3 e3 si3 r3 o3 => ?_⟩
        cases ec3 : cmpU _ s3 w z with
        | none =>
          rw [ec3] at o3
          exact o3.elim
        | some b3 =>
          rw [ec3] at o3
          exact cmp_ok si3 (RelU.mono e3.i e3.mm r2) r3 ec3 fun hf => o3 I3 m3 H3 _ hf Ext.refl si3 rfl
      | false =>
        rw [if_neg Bool.false_ne_true]
        exact fun hf => o2 I2 m2 H2 _ hf Ext.refl si2 rfl
  · simp only [ev] at o
    refine ⟨I, m, ρ, s, hf, si, rs, OutR.first o fun u s1 I1 m1 H1 x hf1 e1 si1 r1 o1 => ?_⟩
    refine ⟨I1, m1, ρ, s1, hf1, si1, rs.mono e1, OutR.first o1 fun w s2 I2 m2 H2 y hf2 e2 si2 r2 o2 => ?_⟩
    cases ec : cmpU _ s2 u w with
    | none =>
      rw [ec] at o2
      exact o2.elim
    | some b =>
      rw [ec] at o2
      refine cmp_ok si2 (RelU.mono e2.i e2.mm r1) r2 ec ⟨b, rfl, ?_⟩
      cases b with
      | true =>
        rw [if_pos rfl]
        refine ⟨I2, m2, ρ, s2, hf2, si2, (rs.mono e1).mono e2, OutR.first o2 fun z s3 I3 m3 H3 y3 hf3 e3 si3 r3 o3 => ?_⟩
        cases ec3 : cmpU _ s3 w z with
        | none =>
          rw [ec3] at o3
          exact o3.elim
        | some b3 =>
          rw [ec3] at o3
          refine cmp_ok si3 (RelU.mono e3.i e3.mm r2) r3 ec3 ⟨b3, rfl, fun hf => ?_⟩
          obtain ⟨b', e, q⟩ := o3 I3 m3 H3 (.bl b3) hf Ext.refl si3 rfl
          cases e
          exact q
      | false =>
        rw [if_neg Bool.false_ne_true]
        refine ⟨false, rfl, fun hf => ?_⟩
        obtain ⟨b', e, q⟩ := o2 I2 m2 H2 (.bl false) hf Ext.refl si2 rfl
        cases e
        exact q
/-- a value's truth as a test -/
theorem s_tru {e : E} {x : Expr} (h : PE X x (den cl G C W e)) (he : ∀ whole, isTrue x X.env whole = (do let v ← whole; standAt x.pos; holding [v] (truthy v))) : PT X x (denT cl G C W e) := by
  refine pt_w (pt_tru h he) fun σ H Q ⟨I, m, ρ, s, hf, si, rs, o⟩ => ?_
  exact ⟨I, m, ρ, s, hf, si, rs, o.imp fun u s' I' m' H' x _ _ si' r ⟨b, e, q⟩ => tru_of si' r e fun _ => q⟩
theorem pt_ifExp {q a b : Expr} {pos : Pos} {tq ta tb : TT} (hq : PT X q tq) (ha : PT X a ta) (hb : PT X b tb) : PT X (.IfExp q a b pos) (fun σ H Q => tq σ H fun d H1 => if d = true then ta σ H1 Q else tb σ H1 Q) := by
  refine ⟨fun pins s σ H Q J w => ?_⟩
  rw [PySem.isTrue]
  refine wpAny_bind (thn (hq.run pins s σ H _ J w) fun d s1 ⟨H1, J1, w1⟩ => ?_)
  cases d with
  | true => exact ha.run pins s1 σ H1 Q J1 w1
  | false => exact hb.run pins s1 σ H1 Q J1 w1
theorem s_ite {q a b : E} {xq xa xb : Expr} {pos : Pos} (hq : PT X xq (denT cl G C W q)) (ha : PE X xa (den cl G C W a)) (hb : PE X xb (den cl G C W b)) : PE X (.IfExp xq xa xb pos) (den cl G C W (.ite q a b)) := by
  refine pe_w (pe_ifExp hq ha hb) fun σ H Q ⟨I, m, ρ, s, hf, si, rs, o⟩ => ?_
  simp only [ev] at o
  refine ⟨I, m, ρ, s, hf, si, rs, OutR.first o fun u s1 I1 m1 H1 x hf1 e1 si1 r1 o1 => ?_⟩
  cases et : truth s1 u with
  | none =>
    rw [et] at o1
    exact o1.elim
  | some d =>
    rw [et] at o1
    refine ⟨d, et, ?_⟩
    cases d with
    | true =>
      rw [if_pos rfl]
      exact ⟨I1, m1, ρ, s1, hf1, si1, rs.mono e1, o1.imp fun u s' I' m' H' x _ _ _ _ q hf => q⟩
    | false =>
      rw [if_neg Bool.false_ne_true]
      exact ⟨I1, m1, ρ, s1, hf1, si1, rs.mono e1, o1.imp fun u s' I' m' H' x _ _ _ _ q hf => q⟩
theorem s_iteT {q a b : E} {xq xa xb : Expr} {pos : Pos} (hq : PT X xq (denT cl G C W q)) (ha : PT X xa (denT cl G C W a)) (hb : PT X xb (denT cl G C W b)) : PT X (.IfExp xq xa xb pos) (denT cl G C W (.ite q a b)) := by
  refine pt_w (pt_ifExp hq ha hb) fun σ H Q ⟨I, m, ρ, s, hf, si, rs, o⟩ => ?_
  simp only [ev] at o
  refine ⟨I, m, ρ, s, hf, si, rs, OutR.first o fun u s1 I1 m1 H1 x hf1 e1 si1 r1 o1 => ?_⟩
  cases et : truth s1 u with
  | none =>
    rw [et] at o1
    exact o1.elim
  | some d =>
    rw [et] at o1
    refine ⟨d, et, ?_⟩
    cases d with
    | true =>
      rw [if_pos rfl]
      exact ⟨I1, m1, ρ, s1, hf1, si1, rs.mono e1, o1.imp fun u s' I' m' H' x _ _ _ _ ⟨b, e, q⟩ => ⟨b, e, fun _ => q⟩⟩
    | false =>
      rw [if_neg Bool.false_ne_true]
      exact ⟨I1, m1, ρ, s1, hf1, si1, rs.mono e1, o1.imp fun u s' I' m' H' x _ _ _ _ ⟨b, e, q⟩ => ⟨b, e, fun _ => q⟩⟩
/-! ### arguments -/
theorem s_nil : PA X [] (denA cl G C W .nil) := by
  refine pa_w pa_nil fun σ H Q ⟨I, m, ρ, s, hf, si, rs, o⟩ => ?_
  simp only [evs] at o
  exact fun hf => o I m H [] hf Ext.refl si rfl
theorem s_cons {a : E} {as : Es} {x : Expr} {xs : List Expr} (hs : isStar x = false) (ha : PE X x (den cl G C W a)) (hr : PA X xs (denA cl G C W as)) : PA X (x :: xs) (denA cl G C W (.cons a as)) := by
  refine pa_w (pa_cons ha hr (star_one hs _ _)) fun σ H Q ⟨I, m, ρ, s, hf, si, rs, o⟩ => ?_
  simp only [evs] at o
  refine ⟨I, m, ρ, s, hf, si, rs, OutR.first o fun u s1 I1 m1 H1 x hf1 e1 si1 r1 o1 => ?_⟩
  refine ⟨I1, m1, ρ, s1, hf1, si1, rs.mono e1, OutR.first (rel := RelUs) o1 fun us s2 I2 m2 H2 ys hf2 e2 si2 r2 o2 => ?_⟩
  exact fun hf => o2 I2 m2 H2 (x :: ys) hf Ext.refl si2 ⟨x, ys, rfl, RelU.mono e2.i e2.mm r1, r2⟩
end
end Cab

set_option Elab.async false
set_option linter.all false
set_option maxRecDepth 100000
set_option maxHeartbeats 4000000
namespace Cab
open PySem PySem.Spec PyProof.Rows L2
/-- a new thing of data, not by its kind -/
theorem HF.upd {H : Hp} {p : Addr} {ho : HO} (h : HF H) (hl : ∀ xs, ho = .lst xs → xs.length ≤ sizeLine) (ht : ∀ xs, ho = .tup xs → xs.length ≤ sizeLine) (hk : ∀ kvs, ho = .dK kvs → kvs.length ≤ sizeLine ∧ (kvs.map (·.1)).Nodup) (nf : ∀ o u, ho ≠ .frz o u) : HF (upd H p ho) := by
  have at_ : ∀ {a u}, Rd (L2.upd H p ho) a u → (a = p ∧ ho = u) ∨ Rd H a u := by
    intro a u r
    by_cases e : a = p
    · subst e
      rcases r with r | ⟨o, r⟩
      · rw [upd_same] at r
        exact .inl ⟨rfl, Option.some.inj r⟩
      · rw [upd_same] at r
        exact absurd (Option.some.inj r) (nf _ _)
    · refine .inr ?_
      rcases r with r | ⟨o, r⟩
      · rw [upd_ne e] at r
        exact .inl r
      · rw [upd_ne e] at r
        exact .inr ⟨o, r⟩
  refine ⟨fun a xs r => ?_, fun a xs r => ?_, fun a xs r => ?_⟩
  · rcases at_ r with ⟨_, e⟩ | r
    · exact hl _ e
    · exact h.l _ _ r
  · rcases at_ r with ⟨_, e⟩ | r
    · exact ht _ e
    · exact h.t _ _ r
  · rcases at_ r with ⟨_, e⟩ | r
    · exact hk _ e
    · exact h.k _ _ r
theorem HF.lst {H : Hp} {p : Addr} {xs : List V} (h : HF H) (hl : xs.length ≤ sizeLine) : HF (L2.upd H p (.lst xs)) := h.upd (fun _ e => by cases e; exact hl) (fun _ e => nomatch e) (fun _ e => nomatch e) fun _ _ e => nomatch e
theorem HF.tup {H : Hp} {p : Addr} {xs : List V} (h : HF H) (hl : xs.length ≤ sizeLine) : HF (L2.upd H p (.tup xs)) := h.upd (fun _ e => nomatch e) (fun _ e => by cases e; exact hl) (fun _ e => nomatch e) fun _ _ e => nomatch e
section
variable {cl : Nat → Addr} {G : Glo} {C : Call} {k : Nat} {c : MC} {X : Cx} {W : WX}
/-! ### len, isinstance -/
theorem s_len (g : Good cl G C k c X W) {a : E} {xa : Expr} {p pos : Pos} (hg : glB c.sc "len" = true) (hb : (("len" : Str) ∈ c.blt)) (hs : isStar xa = false) (ha : PE X xa (den cl G C W a)) :
    PE X (.Call (.Name "len" p) [xa] [] pos) (den cl G C W (.len a)) := by
  refine pe_w (pe_callB call_len_any (g.gl _ hg) (g.blt _ hb) boot_len (pa_cons ha pa_nil (star_one hs _ _)) (by decide) (by decide) (star_one hs _ _) rfl) fun σ H Q ⟨I, m, ρ, s, hf, si, rs, o⟩ => ?_
  simp only [ev] at o
  refine ⟨I, m, ρ, s, hf, si, rs, OutR.first o fun u s1 I1 m1 H1 x hf1 e1 si1 r1 o1 => ?_⟩
  cases el : lenU s1 u with
  | none =>
    rw [el] at o1
    exact o1.elim
  | some n =>
    rw [el] at o1
    exact len_ok (Q := fun v H' => HF H' → Q v H') si1 r1 el fun hf => o1 I1 m1 H1 _ hf Ext.refl si1 rfl
def kdS : Kd → Str
  | .bool => "bool"
  | .int => "int"
  | .str => "str"
  | .list => "list"
  | .dict => "dict"
  | .tuple => "tuple"
theorem boot_kd (q : Kd) : bootBuiltins (kdS q) = some (.type (kdN q)) := by cases q <;> decide +kernel
theorem kdS_n (q : Kd) : kdS q ≠ "__name__" := by cases q <;> decide
theorem kdS_d (q : Kd) : (kdS q == ("__debug__" : Str)) = false := by cases q <;> decide
def mKd (c : MC) (q : Kd) : Expr → Bool
  | .Name id _ => id == kdS q && glB c.sc id && decide (id ∈ c.blt)
  | _ => false
theorem s_kd (g : Good cl G C k c X W) {q : Kd} {x : Expr} (h : mKd c q x = true) : PE X x (tC (.ty (kdN q))) ∧ isStar x = false := by
  unfold mKd at h
  split at h
  · simp only [Bool.and_eq_true, beq_iff_eq, decide_eq_true_eq] at h
    obtain ⟨⟨rfl, h1⟩, h2⟩ := h
    exact ⟨pe_bltn (g.gl _ h1) (g.blt _ h2) (boot_kd q) rfl (kdS_n q) (kdS_d q), rfl⟩
  · cases h
def mKds (c : MC) : List Kd → List Expr → Bool
  | [], [] => true
  | q :: qs, x :: xs => mKd c q x && mKds c qs xs
  | _, _ => false
theorem s_kds (g : Good cl G C k c X W) : ∀ {qs : List Kd} {xs : List Expr}, mKds c qs xs = true → PA X xs (fun _ H Q => Q (qs.map fun q => .ty (kdN q)) H)
  | [], [], _ => pa_nil
  | q :: qs, x :: xs, h => by
    simp only [mKds, Bool.and_eq_true] at h
    obtain ⟨h1, h2⟩ := s_kd g h.1
    exact pa_cons h1 (s_kds g h.2) (star_one h2 _ _)
  | [], _ :: _, h => by simp [mKds] at h
  | _ :: _, [], h => by simp [mKds] at h
theorem kd_ok {I : Hp} {m : List Addr} {s : Store} {H : Hp} {K : PySem.W.Frag} (si : Sim cl I m s H) {u : U} {x : V} {f : Kd → Bool} (rx : RelU I m u x) (e : kdU s u = some f) : ∃ t0 : T, TyX K H x (.type (tyN t0)) ∧ f = isKd t0 := by
  cases u with
  | v t =>
    cases e
    exact ⟨t, tyX_of (rel_con si.sub rx), rfl⟩
  | tup us =>
    cases e
    obtain ⟨a, vs, rfl, h1, h2⟩ := rx
    refine ⟨.tup [], ?_, by funext q; cases q <;> rfl⟩
    rcases si.sub _ _ h1 with h | ⟨o, h⟩
    · exact .base (.tup h)
    · exact .fTuple h
  | ref i =>
    simp only [kdU] at e
    cases es : s[i]? with
    | none =>
      rw [es] at e
      cases e
    | some o =>
      rw [es] at e
      obtain ⟨a, ho, rfl, e2, e3, e4⟩ := si.at rx es
      cases o with
      | lst us =>
        obtain ⟨vs, rfl, h2⟩ := e4
        cases e
        exact ⟨.lst [], .base (.lst e3), by funext q; cases q <;> rfl⟩
      | dct kvs =>
        obtain ⟨vs, rfl, h2⟩ := e4
        cases e
        exact ⟨.dct [], .base (.dK e3), by funext q; cases q <;> rfl⟩
      | ins q fs => cases e
theorem s_isi1 (g : Good cl G C k c X W) {a : E} {q : Kd} {xa xq : Expr} {p pos : Pos} (hg : glB c.sc "isinstance" = true) (hb : (("isinstance" : Str) ∈ c.blt)) (hs : isStar xa = false) (ha : PE X xa (den cl G C W a)) (hq : mKd c q xq = true) :
    PE X (.Call (.Name "isinstance" p) [xa, xq] [] pos) (den cl G C W (.isi a [q])) := by
  obtain ⟨h1, h2⟩ := s_kd g hq
  refine pe_w (pe_callB call_isi (g.gl _ hg) (g.blt _ hb) (by decide +kernel) (pa_cons ha (pa_cons h1 pa_nil (star_one h2 _ _)) (star_one hs _ _)) (by decide) (by decide) (star_one hs _ _) (by rw [star_one h2]; rfl)) fun σ H Q ⟨I, m, ρ, s, hf, si, rs, o⟩ => ?_
  simp only [ev] at o
  refine ⟨I, m, ρ, s, hf, si, rs, OutR.first o fun u s1 I1 m1 H1 x hf1 e1 si1 r1 o1 => ?_⟩
  cases ek : kdU s1 u with
  | none =>
    rw [ek] at o1
    exact o1.elim
  | some f =>
    rw [ek] at o1
    obtain ⟨t0, ty, rfl⟩ := kd_ok (K := X.K) si1 r1 ek
    refine ⟨x, _, _, _, isKd t0 q, rfl, .ty _, ty, kit_of_kd t0 q, fun hf => ?_⟩
    have := o1 I1 m1 H1 (.bl ([q].any (isKd t0))) hf Ext.refl si1 rfl
    simpa using this
theorem clsV_all : ∀ qs : List Kd, Paired ClsV (qs.map fun q => V.ty (kdN q)) (qs.map fun q => Value.type (kdN q))
  | [] => .nil
  | _ :: qs => .cons (.ty _) (clsV_all qs)
theorem s_isiT (g : Good cl G C k c X W) {a : E} {qs : List Kd} {xa : Expr} {xqs : List Expr} {j : Nat} {p p2 pos : Pos} (hg : glB c.sc "isinstance" = true) (hb : (("isinstance" : Str) ∈ c.blt)) (hs : isStar xa = false) (ha : PE X xa (den cl G C W a)) (hq : mKds c qs xqs = true) (hl : qs.length ≤ 20) :
    PE X (.Call (.Name "isinstance" p) [xa, .Tuple xqs j p2] [] pos) (den cl G C W (.isi a qs)) := by
  refine pe_w (pe_callB call_isiT (g.gl _ hg) (g.blt _ hb) (by decide +kernel) (pa_cons ha (pa_cons (pe_tup (s_kds g hq)) pa_nil (star_one rfl _ _)) (star_one hs _ _)) (by decide) (by decide) (star_one hs _ _) (by rw [star_one rfl]; rfl)) fun σ H Q ⟨I, m, ρ, s, hf, si, rs, o⟩ => ?_
  simp only [ev] at o
  refine ⟨I, m, ρ, s, hf, si, rs, OutR.first o fun u s1 I1 m1 H1 x hf1 e1 si1 r1 o1 => ?_⟩
  cases ek : kdU s1 u with
  | none =>
    rw [ek] at o1
    exact o1.elim
  | some f =>
    rw [ek] at o1
    refine ⟨by rw [List.length_map, line_LIM]; exact Nat.le_trans hl (by decide), fun tp htp => ?_⟩
    obtain ⟨si2, e2⟩ := sim_by (ho := .tup (qs.map fun q => V.ty (kdN q))) si1 htp
    obtain ⟨t0, ty, rfl⟩ := kd_ok (K := X.K) si2 r1 ek
    exact ⟨x, tp, _, _, _, qs.any (isKd t0), rfl, upd_same, clsV_all qs, ty, kit_any_kd t0 qs, fun hf => o1 _ _ _ _ hf e2 si2 rfl⟩
/-! ### places, slices -/
def noSlice : Expr → Bool
  | .Slice _ _ _ _ => false
  | _ => true
theorem plainIx {b : Expr} (h : noSlice b = true) : PlainIx b := by
  intro o i
  cases b <;> first | (simp [noSlice] at h; done) | simp only [subscripted]
theorem s_idx (g : Good cl G C k c X W) {a b : E} {xa xb : Expr} {pos : Pos} (hs : noSlice xb = true) (ha : PE X xa (den cl G C W a)) (hb : PE X xb (den cl G C W b)) : PE X (.Subscript xa xb pos) (den cl G C W (.idx a b)) := by
  refine pe_w (pe_ix (ix_any g.hu1) ha hb (plainIx hs)) fun σ H Q ⟨I, m, ρ, s, hf, si, rs, o⟩ => ?_
  simp only [ev] at o
  refine ⟨I, m, ρ, s, hf, si, rs, OutR.first o fun u s1 I1 m1 H1 x hf1 e1 si1 r1 o1 => ?_⟩
  refine ⟨I1, m1, ρ, s1, hf1, si1, rs.mono e1, OutR.first o1 fun w s2 I2 m2 H2 y hf2 e2 si2 r2 o2 => ?_⟩
  cases ei : idxU s2 u w with
  | none =>
    rw [ei] at o2
    exact o2.elim
  | some z =>
    rw [ei] at o2
    exact idx_ok si2 (RelU.mono e2.i e2.mm r1) r2 ei fun v rv hf => o2 I2 m2 H2 v hf Ext.refl si2 rv
theorem cut_fin {I : Hp} {m : List Addr} {s : Store} {H : Hp} {σ : St} {u : U} {x : V} {lo hi : Option Int} {Q : VK} (si : Sim cl I m s H) (r : RelU I m u x) (o : OutR cl RelU W σ I m H (lift1 (cutT lo hi) s u) fun _ _ _ _ H x => Q x H) :
    rCut X.K x lo hi H fun v H' => HF H' → Q v H' := by
  unfold lift1 at o
  cases ea : asT s u with
  | none =>
    rw [ea] at o
    exact o.elim
  | some t =>
    rw [ea] at o
    simp only at o
    cases ew : cutT lo hi t with
    | none =>
      rw [ew] at o
      exact o.elim
    | some w =>
      rw [ew] at o
      exact cut_ok (asT_rd si r ea) ew (fin_of si o)
theorem s_cutL {a lo : E} {xa xl : Expr} {p2 pos : Pos} (ha : PE X xa (den cl G C W a)) (hl : PE X xl (den cl G C W lo)) : PE X (.Subscript xa (.Slice (some xl) none none p2) pos) (den cl G C W (.cutL a lo)) := by
  refine pe_w (pe_slice sl_any ha (po_some hl) po_none) fun σ H Q ⟨I, m, ρ, s, hf, si, rs, o⟩ => ?_
  simp only [ev] at o
  refine ⟨I, m, ρ, s, hf, si, rs, OutR.first o fun u s1 I1 m1 H1 x hf1 e1 si1 r1 o1 => ?_⟩
  refine ⟨I1, m1, ρ, s1, hf1, si1, rs.mono e1, OutR.first o1 fun w s2 I2 m2 H2 y hf2 e2 si2 r2 o2 => ?_⟩
  cases w with
  | v t =>
    cases t with
    | int i => exact ⟨i, r2, cut_fin si2 (RelU.mono e2.i e2.mm r1) o2⟩
    | _ => exact o2.elim
  | _ => exact o2.elim
theorem s_cutR {a hi : E} {xa xh : Expr} {p2 pos : Pos} (ha : PE X xa (den cl G C W a)) (hh : PE X xh (den cl G C W hi)) : PE X (.Subscript xa (.Slice none (some xh) none p2) pos) (den cl G C W (.cutR a hi)) := by
  refine pe_w (pe_slice sl_any ha po_none (po_some hh)) fun σ H Q ⟨I, m, ρ, s, hf, si, rs, o⟩ => ?_
  simp only [ev] at o
  refine ⟨I, m, ρ, s, hf, si, rs, OutR.first o fun u s1 I1 m1 H1 x hf1 e1 si1 r1 o1 => ?_⟩
  refine ⟨I1, m1, ρ, s1, hf1, si1, rs.mono e1, OutR.first o1 fun w s2 I2 m2 H2 y hf2 e2 si2 r2 o2 => ?_⟩
  cases w with
  | v t =>
    cases t with
    | int i => exact ⟨i, r2, cut_fin si2 (RelU.mono e2.i e2.mm r1) o2⟩
    | _ => exact o2.elim
  | _ => exact o2.elim
theorem s_cutN {a : E} {xa : Expr} {p2 pos : Pos} (ha : PE X xa (den cl G C W a)) : PE X (.Subscript xa (.Slice none none none p2) pos) (den cl G C W (.cutN a)) := by
  refine pe_w (pe_slice sl_any ha po_none po_none) fun σ H Q ⟨I, m, ρ, s, hf, si, rs, o⟩ => ?_
  simp only [ev] at o
  exact ⟨I, m, ρ, s, hf, si, rs, OutR.first o fun u s1 I1 m1 H1 x hf1 e1 si1 r1 o1 => cut_fin si1 r1 o1⟩
theorem s_cutB {a lo hi : E} {xa xl xh : Expr} {p2 pos : Pos} (ha : PE X xa (den cl G C W a)) (hl : PE X xl (den cl G C W lo)) (hh : PE X xh (den cl G C W hi)) : PE X (.Subscript xa (.Slice (some xl) (some xh) none p2) pos) (den cl G C W (.cutB a lo hi)) := by
  refine pe_w (pe_slice sl_any ha (po_some hl) (po_some hh)) fun σ H Q ⟨I, m, ρ, s, hf, si, rs, o⟩ => ?_
  simp only [ev] at o
  refine ⟨I, m, ρ, s, hf, si, rs, OutR.first o fun u s1 I1 m1 H1 x hf1 e1 si1 r1 o1 => ?_⟩
  refine ⟨I1, m1, ρ, s1, hf1, si1, rs.mono e1, OutR.first o1 fun w s2 I2 m2 H2 y hf2 e2 si2 r2 o2 => ?_⟩
  cases w with
  | v t =>
    cases t with
    | int i =>
      refine ⟨i, r2, I2, m2, ρ, s2, hf2, si2, (rs.mono e1).mono e2, OutR.first o2 fun z s3 I3 m3 H3 y3 hf3 e3 si3 r3 o3 => ?_⟩
      cases z with
      | v t =>
        cases t with
        | int j => exact ⟨j, r3, cut_fin si3 (RelU.mono e3.i e3.mm (RelU.mono e2.i e2.mm r1)) o3⟩
        | _ => exact o3.elim
      | _ => exact o3.elim
    | _ => exact o2.elim
  | _ => exact o2.elim
end
end Cab

set_option Elab.async false
set_option linter.all false
set_option maxRecDepth 100000
set_option maxHeartbeats 4000000
namespace Cab
open PySem PySem.Spec PyProof.Rows L2
theorem rdL_of {cl : Nat → Addr} {I : Hp} {m : List Addr} {s : Store} {H : Hp} (si : Sim cl I m s H) : ∀ {us : List U} {ts : List T} {vs : List V}, optAll (asT s) us = some ts → RelUs I m us vs → RdL I H ts vs
  | [], _, _, e, r => by
    cases e
    exact r
  | u :: us, ts, vs, e, r => by
    obtain ⟨v, rs, rfl, r1, r2⟩ := r
    unfold optAll at e
    cases e1 : asT s u with
    | none =>
      rw [e1] at e
      cases e
    | some t =>
      rw [e1] at e
      cases e2 : optAll (asT s) us with
      | none =>
        rw [e2] at e
        cases e
      | some ts' =>
        rw [e2] at e
        cases e
        exact ⟨v, rs, rfl, asT_rd si r1 e1, rdL_of si e2 r2⟩
section
variable {cl : Nat → Addr} {G : Glo} {C : Call} {k : Nat} {c : MC} {X : Cx} {W : WX}
theorem s_prmW {p : Prm} {es : Es} {x : Expr} (h : PE X x (tCB (rPrm p) (denA cl G C W es))) : PE X x (den cl G C W (.prm p es)) := by
  refine pe_w h fun σ H Q ⟨I, m, ρ, s, hf, si, rs, o⟩ => ?_
  simp only [ev] at o
  refine ⟨I, m, ρ, s, hf, si, rs, OutR.first (rel := RelUs) o fun us s1 I1 m1 H1 vs hf1 e1 si1 r1 o1 => ?_⟩
  cases ea : optAll (asT s1) us with
  | none =>
    rw [ea] at o1
    exact o1.elim
  | some ts =>
    rw [ea] at o1
    simp only at o1
    cases ew : primT p ts with
    | none =>
      rw [ew] at o1
      exact o1.elim
    | some w =>
      rw [ew] at o1
      exact ⟨I1, ts, w, si1.sub, rdL_of si1 ea r1, ew, fin_of si1 o1⟩
/-- the built-ins that are called by their name -/
def prmN : Prm → Option Str
  | .abs => some "abs"
  | .min => some "min"
  | .max => some "max"
  | .sum => some "sum"
  | .all => some "all"
  | .any => some "any"
  | .ord => some "ord"
  | .int => some "int"
  | .list => some "list"
  | .tuple => some "tuple"
  | .str => some "str"
  | .sorted => some "sorted"
  | .dict => some "dict"
  | _ => none
def noStars (xs : List Expr) : Bool := xs.all fun e => !isStar e
theorem s_prm (g : Good cl G C k c X W) {p : Prm} {es : Es} {x : Str} {y : Expr} {ys : List Expr} {p1 pos : Pos} (hp : prmN p = some x) (hg : glB c.sc x = true) (hb : x ∈ c.blt) (hs : noStars (y :: ys) = true) (ha : PA X (y :: ys) (denA cl G C W es)) :
    PE X (.Call (.Name x p1) (y :: ys) [] pos) (den cl G C W (.prm p es)) := by
  have h1 := g.gl x hg
  have h2 := g.blt x hb
  unfold noStars at hs
  have hs' := hs
  simp only [List.all_cons, Bool.and_eq_true, Bool.not_eq_true'] at hs'
  have h3 := star_one hs'.1 ys X.env
  have h4 : (backTo pos (starEach ys X.env)).any (·.1) = false := star_no hs'.2
  cases p <;> simp only [prmN, reduceCtorEq, Option.some.injEq] at hp <;> subst hp <;> refine s_prmW ?_
  · exact pe_callB pr_abs h1 h2 (by decide +kernel) ha (by decide) (by decide) h3 h4
  · exact pe_callB (pr_min g.calm) h1 h2 (by decide +kernel) ha (by decide) (by decide) h3 h4
  · exact pe_callB (pr_max g.calm) h1 h2 (by decide +kernel) ha (by decide) (by decide) h3 h4
  · exact pe_callTy pr_int h1 h2 (by decide +kernel) ha (by decide) (by decide) h3 h4
  · exact pe_callTy pr_str h1 h2 (by decide +kernel) ha (by decide) (by decide) h3 h4
  · exact pe_callB pr_ord h1 h2 (by decide +kernel) ha (by decide) (by decide) h3 h4
  · exact pe_callB (pr_sum g.calm) h1 h2 (by decide +kernel) ha (by decide) (by decide) h3 h4
  · exact pe_callB (pr_all g.calm) h1 h2 (by decide +kernel) ha (by decide) (by decide) h3 h4
  · exact pe_callB (pr_any g.calm) h1 h2 (by decide +kernel) ha (by decide) (by decide) h3 h4
  · exact pe_callTy (pr_list g.calm) h1 h2 (by decide +kernel) ha (by decide) (by decide) h3 h4
  · exact pe_callTy pr_tuple h1 h2 (by decide +kernel) ha (by decide) (by decide) h3 h4
  · exact pe_callB (pr_sorted g.calm) h1 h2 (by decide +kernel) ha (by decide) (by decide) h3 h4
  · exact pe_callTy (pr_dict g.calm) h1 h2 (by decide +kernel) ha (by decide) (by decide) h3 h4
/-! ### displays -/
theorem s_tup {es : Es} {xs : List Expr} {j : Nat} {pos : Pos} (ha : PA X xs (denA cl G C W es)) : PE X (.Tuple xs j pos) (den cl G C W (.tupd es)) := by
  refine pe_w (pe_tup ha) fun σ H Q ⟨I, m, ρ, s, hf, si, rs, o⟩ => ?_
  simp only [ev] at o
  refine ⟨I, m, ρ, s, hf, si, rs, OutR.first (rel := RelUs) o fun us s1 I1 m1 H1 vs hf1 e1 si1 r1 o1 => ?_⟩
  split at o1
  · rename_i hz
    refine ⟨by rw [← relUs_len r1, line_LIM]; exact hz, fun p hp hf2 => ?_⟩
    obtain ⟨si2, e2⟩ := sim_new (ho := .tup vs) si1 hp fun _ _ e => nomatch e
    cases ea : optAll unV us with
    | none =>
      rw [ea] at o1
      exact o1 _ _ _ _ hf2 e2 si2 ⟨p, vs, rfl, upd_same, RelUs.mono e2.i e2.mm r1⟩
    | some ts =>
      rw [ea] at o1
      exact o1 _ _ _ _ hf2 e2 si2 ⟨p, vs, rfl, upd_same, RelL.mono e2.i (relL_of ea r1)⟩
  · exact o1.elim
theorem s_lst {es : Es} {xs : List Expr} {pos : Pos} (ha : PA X xs (denA cl G C W es)) : PE X (.List xs pos) (den cl G C W (.lstd es)) := by
  refine pe_w (pe_lst ha) fun σ H Q ⟨I, m, ρ, s, hf, si, rs, o⟩ => ?_
  simp only [ev] at o
  refine ⟨I, m, ρ, s, hf, si, rs, OutR.first (rel := RelUs) o fun us s1 I1 m1 H1 vs hf1 e1 si1 r1 o1 => ?_⟩
  split at o1
  · rename_i hz
    refine ⟨by rw [← relUs_len r1, line_LIM]; exact hz, fun p hp hf2 => ?_⟩
    obtain ⟨si2, e2⟩ := sim_new (ho := .lst vs) si1 hp fun _ _ e => nomatch e
    cases ea : optAll unV us with
    | none =>
      rw [ea] at o1
      exact o1.elim
    | some ts =>
      rw [ea] at o1
      exact o1 _ _ _ _ hf2 e2 si2 ⟨p, vs, rfl, upd_same, RelL.mono e2.i (relL_of ea r1)⟩
  · exact o1.elim
theorem app_mm {m : List Addr} {t : List Addr} : ∃ t', m ++ t = m ++ t' := ⟨t, rfl⟩
theorem s_lstO {es : Es} {xs : List Expr} {pos : Pos} (ha : PA X xs (denA cl G C W es)) : PE X (.List xs pos) (den cl G C W (.lstO es)) := by
  refine pe_w (pe_lst ha) fun σ H Q ⟨I, m, ρ, s, hf, si, rs, o⟩ => ?_
  simp only [ev] at o
  refine ⟨I, m, ρ, s, hf, si, rs, OutR.first (rel := RelUs) o fun us s1 I1 m1 H1 vs hf1 e1 si1 r1 o1 => ?_⟩
  split at o1
  · rename_i hz
    refine ⟨by rw [← relUs_len r1, line_LIM]; exact hz, fun p hp hf2 => ?_⟩
    obtain ⟨si2, e2⟩ := sim_push (ho := .lst vs) (o := .lst us) si1 hp ⟨vs, rfl, RelUs.mono (fun _ _ h => h) app_mm r1⟩
    exact o1 _ _ _ _ hf2 e2 si2 ⟨p, by rw [← si1.len]; simp, rfl⟩
  · exact o1.elim
/-! ### a copy as a thing of the store -/
theorem seq_ok {I : Hp} {m : List Addr} {s : Store} {H : Hp} (si : Sim cl I m s H) {u : U} {x : V} {us : List U} (r : RelU I m u x) (e : seqU s u = some us) : ∃ a vs, x = .ref a ∧ (Rd H a (.lst vs) ∨ Rd H a (.tup vs)) ∧ RelUs I m us vs := by
  cases u with
  | v t =>
    cases t <;> simp only [seqU, reduceCtorEq, Option.some.injEq] at e
    · subst e
      obtain ⟨a, vs, rfl, h1, h2⟩ := r
      exact ⟨a, vs, rfl, .inl (si.sub _ _ h1), relUs_v h2⟩
    · subst e
      obtain ⟨a, vs, rfl, h1, h2⟩ := r
      exact ⟨a, vs, rfl, .inr (si.sub _ _ h1), relUs_v h2⟩
  | tup ws =>
    cases e
    obtain ⟨a, vs, rfl, h1, h2⟩ := r
    exact ⟨a, vs, rfl, .inr (si.sub _ _ h1), h2⟩
  | ref i =>
    simp only [seqU] at e
    cases es : s[i]? with
    | none =>
      rw [es] at e
      cases e
    | some o =>
      rw [es] at e
      obtain ⟨a, ho, rfl, e2, e3, e4⟩ := si.at r es
      cases o with
      | lst us =>
        obtain ⟨vs, rfl, h2⟩ := e4
        cases e
        exact ⟨a, vs, rfl, .inl (.inl e3), h2⟩
      | dct kvs => cases e
      | ins q fs => cases e
theorem dct_ok {I : Hp} {m : List Addr} {s : Store} {H : Hp} (si : Sim cl I m s H) {u : U} {x : V} {kvs : List (Ky × U)} (r : RelU I m u x) (e : dctU s u = some kvs) : ∃ a ws, x = .ref a ∧ Rd H a (.dK ws) ∧ RelUK I m kvs ws := by
  cases u with
  | v t =>
    cases t <;> simp only [dctU, reduceCtorEq, Option.some.injEq] at e
    subst e
    obtain ⟨a, vs, rfl, h1, h2⟩ := r
    exact ⟨a, vs, rfl, si.sub _ _ h1, relUK_v h2⟩
  | tup ws => cases e
  | ref i =>
    simp only [dctU] at e
    cases es : s[i]? with
    | none =>
      rw [es] at e
      cases e
    | some o =>
      rw [es] at e
      obtain ⟨a, ho, rfl, e2, e3, e4⟩ := si.at r es
      cases o with
      | dct us =>
        obtain ⟨vs, rfl, h2⟩ := e4
        cases e
        exact ⟨a, vs, rfl, .inl e3, h2⟩
      | lst kvs => cases e
      | ins q fs => cases e
theorem keysU_ok {I : Hp} {m : List Addr} {s : Store} {H : Hp} (si : Sim cl I m s H) {u : U} {x : V} {us : List U} (r : RelU I m u x) (e : keysU s u = some us) : ∃ a ws, x = .ref a ∧ Rd H a (.dK ws) ∧ RelUs I m us (ws.map fun kv => kV kv.1) := by
  have key : ∀ {kvs : List (Ky × U)} {ws : List (Key × V)}, RelUK I m kvs ws → RelUs I m (kvs.map fun p => U.v (kyT p.1)) (ws.map fun kv => kV kv.1) := by
    intro kvs
    induction kvs with
    | nil =>
      intro ws h
      cases h
      rfl
    | cons p r ih =>
      intro ws h
      obtain ⟨v, rs, rfl, h1, h2⟩ := h
      refine ⟨_, _, rfl, ?_, ih h2⟩
      obtain ⟨q, w⟩ := p
      cases q with
      | i n => rfl
      | s x => exact ⟨rfl, h1.1⟩
  cases u with
  | v t =>
    cases t <;> simp only [keysU, reduceCtorEq, Option.some.injEq] at e
    subst e
    obtain ⟨a, vs, rfl, h1, h2⟩ := r
    refine ⟨a, vs, rfl, si.sub _ _ h1, ?_⟩
    have := key (relUK_v (m := m) h2)
    rwa [List.map_map] at this
  | tup ws => cases e
  | ref i =>
    simp only [keysU] at e
    cases es : s[i]? with
    | none =>
      rw [es] at e
      cases e
    | some o =>
      rw [es] at e
      obtain ⟨a, ho, rfl, e2, e3, e4⟩ := si.at r es
      cases o with
      | dct us =>
        obtain ⟨vs, rfl, h2⟩ := e4
        cases e
        exact ⟨a, vs, rfl, .inl e3, key h2⟩
      | lst kvs => cases e
      | ins q fs => cases e
theorem s_newL (g : Good cl G C k c X W) {a : E} {xa : Expr} {p pos : Pos} (hg : glB c.sc "list" = true) (hb : (("list" : Str) ∈ c.blt)) (hs : isStar xa = false) (ha : PE X xa (den cl G C W a)) :
    PE X (.Call (.Name "list" p) [xa] [] pos) (den cl G C W (.newL a)) := by
  refine pe_w (pe_callTy (call_list_of.or (call_listD g.calm)) (g.gl _ hg) (g.blt _ hb) (by decide +kernel) (pa_cons ha pa_nil (star_one hs _ _)) (by decide) (by decide) (star_one hs _ _) rfl) fun σ H Q ⟨I, m, ρ, s, hf, si, rs, o⟩ => ?_
  simp only [ev] at o
  refine ⟨I, m, ρ, s, hf, si, rs, OutR.first o fun u s1 I1 m1 H1 x hf1 e1 si1 r1 o1 => ?_⟩
  cases es : seqU s1 u with
  | none =>
    rw [es] at o1
    simp only at o1
    cases ek : keysU s1 u with
    | none =>
      rw [ek] at o1
      exact o1.elim
    | some us =>
      rw [ek] at o1
      obtain ⟨b, ws, rfl, h1, h2⟩ := keysU_ok si1 r1 ek
      refine .inr ⟨b, ws, rfl, h1, fun p hp hf2 => ?_⟩
      obtain ⟨si2, e2⟩ := sim_push (ho := .lst (ws.map fun kv => kV kv.1)) (o := .lst us) si1 hp ⟨_, rfl, RelUs.mono (fun _ _ h => h) app_mm h2⟩
      exact o1 _ _ _ _ hf2 e2 si2 ⟨p, by rw [← si1.len]; simp, rfl⟩
  | some us =>
    rw [es] at o1
    obtain ⟨b, vs, rfl, h1, h2⟩ := seq_ok si1 r1 es
    refine .inl ⟨b, vs, rfl, h1.elim (fun h => .inl (.inl h)) (fun h => .inr (.inl h)), fun p hp hf2 => ?_⟩
    obtain ⟨si2, e2⟩ := sim_push (ho := .lst vs) (o := .lst us) si1 hp ⟨vs, rfl, RelUs.mono (fun _ _ h => h) app_mm h2⟩
    exact o1 _ _ _ _ hf2 e2 si2 ⟨p, by rw [← si1.len]; simp, rfl⟩
theorem s_newD (g : Good cl G C k c X W) {a : E} {xa : Expr} {p pos : Pos} (hg : glB c.sc "dict" = true) (hb : (("dict" : Str) ∈ c.blt)) (hs : isStar xa = false) (ha : PE X xa (den cl G C W a)) :
    PE X (.Call (.Name "dict" p) [xa] [] pos) (den cl G C W (.newD a)) := by
  refine pe_w (pe_callTy (call_dictD.or (call_dictP g.calm)) (g.gl _ hg) (g.blt _ hb) (by decide +kernel) (pa_cons ha pa_nil (star_one hs _ _)) (by decide) (by decide) (star_one hs _ _) rfl) fun σ H Q ⟨I, m, ρ, s, hf, si, rs, o⟩ => ?_
  simp only [ev] at o
  refine ⟨I, m, ρ, s, hf, si, rs, OutR.first o fun u s1 I1 m1 H1 x hf1 e1 si1 r1 o1 => ?_⟩
  cases es : dctU s1 u with
  | none =>
    rw [es] at o1
    simp only at o1
    cases ek : pairsV u with
    | none =>
      rw [ek] at o1
      exact o1.elim
    | some ps =>
      rw [ek] at o1
      unfold pairsV at ek
      split at ek
      · rename_i xs
        obtain ⟨b, vs, rfl, h1, h2⟩ := r1
        obtain ⟨as, ws, rfl, h3, h4⟩ := all_pairs (H := H1) si1.sub ek h2
        refine .inr ⟨b, as, ws, rfl, .inl (si1.sub _ _ h1), L2.Paired.mapP h4 fun p kv z => .inl z, fun p hp hf2 => ?_⟩
        obtain ⟨si2, e2⟩ := sim_push (ho := .dK (mergeK [] ws)) (o := .dct ((merge [] ps).map fun p => (p.1, U.v p.2))) si1 hp ⟨_, rfl, RelUK.mono (fun _ _ h => h) app_mm (relUK_v (m := m1) (relK_merge (acc := []) (w := []) h3 List.nodup_nil rfl))⟩
        exact o1 _ _ _ _ hf2 e2 si2 ⟨p, by rw [← si1.len]; simp, rfl⟩
      · cases ek
  | some kvs =>
    rw [es] at o1
    obtain ⟨b, ws, rfl, h1, h2⟩ := dct_ok si1 r1 es
    refine .inl ⟨b, ws, rfl, h1, fun p hp hf2 => ?_⟩
    obtain ⟨si2, e2⟩ := sim_push (ho := .dK ws) (o := .dct kvs) si1 hp ⟨ws, rfl, RelUK.mono (fun _ _ h => h) app_mm h2⟩
    exact o1 _ _ _ _ hf2 e2 si2 ⟨p, by rw [← si1.len]; simp, rfl⟩
/-! ### a thing that was made here: handed over when it is whole -/
section
variable {I I0 : Hp} {m m0 : List Addr} {s : Store} {H H0 : Hp} {p : Addr} {ho : HO}
theorem sim_own (si : Sim cl I m s H) (pI : I p = none) (pm : p ∉ m) (nf : ∀ o u, ho ≠ .frz o u) : Sim cl (upd I p ho) m s (upd H p ho) := by
  have hi : ∀ a o, I a = some o → upd I p ho a = some o := fun a o h => by rw [upd_ne (fun e => by rw [e, pI] at h; cases h)]; exact h
  refine ⟨fun a o h => ?_, si.len, fun i a o h1 h2 => ?_, fun a h => ?_, si.nd, fun a o u h => ?_⟩
  · by_cases e : a = p
    · subst e
      rw [upd_same] at h
      cases h
      exact .inl upd_same
    · rw [upd_ne e] at h
      rcases si.sub a o h with z | ⟨o2, z⟩
      · exact .inl (by rw [upd_ne e]; exact z)
      · exact .inr ⟨o2, by rw [upd_ne e]; exact z⟩
  · obtain ⟨ho', h3, h4⟩ := si.obj i a o h1 h2
    exact ⟨ho', by rw [upd_ne (show a ≠ p from fun e => pm (e ▸ List.mem_of_getElem? h1))]; exact h3, relO_same hi h4⟩
  · rw [upd_ne (show a ≠ p from fun e => pm (e ▸ h))]
    exact si.sep a h
  · by_cases e : a = p
    · subst e
      rw [upd_same] at h
      exact nf _ _ (Option.some.inj h)
    · rw [upd_ne e] at h
      exact si.nf a o u h
theorem ext_own (e : Ext I0 m0 H0 I m H) (h0 : H0 p = none) (pI : I p = none) : Ext I0 m0 H0 (upd I p ho) m (upd H p ho) := by
  refine ⟨fun a o h => ?_, e.mm, fun a h hm => ?_, fun a h => ?_, fun a h => ?_, e.nm⟩
  · have h1 := e.i a o h
    rw [upd_ne (fun z => by rw [z, pI] at h1; cases h1)]
    exact h1
  · rw [upd_ne (fun z => by rw [z, h0] at h; exact h rfl)]
    exact e.fr a h hm
  · rw [upd_ne (fun z => by rw [z, h0] at h; exact h rfl)]
    exact e.th a h
  · by_cases z : a = p
    · subst z
      exact .inr h0
    · rw [upd_ne z] at h
      exact e.ni a h
theorem sim_ownO {o : O} (si : Sim cl I m s H) (pI : I p = none) (pm : p ∉ m) (r : RelO cl I (m ++ [p]) o ho) : Sim cl I (m ++ [p]) (s ++ [o]) (upd H p ho) := by
  refine ⟨fun a o h => ?_, by simp [si.len], fun i a o' h1 h2 => ?_, fun a h => ?_, ?_, si.nf⟩
  · have e : a ≠ p := fun z => by rw [z, pI] at h; cases h
    rcases si.sub a o h with z | ⟨o2, z⟩
    · exact .inl (by rw [upd_ne e]; exact z)
    · exact .inr ⟨o2, by rw [upd_ne e]; exact z⟩
  · by_cases hi : i < m.length
    · rw [List.getElem?_append_left hi] at h1
      rw [List.getElem?_append_left (by rw [← si.len]; exact hi)] at h2
      obtain ⟨ho', h3, h4⟩ := si.obj i a o' h1 h2
      exact ⟨ho', by rw [upd_ne (show a ≠ p from fun e => pm (e ▸ List.mem_of_getElem? h1))]; exact h3, RelO.mono (fun _ _ h => h) ⟨[p], rfl⟩ h4⟩
    · have hl : i = m.length := by
        have := (List.getElem?_eq_some_iff.mp h1).1
        simp at this
        omega
      subst hl
      rw [List.getElem?_append_right (Nat.le_refl _)] at h1
      rw [List.getElem?_append_right (by rw [si.len]; exact Nat.le_refl _)] at h2
      simp [si.len] at h1 h2
      subst h1 h2
      exact ⟨ho, upd_same, r⟩
  · rcases List.mem_append.mp h with h | h
    · exact si.sep a h
    · rw [List.mem_singleton.mp h]
      exact pI
  · refine List.nodup_append.mpr ⟨si.nd, by simp, fun a h1 b h2 e => ?_⟩
    rw [List.mem_singleton.mp h2] at e
    exact pm (e ▸ h1)
theorem ext_ownO (e : Ext I0 m0 H0 I m H) (h0 : H0 p = none) : Ext I0 m0 H0 I (m ++ [p]) (upd H p ho) := by
  refine ⟨e.i, ?_, fun a h hm => ?_, fun a h => ?_, e.ni, fun a h => ?_⟩
  · obtain ⟨t, rfl⟩ := e.mm
    exact ⟨t ++ [p], by simp⟩
  · rw [upd_ne (fun z => by rw [z, h0] at h; exact h rfl)]
    exact e.fr a h hm
  · rw [upd_ne (fun z => by rw [z, h0] at h; exact h rfl)]
    exact e.th a h
  · rcases List.mem_append.mp h with h | h
    · exact e.nm a h
    · rw [List.mem_singleton.mp h]
      exact .inr h0
/-- .. as it is being made -/
theorem sim_over (si : Sim cl I m s H) (pI : I p = none) (pm : p ∉ m) : Sim cl I m s (upd H p ho) := by
  refine ⟨fun a o h => ?_, si.len, fun i a o h1 h2 => ?_, si.sep, si.nd, si.nf⟩
  · have e : a ≠ p := fun z => by rw [z, pI] at h; cases h
    rcases si.sub a o h with z | ⟨o2, z⟩
    · exact .inl (by rw [upd_ne e]; exact z)
    · exact .inr ⟨o2, by rw [upd_ne e]; exact z⟩
  · obtain ⟨ho', h3, h4⟩ := si.obj i a o h1 h2
    exact ⟨ho', by rw [upd_ne (show a ≠ p from fun e => pm (e ▸ List.mem_of_getElem? h1))]; exact h3, h4⟩
theorem ext_over (e : Ext I0 m0 H0 I m H) (h0 : H0 p = none) : Ext I0 m0 H0 I m (upd H p ho) := by
  refine ⟨e.i, e.mm, fun a h hm => ?_, fun a h => ?_, e.ni, e.nm⟩
  · rw [upd_ne (fun z => by rw [z, h0] at h; exact h rfl)]
    exact e.fr a h hm
  · rw [upd_ne (fun z => by rw [z, h0] at h; exact h rfl)]
    exact e.th a h
/-- a thing that stands, not ours, stays so -/
theorem Ext.apart (e : Ext I0 m0 H0 I m H) (h0 : H0 p ≠ none) (pI : I0 p = none) (pm : p ∉ m0) : I p = none ∧ p ∉ m ∧ H p = H0 p := by
  refine ⟨?_, fun z => (e.nm p z).elim pm h0, e.fr p h0 pm⟩
  cases ei : I p with
  | none => rfl
  | some o => exact ((e.ni p (by rw [ei]; simp)).elim (fun z => z pI) h0).elim
end
/-! ### written dicts -/
theorem relUK_put {I : Hp} {m : List Addr} {q : Ky} {u : U} {v : V} (hq : kyB q) (r : RelU I m u v) : ∀ {t : List (Ky × U)} {w : List (Key × V)}, (w.map (·.1)).Nodup → RelUK I m t w → RelUK I m (kput q u t) (putK w (kyK q) v)
  | [], _, _, h => by
    cases h
    exact ⟨v, [], rfl, ⟨hq, r⟩, rfl⟩
  | p :: t, _, nd, h => by
    obtain ⟨x, rs, rfl, h1, h2⟩ := h
    have nd' : kyK p.1 ∉ rs.map (·.1) ∧ (rs.map (·.1)).Nodup := List.nodup_cons.mp nd
    unfold kput
    rw [putK_cons nd'.1]
    by_cases e : p.1 = q
    · rw [if_pos e, if_pos (by rw [e])]
      exact ⟨v, rs, rfl, ⟨hq, r⟩, h2⟩
    · rw [if_neg e, if_neg fun z => e (kyK_inj z)]
      exact ⟨x, _, rfl, h1, relUK_put hq r nd'.2 h2⟩
theorem relUK_merge {I : Hp} {m : List Addr} : ∀ {ks : List Ky} {us : List U} {vs : List V} {acc : List (Ky × U)} {w : List (Key × V)}, (∀ q ∈ ks, kyB q) → ks.length = us.length → RelUs I m us vs → (w.map (·.1)).Nodup → RelUK I m acc w →
    RelUK I m (merge acc (ks.zip us)) (mergeK w ((ks.zip vs).map fun p => (kyK p.1, p.2))) ∧ ((mergeK w ((ks.zip vs).map fun p => (kyK p.1, p.2))).map (·.1)).Nodup
  | [], us, vs, acc, w, _, hl, r, nd, h => by
    cases us with
    | nil =>
      cases r
      exact ⟨h, nd⟩
    | cons _ _ => cases hl
  | q :: ks, us, vs, acc, w, hq, hl, r, nd, h => by
    cases us with
    | nil => cases hl
    | cons u us =>
      obtain ⟨v, rs, rfl, r1, r2⟩ := r
      have h1 := relUK_put (hq q List.mem_cons_self) r1 nd h
      exact relUK_merge (acc := kput q u acc) (w := putK w (kyK q) v) (fun p hp => hq p (List.mem_cons_of_mem _ hp)) (Nat.succ.inj hl) r2 (putK_keys nd).1 h1
def kyOk : Ky → Bool
  | .i _ => true
  | .s x => decide (x.length ≤ LIM)
theorem kyOk_b {q : Ky} (h : kyOk q = true) : kyB q := by
  cases q with
  | i n => trivial
  | s x =>
    show x.length ≤ LIM
    exact of_decide_eq_true (show decide (x.length ≤ LIM) = true from h)
def mKy : Ky → Expr → Bool
  | .i n, .Constant (.int j) _ _ => n == j
  | .s x, .Constant (.str y) _ _ => y == mkS x && decide (x.length ≤ LIM)
  | _, _ => false
theorem s_ky {q : Ky} {x : Expr} (h : mKy q x = true) : PE X x (tC (kV (kyK q))) ∧ kyB q := by
  unfold mKy at h
  split at h
  · simp only [beq_iff_eq] at h
    subst h
    exact ⟨pe_int, trivial⟩
  · simp only [Bool.and_eq_true, beq_iff_eq, decide_eq_true_eq] at h
    obtain ⟨rfl, h⟩ := h
    exact ⟨pe_str, h⟩
  · cases h
theorem mKy_b {q : Ky} {x : Expr} (h : mKy q x = true) : kyB q := by
  unfold mKy at h
  split at h
  · trivial
  · simp only [Bool.and_eq_true, decide_eq_true_eq] at h
    exact h.2
  · cases h
/-- the values' readings, one by one -/
def esL : Es → List E
  | .nil => []
  | .cons e es => e :: esL es
def tKvs (ks : List Ky) (ts : List TE) : List (TE × TE) := (ks.zip ts).map fun p => (tC (kV (kyK p.1)), p.2)
def mKys : List Ky → List (Option Expr) → Bool
  | [], [] => true
  | q :: ks, some x :: xs => mKy q x && mKys ks xs
  | _, _ => false
theorem mKys_all : ∀ {ks : List Ky} {xs : List (Option Expr)}, mKys ks xs = true → xs.all (·.isSome) = true ∧ ks.length = xs.length ∧ ∀ q ∈ ks, kyB q
  | [], [], _ => ⟨rfl, rfl, fun _ h => by cases h⟩
  | q :: ks, some x :: xs, h => by
    simp only [mKys, Bool.and_eq_true] at h
    obtain ⟨h1, h2, h3⟩ := mKys_all h.2
    refine ⟨by rw [List.all_cons, h1]; rfl, by rw [List.length_cons, List.length_cons, h2], fun p hp => ?_⟩
    rcases List.mem_cons.mp hp with rfl | hp
    · exact mKy_b h.1
    · exact h3 p hp
  | [], _ :: _, h => by simp [mKys] at h
  | _ :: _, [], h => by simp [mKys] at h
  | _ :: _, none :: _, h => by simp [mKys] at h
/-- a display's pairs: behind them, the values all at once -/
theorem tPairs_ok {σ : St} {ks : List Ky} : ∀ {es : Es} {I : Hp} {m : List Addr} {ρ : Env} {s : Store} {H : Hp} {Q : List (V × V) → Hp → Prop}, ks.length = (esL es).length → HF H → Sim cl I m s H → RelS I m ρ σ →
    OutR cl RelUs W σ I m H (evs G C es ρ s) (fun us s' I' m' H' vs => RelUs I' m' us vs → Q ((ks.map fun q => kV (kyK q)).zip vs) H') → tPairs (tKvs ks ((esL es).map (den cl G C W))) σ H Q := by
  induction ks with
  | nil =>
    intro es I m ρ s H Q hl hf si rs o
    cases es with
    | nil =>
      simp only [evs] at o
      exact o I m H [] hf Ext.refl si rfl rfl
    | cons e es => cases hl
  | cons q ks ih =>
    intro es I m ρ s H Q hl hf si rs o
    cases es with
    | nil => cases hl
    | cons e es =>
      simp only [evs] at o
      refine ⟨I, m, ρ, s, hf, si, rs, OutR.first o fun u s1 I1 m1 H1 x hf1 e1 si1 r1 o1 => ?_⟩
      refine ih (Nat.succ.inj hl) hf1 si1 (rs.mono e1) ?_
      refine OutR.first (rel := RelUs) o1 fun us s2 I2 m2 H2 vs hf2 e2 si2 r2 o2 => ?_
      intro r3
      have := o2 I2 m2 H2 (x :: vs) hf2 Ext.refl si2 ⟨x, vs, rfl, RelU.mono e2.i e2.mm r1, r2⟩ ⟨x, vs, rfl, RelU.mono e2.i e2.mm r1, r2⟩
      exact this
theorem zip_kyK : ∀ (ks : List Ky) (vs : List V), (ks.map fun q => kV (kyK q)).zip vs = ((ks.zip vs).map fun p => (kyK p.1, p.2)).map fun kv => (kV kv.1, kv.2)
  | [], _ => rfl
  | _ :: _, [] => rfl
  | q :: ks, v :: vs => by
    have := zip_kyK ks vs
    simp only [List.map_cons, List.zip_cons_cons, this]
theorem esL_len : ∀ {es : Es} {ρ : Env} {s : Store} {us : List U} {s' : Store}, evs G C es ρ s = .ok us s' → (esL es).length = us.length
  | .nil, ρ, s, us, s', h => by
    simp only [evs] at h
    cases h
    rfl
  | .cons e es, ρ, s, us, s', h => by
    simp only [evs] at h
    cases h1 : ev G C e ρ s with
    | ok u s1 =>
      rw [h1] at h
      simp only [R.bind] at h
      cases h2 : evs G C es ρ s1 with
      | ok ws s2 =>
        rw [h2] at h
        simp only [R.bind] at h
        cases h
        simp only [esL, List.length_cons, esL_len h2]
      | exc x s2 =>
        rw [h2] at h
        cases h
      | bad =>
        rw [h2] at h
        cases h
    | exc x s1 =>
      rw [h1] at h
      cases h
    | bad =>
      rw [h1] at h
      cases h
/-- the list of a display's pairs -/
theorem s_pps {pos : Pos} : ∀ {ks : List Ky} {es : Es} {xs : List (Option Expr)} {ys : List Expr}, mKys ks xs = true → (esL es).length = ys.length → ks.length = ys.length → (∀ (j : Nat) e y, (esL es)[j]? = some e → ys[j]? = some y → PE X y (den cl G C W e)) →
    PPs X pos xs ys (tKvs ks ((esL es).map (den cl G C W)))
  | [], es, [], ys, _, hl, hk, _ => by
    cases ys with
    | nil =>
      cases es with
      | nil => exact pps_nil
      | cons _ _ => cases hl
    | cons _ _ => cases hk
  | q :: ks, es, some x :: xs, ys, h, hl, hk, hp => by
    simp only [mKys, Bool.and_eq_true] at h
    cases ys with
    | nil => cases hk
    | cons y ys =>
      cases es with
      | nil => cases hl
      | cons e es =>
        exact pps_cons (s_ky h.1).1 (hp 0 e y rfl rfl) (s_pps h.2 (Nat.succ.inj hl) (Nat.succ.inj hk) fun j e' y' h1 h2 => hp (j + 1) e' y' h1 h2)
  | [], _, _ :: _, _, h, _, _, _ => by simp [mKys] at h
  | _ :: _, _, [], _, h, _, _, _ => by simp [mKys] at h
  | _ :: _, _, none :: _, _, h, _, _, _ => by simp [mKys] at h
theorem s_dctA {ks : List Ky} {es : Es} {xs : List (Option Expr)} {ys : List Expr} {pos : Pos} (hk : mKys ks xs = true) (h0 : xs ≠ []) (h15 : xs.length ≤ 15) (hl : ks.length = ys.length) (hl2 : (esL es).length = ys.length) (hp : ∀ (j : Nat) e y, (esL es)[j]? = some e → ys[j]? = some y → PE X y (den cl G C W e))
    {e : E} (he : ∀ (σ : St) (H : Hp) (Q : VK) (I : Hp) (m : List Addr) (ρ : Env) (s : Store), OutR cl RelU W σ I m H (ev G C e ρ s) (fun _ _ _ _ H x => Q x H) → OutR cl RelUs W σ I m H (evs G C es ρ s) fun us s' I' m' H' vs => RelUs I' m' us vs → Sim cl I' m' s' H' → ks.length = us.length ∧ ∀ (p : Addr), H' p = some (.dK []) → p ∉ m' → I' p = none → H p = none → ∀ (ws : List (Key × V)), RelUK I' m' (merge [] (ks.zip us)) ws → (ws.map (·.1)).Nodup → HF (upd H' p (.dK ws)) → Q (.ref p) (upd H' p (.dK ws))) :
    PE X (.Dict xs ys pos) (den cl G C W e) := by
  obtain ⟨k1, k2, k3⟩ := mKys_all hk
  refine pe_w (pe_disp (s_pps hk hl2 hl hp) k1 (k2.symm.trans hl) h0 h15) fun σ H Q ⟨I, m, ρ, s, hf, si, rs, o⟩ => ?_
  intro p hp2
  obtain ⟨si1, e1⟩ := sim_by (ho := .dK []) si hp2
  have hf1 : HF (upd H p (.dK [])) := hf.upd (fun _ e => nomatch e) (fun _ e => nomatch e) (fun _ e => by cases e; exact ⟨Nat.zero_le _, List.nodup_nil⟩) fun _ _ e => nomatch e
  refine tPairs_ok (hl.trans hl2.symm) hf1 si1 (rs.mono e1) ?_
  have o2 := he σ H Q I m ρ s o
  refine (OutR.mono o2 e1).imp fun us s' I' m' H' vs hf' e' si' r' q r3 => ?_
  have hn : H' p = some (.dK []) := by
    rw [e'.fr p (by rw [upd_same]; simp) (mem_free si hp2)]
    exact upd_same
  have pm : p ∉ m' := fun z => by
    rcases e'.nm p z with z | z
    · exact mem_free si hp2 z
    · rw [upd_same] at z
      cases z
  have pI : I' p = none := by
    cases ei : I' p with
    | none => rfl
    | some o =>
      rcases e'.ni p (by rw [ei]; simp) with z | z
      · exact absurd (sub_none si hp2) z
      · rw [upd_same] at z
        cases z
  refine ⟨hn, (ks.zip vs).map fun p => (kyK p.1, p.2), zip_kyK ks vs, ?_, fun hf2 => ?_⟩
  · rw [List.length_map, List.length_zip]
    have : ks.length ≤ 15 := by omega
    omega
  · obtain ⟨hul, q⟩ := q r3 si'
    obtain ⟨q1, q2⟩ := relUK_merge (acc := []) (w := []) k3 hul r3 List.nodup_nil rfl
    exact q p hn pm pI hp2 _ q1 q2 hf2
theorem relK_ofU {I : Hp} {m : List Addr} : ∀ {us : List (Ky × U)} {vs : List (Key × V)} {ts : List (Ky × T)}, us = (ts.map fun p => (p.1, U.v p.2)) → RelUK I m us vs → RelK I ts vs
  | _, _, [], e, r => by
    subst e
    exact r
  | _, _, (q, t) :: ts, e, r => by
    subst e
    obtain ⟨v, rs, rfl, r1, r2⟩ := r
    exact ⟨v, rs, rfl, r1, relK_ofU rfl r2⟩
theorem kput_v (q : Ky) (t : T) : ∀ kvs : List (Ky × T), kput q (U.v t) (kvs.map fun p => (p.1, U.v p.2)) = (kput q t kvs).map fun p => (p.1, U.v p.2)
  | [] => rfl
  | p :: r => by
    simp only [List.map_cons, kput]
    split
    · rfl
    · simp only [List.map_cons, kput_v q t r]
theorem merge_v : ∀ {ks : List Ky} {us : List U} {ts : List T} {acc : List (Ky × T)}, optAll unV us = some ts → merge (acc.map fun p => (p.1, U.v p.2)) (ks.zip us) = (merge acc (ks.zip ts)).map fun p => (p.1, U.v p.2)
  | [], _, _, _, _ => by simp [merge]
  | q :: ks, [], ts, acc, e => by
    cases e
    simp [merge]
  | q :: ks, u :: us, ts, acc, e => by
    unfold optAll at e
    cases u with
    | v t =>
      simp only [unV] at e
      cases e2 : optAll unV us with
      | none =>
        rw [e2] at e
        cases e
      | some ts' =>
        rw [e2] at e
        cases e
        simp only [List.zip_cons_cons, merge, kput_v]
        exact merge_v e2
    | ref i => cases e
    | tup w => cases e
theorem s_dctd {ks : List Ky} {es : Es} {xs : List (Option Expr)} {ys : List Expr} {pos : Pos} (hk : mKys ks xs = true) (h0 : xs ≠ []) (h15 : xs.length ≤ 15) (hl : ks.length = ys.length) (hl2 : (esL es).length = ys.length) (hp : ∀ (j : Nat) e y, (esL es)[j]? = some e → ys[j]? = some y → PE X y (den cl G C W e)) :
    PE X (.Dict xs ys pos) (den cl G C W (.dctd ks es)) := by
  refine s_dctA hk h0 h15 hl hl2 hp fun σ H Q I m ρ s o => ?_
  simp only [ev] at o
  cases er : evs G C es ρ s with
  | ok us s' =>
    rw [er] at o
    simp only [R.bind] at o
    intro I' m' H' vs hf' e' si' r' r3 _
    split at o
    · rename_i hz
      cases ea : optAll unV us with
      | none =>
        rw [ea] at o
        exact o.elim
      | some ts =>
        rw [ea] at o
        refine ⟨hz.1, fun p hn pm pI hp2 ws q1 q2 hf2 => ?_⟩
        have q3 := relK_ofU (merge_v (acc := []) ea) q1
        have ex := ext_own (ho := .dK ws) e' hp2 pI
        have hi := (ext_own (ho := .dK ws) (Ext.refl (I := I') (m := m') (H := fun a => if a = p then none else H' a)) (if_pos rfl) pI).i
        exact o _ _ _ _ hf2 ex (sim_own si' pI pm fun _ _ e => nomatch e) ⟨p, ws, rfl, upd_same, RelK.mono hi q3⟩
    · exact o.elim
  | exc x s' =>
    rw [er] at o
    exact o
  | bad =>
    rw [er] at o
    exact o
theorem s_dctO {ks : List Ky} {es : Es} {xs : List (Option Expr)} {ys : List Expr} {pos : Pos} (hk : mKys ks xs = true) (h0 : xs ≠ []) (h15 : xs.length ≤ 15) (hl : ks.length = ys.length) (hl2 : (esL es).length = ys.length) (hp : ∀ (j : Nat) e y, (esL es)[j]? = some e → ys[j]? = some y → PE X y (den cl G C W e)) :
    PE X (.Dict xs ys pos) (den cl G C W (.dctO ks es)) := by
  refine s_dctA hk h0 h15 hl hl2 hp fun σ H Q I m ρ s o => ?_
  simp only [ev] at o
  cases er : evs G C es ρ s with
  | ok us s' =>
    rw [er] at o
    simp only [R.bind] at o
    intro I' m' H' vs hf' e' si' r' r3 _
    split at o
    · rename_i hz
      refine ⟨hz.1, fun p hn pm pI hp2 ws q1 q2 hf2 => ?_⟩
      exact o _ _ _ _ hf2 (ext_ownO e' hp2) (sim_ownO (o := .dct (merge [] (ks.zip us))) si' pI pm ⟨ws, rfl, RelUK.mono (fun _ _ h => h) app_mm q1⟩) ⟨p, by rw [← si'.len]; simp, rfl⟩
    · exact o.elim
  | exc x s' =>
    rw [er] at o
    exact o
  | bad =>
    rw [er] at o
    exact o
theorem s_dct0 {pos : Pos} : PE X (.Dict [] [] pos) (den cl G C W (.dctO [] .nil)) := by
  refine pe_w pe_dnewK fun σ H Q ⟨I, m, ρ, s, hf, si, rs, o⟩ => ?_
  simp only [ev, evs, R.bind] at o
  intro p hp hf2
  obtain ⟨si2, e2⟩ := sim_push (ho := .dK []) (o := .dct []) si hp ⟨[], rfl, rfl⟩
  exact o _ _ _ _ hf2 e2 si2 ⟨p, by rw [← si.len]; simp, rfl⟩
theorem s_dct0d {pos : Pos} : PE X (.Dict [] [] pos) (den cl G C W (.dctd [] .nil)) := by
  refine pe_w pe_dnewK fun σ H Q ⟨I, m, ρ, s, hf, si, rs, o⟩ => ?_
  simp only [ev, evs, R.bind] at o
  intro p hp hf2
  obtain ⟨si2, e2⟩ := sim_new (ho := .dK []) si hp fun _ _ e => nomatch e
  exact o _ _ _ _ hf2 e2 si2 ⟨p, [], rfl, upd_same, rfl⟩
/-! ### append -/
theorem base_of {o : Expr} {at_ : Str} {env : PySem.Env} (h : ∀ id p q, o ≠ .Call (.Name id p) [] [] q) (whole : Sem Value) : attributeBase o at_ env whole = whole := by
  unfold attributeBase
  split
  · exact absurd rfl (h _ _ _)
  · rfl
def noBare : Expr → Bool
  | .Call (.Name _ _) [] [] _ => false
  | _ => true
theorem noBare_of {o : Expr} (h : noBare o = true) : ∀ id p q, o ≠ .Call (.Name id p) [] [] q := by
  intro id p q e
  subst e
  simp [noBare] at h
theorem lstAt_ok {I : Hp} {m : List Addr} {s : Store} {H : Hp} (si : Sim cl I m s H) {u : U} {x : V} {i : Nat} {us : List U} (r : RelU I m u x) (e : lstAt s u = some (i, us)) : ∃ a vs, x = .ref a ∧ u = .ref i ∧ m[i]? = some a ∧ H a = some (.lst vs) ∧ RelUs I m us vs := by
  cases u with
  | v t => cases e
  | tup w => cases e
  | ref j =>
    simp only [lstAt] at e
    cases es : s[j]? with
    | none =>
      rw [es] at e
      cases e
    | some o =>
      rw [es] at e
      obtain ⟨a, ho, rfl, e2, e3, e4⟩ := si.at r es
      cases o with
      | lst us =>
        cases e
        obtain ⟨vs, rfl, h2⟩ := e4
        exact ⟨a, vs, rfl, rfl, e2, e3, h2⟩
      | dct us => cases e
      | ins q fs => cases e
theorem relUs_app {I : Hp} {m : List Addr} : ∀ {ts us : List U} {vs ws : List V}, RelUs I m ts vs → RelUs I m us ws → RelUs I m (ts ++ us) (vs ++ ws)
  | [], us, _, ws, h, h' => by
    cases (show _ = [] from h)
    exact h'
  | t :: ts, us, _, ws, h, h' => by
    obtain ⟨v, r, e, h1, h2⟩ := h
    exact ⟨v, r ++ ws, by rw [e]; rfl, h1, relUs_app h2 h'⟩
theorem s_app {a b : E} {xa xb : Expr} {apos pos : Pos} (hline : (apos.endLine == pos.line) = true) (hs : isStar xb = false) (hb0 : noBare xa = true) (ha : PE X xa (den cl G C W a)) (hb : PE X xb (den cl G C W b)) : PE X (.Call (.Attribute xa "append" apos) [xb] [] pos) (den cl G C W (.app a b)) := by
  refine pe_w (pe_bm PySem.F.plainAttrs_list PySem.F.slot_list_append PySem.F.type_list_append mt_append ha (pa_cons hb pa_nil (star_one hs _ _)) (base_of (noBare_of hb0) _) (by rw [star_one hs]; rfl) hline (star_one hs _ _) rfl) fun σ H Q ⟨I, m, ρ, s, hf, si, rs, o⟩ => ?_
  simp only [ev] at o
  refine ⟨I, m, ρ, s, hf, si, rs, OutR.first o fun u s1 I1 m1 H1 x hf1 e1 si1 r1 o1 => ?_⟩
  cases el : lstAt s1 u with
  | none =>
    rw [el] at o1
    exact o1.elim
  | some iu =>
    rw [el] at o1
    obtain ⟨i, us⟩ := iu
    obtain ⟨p, vs, rfl, rfl, h1, h2, h3⟩ := lstAt_ok si1 r1 el
    refine ⟨.inl ⟨rfl, vs, .inl (.inl h2)⟩, I1, m1, ρ, s1, hf1, si1, rs.mono e1, OutR.first o1 fun w s2 I2 m2 H2 y hf2 e2 si2 r2 o2 => ?_⟩
    cases el2 : lstAt s2 (.ref i) with
    | none =>
      rw [el2] at o2
      exact o2.elim
    | some iu =>
      rw [el2] at o2
      obtain ⟨j, us2⟩ := iu
      obtain ⟨p2, vs2, e3, e4, h4, h5, h6⟩ := lstAt_ok si2 (RelU.mono e2.i e2.mm r1) el2
      cases e4
      cases e3
      simp only at o2
      split at o2
      · rename_i hz
        refine ⟨p, vs2, y, rfl, rfl, h5, by rw [← relUs_len h6, line_LIM]; exact hz, fun hf3 => ?_⟩
        obtain ⟨si3, e3⟩ := sim_set (o' := .lst (us2 ++ [w])) (ho := .lst (vs2 ++ [y])) si2 h4 ⟨_, rfl, relUs_app h6 ⟨y, [], rfl, r2, rfl⟩⟩
        exact o2 _ _ _ _ hf3 e3 si3 rfl
      · exact o2.elim
end
end Cab

set_option Elab.async false
set_option linter.all false
set_option maxRecDepth 100000
set_option maxHeartbeats 4000000
namespace Cab
open PySem PySem.Spec PyProof.Rows L2
/-! ### targets -/
def tgS : Tgt → List Nat
  | .one i => [i]
  | .many is => is
def gsG : List Nat → TGs
  | [] => gNil
  | i :: is => gCons (gName i) (gsG is)
def tgG (K : PySem.W.Frag) : Tgt → TG
  | .one i => gName i
  | .many is => gTup K is.length (gsG is)
/-- the slots of a def's own names -/
def stB (c : MC) (i : Nat) (id : Str) : Bool := decide (c.N[i]? = some id) && (locB c.sc id || cellB c.sc id)
def mTgs (c : MC) : List Nat → List Expr → Bool
  | [], [] => true
  | i :: is, .Name id _ :: xs => stB c i id && mTgs c is xs
  | _, _ => false
def mTg (c : MC) : Tgt → Expr → Bool
  | .one i, .Name id _ => stB c i id
  | .many is, .Tuple xs _ _ => mTgs c is xs
  | _, _ => false
section
variable {cl : Nat → Addr} {G : Glo} {C : Call} {k : Nat} {c : MC} {X : Cx} {W : WX}
theorem st_loc (g : Good cl G C k c X W) {i : Nat} {id : Str} (h : stB c i id = true) : X.N[i]? = some id ∧ Loc X.env.scope id ∧ (X.fn id = true ∨ X.env.scope.names.lookup id = some .local) := by
  unfold stB at h
  simp only [Bool.and_eq_true, decide_eq_true_eq, Bool.or_eq_true] at h
  refine ⟨by rw [g.N]; exact h.1, ?_, ?_⟩
  · rcases h.2 with h | h
    · exact .inl (g.loc _ h)
    · exact .inr (g.cell _ h).1
  · rcases h.2 with h | h
    · exact .inr (g.loc _ h)
    · exact .inl (g.cell _ h).2
theorem Good.ndX (g : Good cl G C k c X W) : X.N.Nodup := by
  rw [g.N]
  exact g.nd
theorem s_name (g : Good cl G C k c X W) {i : Nat} {id : Str} {pos : Pos} (h : stB c i id = true) : PG X (.Name id pos) (gName i) := by
  obtain ⟨h1, h2, h3⟩ := st_loc g h
  exact pg_name g.ndX h1 h2 h3
theorem s_tgs (g : Good cl G C k c X W) : ∀ {is : List Nat} {xs : List Expr}, mTgs c is xs = true → PGs X xs (gsG is) ∧ (assignEach xs X.env).length = is.length ∧ (assignEach xs X.env).findIdx? (·.1) = none
  | [], [], _ => ⟨pgs_nil, rfl, rfl⟩
  | i :: is, .Name id pos :: xs, h => by
    simp only [mTgs, Bool.and_eq_true] at h
    obtain ⟨h1, h2, h3⟩ := s_tgs g h.2
    refine ⟨pgs_cons (s_name g h.1) h1 (by simp [assignEach]), by simp [assignEach, h2], ?_⟩
    simp only [assignEach, List.findIdx?_cons, h3]
    rfl
  | [], _ :: _, h => by simp [mTgs] at h
  | _ :: _, [], h => by simp [mTgs] at h
  | _ :: _, .BoolOp _ _ _ :: _, h => by simp [mTgs] at h
  | _ :: _, .NamedExpr _ _ _ :: _, h => by simp [mTgs] at h
  | _ :: _, .BinOp _ _ _ _ :: _, h => by simp [mTgs] at h
  | _ :: _, .UnaryOp _ _ _ :: _, h => by simp [mTgs] at h
  | _ :: _, .Lambda _ _ _ _ :: _, h => by simp [mTgs] at h
  | _ :: _, .IfExp _ _ _ _ :: _, h => by simp [mTgs] at h
  | _ :: _, .Dict _ _ _ :: _, h => by simp [mTgs] at h
  | _ :: _, .Set _ _ _ :: _, h => by simp [mTgs] at h
  | _ :: _, .ListComp _ _ _ _ :: _, h => by simp [mTgs] at h
  | _ :: _, .SetComp _ _ _ _ :: _, h => by simp [mTgs] at h
  | _ :: _, .DictComp _ _ _ _ _ :: _, h => by simp [mTgs] at h
  | _ :: _, .GeneratorExp _ _ _ _ :: _, h => by simp [mTgs] at h
  | _ :: _, .Await _ _ :: _, h => by simp [mTgs] at h
  | _ :: _, .Yield _ _ :: _, h => by simp [mTgs] at h
  | _ :: _, .YieldFrom _ _ :: _, h => by simp [mTgs] at h
  | _ :: _, .Compare _ _ _ _ :: _, h => by simp [mTgs] at h
  | _ :: _, .Call _ _ _ _ :: _, h => by simp [mTgs] at h
  | _ :: _, .FormattedValue _ _ _ _ :: _, h => by simp [mTgs] at h
  | _ :: _, .JoinedStr _ _ :: _, h => by simp [mTgs] at h
  | _ :: _, .Constant _ _ _ :: _, h => by simp [mTgs] at h
  | _ :: _, .Attribute _ _ _ :: _, h => by simp [mTgs] at h
  | _ :: _, .Subscript _ _ _ :: _, h => by simp [mTgs] at h
  | _ :: _, .Starred _ _ :: _, h => by simp [mTgs] at h
  | _ :: _, .List _ _ :: _, h => by simp [mTgs] at h
  | _ :: _, .Tuple _ _ _ :: _, h => by simp [mTgs] at h
  | _ :: _, .Slice _ _ _ _ :: _, h => by simp [mTgs] at h
theorem s_tg (g : Good cl G C k c X W) {tg : Tgt} {x : Expr} (h : mTg c tg x = true) : PG X x (tgG X.K tg) := by
  unfold mTg at h
  split at h
  · exact s_name g h
  · obtain ⟨h1, h2, h3⟩ := s_tgs g h
    exact pg_tup g.calm h1 h2 h3
  · cases h
/-! ### what a target does -/
theorem wipe_len (σ : St) : ∀ vs : List Nat, (wipe σ vs).length = σ.length
  | [] => rfl
  | v :: vs => by
    show ((wipe σ vs).set v none).length = _
    rw [List.length_set, wipe_len σ vs]
theorem wipe_get (σ : St) {j : Nat} : ∀ vs : List Nat, j ∉ vs → (wipe σ vs)[j]? = σ[j]?
  | [], _ => rfl
  | v :: vs, h => by
    show ((wipe σ vs).set v none)[j]? = _
    rw [List.getElem?_set_ne (show v ≠ j from fun e => h (e ▸ List.mem_cons_self)), wipe_get σ vs fun z => h (List.mem_cons_of_mem _ z)]
theorem wipe_at (σ : St) {j : Nat} : ∀ {vs : List Nat}, j ∈ vs → j < σ.length → (wipe σ vs)[j]? = some none
  | v :: vs, h, hl => by
    show ((wipe σ vs).set v none)[j]? = _
    by_cases e : v = j
    · subst e
      rw [List.getElem?_set_self (by rw [wipe_len]; exact hl)]
    · rw [List.getElem?_set_ne e]
      exact wipe_at σ ((List.mem_cons.mp h).resolve_left fun z => e z.symm) hl
theorem wipe_eq {σ τ : St} {vs : List Nat} (hl : σ.length = τ.length) (h : ∀ j, j ∉ vs → σ[j]? = τ[j]?) : wipe σ vs = wipe τ vs := by
  refine List.ext_getElem? fun j => ?_
  by_cases hj : j ∈ vs
  · by_cases h2 : j < σ.length
    · rw [wipe_at σ hj h2, wipe_at τ hj (by rw [← hl]; exact h2)]
    · rw [List.getElem?_eq_none (by rw [wipe_len]; omega), List.getElem?_eq_none (by rw [wipe_len]; omega)]
  · rw [wipe_get σ vs hj, wipe_get τ vs hj, h j hj]
theorem gs_ok {I : Hp} {m : List Addr} {H : Hp} : ∀ {is : List Nat} {us : List U} {vs : List V} {ρ ρ' : Env} {σ : St} {Q : St → Hp → Prop}, RelS I m ρ σ → RelUs I m us vs → bindMany ρ is us = some ρ' →
    (∀ σ', RelS I m ρ' σ' → σ'.length = σ.length → (∀ j, j ∉ is → σ'[j]? = σ[j]?) → Q σ' H) → gsG is vs σ H Q
  | [], [], vs, ρ, ρ', σ, Q, rs, r, e, q => by
    cases e
    exact ⟨r, q σ rs rfl fun _ _ => rfl⟩
  | i :: is, u :: us, vs, ρ, ρ', σ, Q, rs, r, e, q => by
    obtain ⟨v, w, rfl, r1, r2⟩ := r
    refine ⟨v, w, rfl, gs_ok (rs.set r1) r2 e fun σ' rs' hl hj => q σ' rs' (by rw [hl, List.length_set]) fun j hn => ?_⟩
    rw [hj j fun z => hn (List.mem_cons_of_mem _ z), List.getElem?_set_ne (show i ≠ j from fun z => hn (z ▸ List.mem_cons_self))]
  | [], _ :: _, _, _, _, _, _, _, _, e, _ => by cases e
  | _ :: _, [], _, _, _, _, _, _, _, e, _ => by cases e
theorem parts_ok {I : Hp} {m : List Addr} {s : Store} {H : Hp} {K : PySem.W.Frag} (si : Sim cl I m s H) {u : U} {x : V} {us : List U} (r : RelU I m u x) (e : partsU u = some us) : ∃ a vs, x = .ref a ∧ SqT K H a vs ∧ RelUs I m us vs := by
  cases u with
  | v t =>
    cases t <;> simp only [partsU, reduceCtorEq, Option.some.injEq] at e
    subst e
    obtain ⟨a, vs, rfl, h1, h2⟩ := r
    exact ⟨a, vs, rfl, .inl (si.sub _ _ h1), relUs_v h2⟩
  | tup ws =>
    cases e
    obtain ⟨a, vs, rfl, h1, h2⟩ := r
    exact ⟨a, vs, rfl, .inl (si.sub _ _ h1), h2⟩
  | ref i => cases e
theorem tg_ok {I : Hp} {m : List Addr} {s : Store} {H : Hp} {K : PySem.W.Frag} (si : Sim cl I m s H) {tg : Tgt} {u : U} {x : V} {ρ ρ' : Env} {σ : St} {Q : St → Hp → Prop} (rs : RelS I m ρ σ) (r : RelU I m u x) (e : bindT tg u ρ = some ρ')
    (q : ∀ σ', RelS I m ρ' σ' → σ'.length = σ.length → (∀ j, j ∉ tgS tg → σ'[j]? = σ[j]?) → Q σ' H) : tgG K tg x σ H Q := by
  cases tg with
  | one i =>
    cases e
    refine q _ (rs.set r) (by rw [List.length_set]) fun j hj => ?_
    rw [List.getElem?_set_ne fun z => hj (by simp [tgS, z])]
  | many is =>
    simp only [bindT, Option.bind_eq_some_iff] at e
    obtain ⟨us, e1, e2⟩ := e
    split at e2
    · rename_i hl
      obtain ⟨a, vs, rfl, h1, h2⟩ := parts_ok (K := K) si r e1
      exact ⟨a, vs, rfl, h1, by rw [← relUs_len h2]; exact hl, gs_ok rs h2 e2 q⟩
    · cases e2
/-! ### a dict locked while it is walked -/
def Lk (X : Cx) (m : List Addr) (H HL : Hp) : Prop := HL = H ∨ ∃ d od kvs, H d = some (.dK kvs) ∧ d ∉ m ∧ HL = upd H d (.frz od (.dK kvs)) ∧ ∀ o' u', X.H_0 d ≠ some (.frz o' u')
def Ul (X : Cx) (HL H : Hp) : Prop := H = HL ∨ ∃ d od kvs, HL d = some (.frz od (.dK kvs)) ∧ H = upd HL d (.dK kvs) ∧ ∀ o' u', X.H_0 d ≠ some (.frz o' u')
theorem HF.unl {H : Hp} {d : Addr} {od : Obj} {kvs : List (Key × V)} (hf : HF H) (h : H d = some (.frz od (.dK kvs))) : HF (L2.upd H d (.dK kvs)) :=
  hf.upd (fun _ e => nomatch e) (fun _ e => nomatch e) (fun ws e => by cases e; exact hf.k d kvs (.inr ⟨od, h⟩)) fun _ _ e => nomatch e
theorem HF.lck {H : Hp} {d : Addr} {od : Obj} {kvs : List (Key × V)} (hf : HF H) (h : H d = some (.dK kvs)) : HF (L2.upd H d (.frz od (.dK kvs))) := by
  have at_ : ∀ {a u}, Rd (L2.upd H d (.frz od (.dK kvs))) a u → (∀ o v, u ≠ .frz o v) → Rd H a u := by
    intro a u r nf
    by_cases e : a = d
    · subst e
      rcases r with r | ⟨o, r⟩
      · rw [upd_same] at r
        exact absurd (Option.some.inj r).symm (nf _ _)
      · rw [upd_same] at r
        cases r
        exact .inl h
    · rcases r with r | ⟨o, r⟩
      · rw [upd_ne e] at r
        exact .inl r
      · rw [upd_ne e] at r
        exact .inr ⟨o, r⟩
  exact ⟨fun a xs r => hf.l a xs (at_ r fun _ _ e => nomatch e), fun a xs r => hf.t a xs (at_ r fun _ _ e => nomatch e), fun a xs r => hf.k a xs (at_ r fun _ _ e => nomatch e)⟩
theorem sim_lck {I : Hp} {m : List Addr} {s : Store} {H : Hp} {d : Addr} {od : Obj} {kvs : List (Key × V)} (si : Sim cl I m s H) (h : H d = some (.dK kvs)) (dm : d ∉ m) : Sim cl I m s (upd H d (.frz od (.dK kvs))) := by
  refine ⟨fun a o ha => ?_, si.len, fun i a o h1 h2 => ?_, si.sep, si.nd, si.nf⟩
  · by_cases e : a = d
    · subst e
      rcases si.sub _ o ha with z | ⟨o2, z⟩
      · rw [h] at z
        cases z
        exact .inr ⟨od, upd_same⟩
      · rw [h] at z
        cases z
    · rcases si.sub a o ha with z | ⟨o2, z⟩
      · exact .inl (by rw [upd_ne e]; exact z)
      · exact .inr ⟨o2, by rw [upd_ne e]; exact z⟩
  · obtain ⟨ho, h3, h4⟩ := si.obj i a o h1 h2
    exact ⟨ho, by rw [upd_ne (show a ≠ d from fun e => dm (e ▸ List.mem_of_getElem? h1))]; exact h3, h4⟩
theorem sim_unl {I : Hp} {m : List Addr} {s : Store} {H : Hp} {d : Addr} {od : Obj} {kvs : List (Key × V)} (si : Sim cl I m s H) (h : H d = some (.frz od (.dK kvs))) (dm : d ∉ m) : Sim cl I m s (upd H d (.dK kvs)) := by
  refine ⟨fun a o ha => ?_, si.len, fun i a o h1 h2 => ?_, si.sep, si.nd, si.nf⟩
  · by_cases e : a = d
    · subst e
      rcases si.sub _ o ha with z | ⟨o2, z⟩
      · rw [h] at z
        cases z
        exact absurd ha (si.nf _ _ _)
      · rw [h] at z
        cases z
        exact .inl upd_same
    · rcases si.sub a o ha with z | ⟨o2, z⟩
      · exact .inl (by rw [upd_ne e]; exact z)
      · exact .inr ⟨o2, by rw [upd_ne e]; exact z⟩
  · obtain ⟨ho, h3, h4⟩ := si.obj i a o h1 h2
    exact ⟨ho, by rw [upd_ne (show a ≠ d from fun e => dm (e ▸ List.mem_of_getElem? h1))]; exact h3, h4⟩
theorem Lk.sim {I : Hp} {m : List Addr} {s : Store} {H HL : Hp} (l : Lk X m H HL) (si : Sim cl I m s H) : Sim cl I m s HL := by
  rcases l with rfl | ⟨d, od, kvs, h, dm, rfl, _⟩
  · exact si
  · exact sim_lck si h dm
theorem Lk.hf {m : List Addr} {H HL : Hp} (l : Lk X m H HL) (hf : HF H) : HF HL := by
  rcases l with rfl | ⟨d, od, kvs, h, dm, rfl, _⟩
  · exact hf
  · exact hf.lck h
theorem Lk.none {m : List Addr} {H HL : Hp} (l : Lk X m H HL) {p : Addr} : HL p = none ↔ H p = none := by
  rcases l with rfl | ⟨d, od, kvs, h, dm, rfl, _⟩
  · exact Iff.rfl
  · by_cases e : p = d
    · subst e
      rw [upd_same, h]
      simp
    · rw [upd_ne e]
/-- behind the walk the dict is as it was -/
theorem Lk.back {I I1 : Hp} {m m1 : List Addr} {s1 : Store} {H HL H1 : Hp} (l : Lk X m H HL) (e : Ext I m HL I1 m1 H1) (si : Sim cl I1 m1 s1 H1) (hf : HF H1) : ∃ H2, Ul X H1 H2 ∧ Ext I m H I1 m1 H2 ∧ Sim cl I1 m1 s1 H2 ∧ HF H2 ∧ (∀ dx gs, H1 dx = some (.xd gs) → H2 dx = some (.xd gs)) := by
  rcases l with rfl | ⟨d, od, kvs, h, dm, rfl, nz⟩
  · exact ⟨H1, .inl rfl, e, si, hf, fun _ _ h => h⟩
  · have h1 : H1 d = some (.frz od (.dK kvs)) := by
      rw [e.fr d (by rw [upd_same]; simp) dm]
      exact upd_same
    have dm1 : d ∉ m1 := fun z => by
      rcases e.nm d z with z | z
      · exact dm z
      · rw [upd_same] at z
        cases z
    refine ⟨upd H1 d (.dK kvs), .inr ⟨d, od, kvs, h1, rfl, nz⟩, ⟨e.i, e.mm, fun a ha hm => ?_, fun a ha => ?_, fun a ha => ?_, fun a ha => ?_⟩, sim_unl si h1 dm1, hf.unl h1, fun dx gs hx => ?_⟩
    · by_cases z : a = d
      · subst z
        rw [upd_same, h]
      · rw [upd_ne z, e.fr a (by rw [upd_ne z]; exact ha) hm, upd_ne z]
    · by_cases z : a = d
      · subst z
        rw [upd_same]
        simp
      · rw [upd_ne z]
        exact e.th a (by rw [upd_ne z]; exact ha)
    · rcases e.ni a ha with z | z
      · exact .inl z
      · refine .inr ?_
        by_cases y : a = d
        · subst y
          rw [upd_same] at z
          cases z
        · rw [upd_ne y] at z
          exact z
    · rcases e.nm a ha with z | z
      · exact .inl z
      · refine .inr ?_
        by_cases y : a = d
        · subst y
          rw [upd_same] at z
          cases z
        · rw [upd_ne y] at z
          exact z
    · rw [upd_ne (fun z => by rw [z, h1] at hx; cases hx)]
      exact hx
/-! ### what is walked -/
/-- the turns give the things xs, wherever the world has grown -/
def ItL (cl : Nat → Addr) (J : It) (I : Hp) (m : List Addr) (H : Hp) (xs : List U) : Prop := ∀ I1 m1 s1 H1, HF H1 → Ext I m H I1 m1 H1 → Sim cl I1 m1 s1 H1 → ∀ i : Nat,
  (∀ u, xs[i]? = some u → J.go i H1 ∧ ∀ x H2, J.yld i H1 x H2 → ∃ I2, HF H2 ∧ Ext I1 m1 H1 I2 m1 H2 ∧ Sim cl I2 m1 s1 H2 ∧ RelU I2 m1 u x) ∧ (xs[i]? = none → J.stop i H1)
/-- .. or what the store's list holds then -/
def ItOK (cl : Nat → Addr) (J : It) (I : Hp) (m : List Addr) (H : Hp) (w : Wk) : Prop := ∀ I1 m1 s1 H1, HF H1 → Ext I m H I1 m1 H1 → Sim cl I1 m1 s1 H1 → ∀ (i : Nat) o, wkAt w s1 i = some o →
  (∀ u, o = some u → J.go i H1 ∧ ∀ x H2, J.yld i H1 x H2 → ∃ I2, HF H2 ∧ Ext I1 m1 H1 I2 m1 H2 ∧ Sim cl I2 m1 s1 H2 ∧ RelU I2 m1 u x) ∧ (o = none → J.stop i H1)
theorem ItL.ok {J : It} {I : Hp} {m : List Addr} {H : Hp} {xs : List U} (h : ItL cl J I m H xs) : ItOK cl J I m H (.xs xs) := by
  intro I1 m1 s1 H1 hf e si i o ho
  cases ho
  exact h I1 m1 s1 H1 hf e si i
def denI (X : Cx) (cl : Nat → Addr) (G : Glo) (C : Call) (W : WX) (src : Src) : TI := fun σ H R => ∃ I m ρ s, HF H ∧ Sim cl I m s H ∧ RelS I m ρ σ ∧
  OutR cl (fun _ _ _ (_ : It) => True) W σ I m H (evSrc G C src ρ s) fun w _ I' m' H' J => ∀ HL, Lk X m' H' HL → ItOK cl J I' m' HL w → R J HL
theorem pi_w {tg e : Expr} {t t' : TI} (h : PI X tg e t) (q : ∀ σ H R, t' σ H R → t σ H R) : PI X tg e t' := ⟨fun pins s σ H R J z => h.run pins s σ H R J (q σ H R z)⟩
theorem it_range {I : Hp} {m : List Addr} {H : Hp} (lo : Int) (n : Nat) : ItL cl (Itr lo n) I m H (rangeL lo n) := by
  intro I1 m1 s1 H1 hf e si i
  have get : ∀ (n : Nat) (lo : Int) (i : Nat), (rangeL lo n)[i]? = if i < n then some (.v (.int (lo + i))) else none := by
    intro n
    induction n with
    | zero => intro lo i; simp [rangeL]
    | succ n ih =>
      intro lo i
      cases i with
      | zero => simp [rangeL]
      | succ i =>
        simp only [rangeL, List.getElem?_cons_succ, ih]
        by_cases h : i < n
        · rw [if_pos h, if_pos (by omega)]
          congr 3
          omega
        · rw [if_neg h, if_neg (by omega)]
  rw [get]
  refine ⟨fun u hu => ?_, fun hu => ?_⟩
  · split at hu
    · rename_i hi
      cases hu
      refine ⟨hi, fun x H2 y => ?_⟩
      obtain ⟨rfl, rfl⟩ := y
      exact ⟨I1, hf, Ext.refl, si, rfl⟩
    · cases hu
  · split at hu
    · cases hu
    · rename_i hi
      exact Nat.le_of_not_lt hi
theorem s_rng1 (g : Good cl G C k c X W) {tg xa : Expr} {a : E} {p pos : Pos} (hg : glB c.sc "range" = true) (hb : (("range" : Str) ∈ c.blt)) (hs : isStar xa = false) (ha : PE X xa (den cl G C W a)) :
    PI X tg (.Call (.Name "range" p) [xa] [] pos) (denI X cl G C W (.rng1 a)) := by
  refine pi_w (pi_range1 (g.gl _ hg) (g.blt _ hb) (pa_cons ha pa_nil (star_one hs _ _)) (star_one hs _ _)) fun σ H R ⟨I, m, ρ, s, hf, si, rs, o⟩ => ?_
  simp only [evSrc] at o
  refine ⟨I, m, ρ, s, hf, si, rs, OutR.first o fun u s1 I1 m1 H1 x hf1 e1 si1 r1 o1 => ?_⟩
  cases u with
  | v t =>
    cases t with
    | int j =>
      simp only at o1
      split at o1
      · rename_i hj
        have hj := rng_of hj
        exact ⟨j, by rw [show x = V.int j from r1], hj.1, hj.2, o1 I1 m1 H1 _ hf1 Ext.refl si1 trivial H1 (.inl rfl) (it_range 0 j.toNat).ok⟩
      · exact o1.elim
    | _ => exact o1.elim
  | _ => exact o1.elim
theorem s_rng2 (g : Good cl G C k c X W) {tg xa xb : Expr} {a b : E} {p pos : Pos} (hg : glB c.sc "range" = true) (hb : (("range" : Str) ∈ c.blt)) (hs : isStar xa = false) (hs2 : isStar xb = false) (ha : PE X xa (den cl G C W a)) (hb2 : PE X xb (den cl G C W b)) :
    PI X tg (.Call (.Name "range" p) [xa, xb] [] pos) (denI X cl G C W (.rng2 a b)) := by
  refine pi_w (pi_range2 (g.gl _ hg) (g.blt _ hb) (pa_cons ha (pa_cons hb2 pa_nil (star_one hs2 _ _)) (star_one hs _ _)) (by rw [star_one hs, star_one hs2]; rfl) (star_one hs2 _ _)) fun σ H R ⟨I, m, ρ, s, hf, si, rs, o⟩ => ?_
  simp only [evSrc] at o
  refine ⟨I, m, ρ, s, hf, si, rs, OutR.first o fun u s1 I1 m1 H1 x hf1 e1 si1 r1 o1 => ?_⟩
  refine ⟨I1, m1, ρ, s1, hf1, si1, rs.mono e1, OutR.first o1 fun w s2 I2 m2 H2 y hf2 e2 si2 r2 o2 => ?_⟩
  cases u with
  | v t =>
    cases w with
    | v t' =>
      cases t with
      | int i =>
        cases t' with
        | int j =>
          simp only at o2
          split at o2
          · rename_i hj
            rw [Bool.and_eq_true] at hj
            have h1 := rng_of hj.1
            have h2 := rng_of hj.2
            exact ⟨i, j, by rw [show x = V.int i from r1, show y = V.int j from r2], ⟨h1.1, h1.2, h2.1, h2.2⟩, o2 I2 m2 H2 _ hf2 Ext.refl si2 trivial H2 (.inl rfl) (it_range i _).ok⟩
          · exact o2.elim
        | _ => exact o2.elim
      | _ => exact o2.elim
    | _ => cases t <;> exact o2.elim
  | _ => exact o2.elim
/-- a list, a tuple, a text, a dict (locked here): what walks it -/
def rIt (X : Cx) : V → Hp → (It → Hp → Prop) → Prop := fun x H R => (∃ a, x = .ref a ∧ (∃ xs, SqL X.K H a xs) ∧ R (Itl X.K a) H) ∨ (∃ a, x = .ref a ∧ (∃ xs, SqT X.K H a xs) ∧ R (Itt X.K a) H) ∨ (∃ z, x = .str z ∧ R (Its z) H) ∨
  ∃ d kvs, x = .ref d ∧ ((H d = some (.dK kvs) ∧ ∀ od, (∀ o' u', X.H_0 d ≠ some (.frz o' u')) → R (Itk d od kvs) (upd H d (.frz od (.dK kvs)))) ∨ ∃ od, H d = some (.frz od (.dK kvs)) ∧ R (Itk d od kvs) H)
theorem it_keys {tg : Expr} {pins : List (Addr × Obj)} {σ : St} {H : Hp} {s : Shared} {R : It → Hp → Prop} {d : Addr} {od : Obj} {kvs : List (Key × V)} {E : Value → Shared → Prop} (J : Inv X pins σ H s) (h : H d = some (.frz od (.dK kvs))) (q : R (Itk d od kvs) H) : wpAny (model X.prog X.w) X.A (pyIter (.ref d)) (PIE X pins σ tg R) E s := by
  obtain ⟨n1, n2, n3, es, ep, vs, n4, n5, _, _⟩ := J.frzK h
  refine iter_keys n1 n2 n3 n4 (pi_one (tk := s.toks) J _ (turn_keys _ n4) ⟨_, Heap.get?_push_size _ rfl, rfl, ?_⟩ q)
  rw [n5]
  rfl
theorem pi_seq {tg e : Expr} {te : TE} (he : PE X e te) : PI X tg e (fun σ H R => te σ H fun x H1 => rIt X x H1 R) := by
  refine ⟨fun pins s σ H R J h => thn (he.run pins s σ H _ J h) fun v s1 ⟨x, H1, J1, r1, q⟩ => ?_⟩
  rcases q with ⟨a, rfl, ⟨xs, hq⟩, q⟩ | ⟨a, rfl, ⟨xs, hq⟩, q⟩ | ⟨z, rfl, q⟩ | ⟨d, kvs, rfl, ⟨hd, q⟩ | ⟨od, hd, q⟩⟩
  · cases (show v = Value.ref a from r1)
    obtain ⟨us, _, pl, _⟩ := J1.list hq
    exact wpAny_pyIter_list pl.isList (pi_one (tk := s1.toks) J1 _ (turn_list a _) ⟨_, Heap.get?_push_size _ rfl, rfl, rfl⟩ q)
  · cases (show v = Value.ref a from r1)
    obtain ⟨us, _, pl, _⟩ := J1.tuple hq
    exact wpAny_pyIter_tuple (show s1.heap.IsTuple a us.toArray from pl) (pi_one (tk := s1.toks) J1 _ (turn_tuple a _) ⟨_, Heap.get?_push_size _ rfl, rfl, rfl⟩ q)
  · obtain ⟨t, rfl⟩ := r1
    by_cases as : z.cps.all (· < 128) = true
    · exact wpAny_pyIter_ascii as (pi_one (tk := s1.toks) J1 _ (turn_str _ z t "str_ascii_iterator" (.inl rfl)) ⟨_, Heap.get?_push_size _ rfl, rfl, rfl⟩ q)
    · exact wpAny_pyIter_wide (Bool.not_eq_true _ ▸ as) (pi_one (tk := s1.toks) J1 _ (turn_str _ z t "str_iterator" (.inr rfl)) ⟨_, Heap.get?_push_size _ rfl, rfl, rfl⟩ q)
  · cases (show v = Value.ref d from r1)
    obtain ⟨od, J2⟩ := J1.lock hd trivial
    exact it_keys J2 upd_same (q od (J1.nofrz hd trivial))
  · cases (show v = Value.ref d from r1)
    exact it_keys J1 hd q
/-- the value is a dict, from here on locked -/
def tLk (X : Cx) (te : TE) : TE := fun σ H Q => te σ H fun x H1 => ∃ d kvs, x = .ref d ∧ ((H1 d = some (.dK kvs) ∧ ∀ od, (∀ o' u', X.H_0 d ≠ some (.frz o' u')) → Q x (upd H1 d (.frz od (.dK kvs)))) ∨ ∃ od, H1 d = some (.frz od (.dK kvs)) ∧ Q x H1)
theorem pe_lk {e : Expr} {te : TE} (he : PE X e te) : PE X e (tLk X te) := by
  refine ⟨fun pins s σ H Q J h => thn (he.run pins s σ H _ J h) fun v s1 ⟨x, H1, J1, r1, d, kvs, e1, q⟩ => ?_⟩
  rcases q with ⟨hd, q⟩ | ⟨od, hd, q⟩
  · obtain ⟨od, J2⟩ := J1.lock hd trivial
    exact ⟨x, _, J2, r1, q od (J1.nofrz hd trivial)⟩
  · exact ⟨x, _, J1, r1, q⟩
theorem it_lst {K : PySem.W.Frag} {I : Hp} {m : List Addr} {H : Hp} {a : Addr} {vs : List V} {xs : List U} (hI : I a = some (.lst vs)) (r : RelUs I m xs vs) : ItL cl (Itl K a) I m H xs := by
  intro I1 m1 s1 H1 hf e si i
  have h1 : SqL K H1 a vs := .inl (si.sub _ _ (e.i _ _ hI))
  have r1 := RelUs.mono e.i e.mm r
  refine ⟨fun u hu => ?_, fun hu => ⟨vs, h1, ?_⟩⟩
  · obtain ⟨v, hv, rv⟩ := relUs_at r1 hu
    refine ⟨⟨vs, v, h1, hv⟩, fun x H2 y => ?_⟩
    obtain ⟨rfl, y⟩ := y
    have := y vs h1
    rw [hv] at this
    cases this
    exact ⟨I1, hf, Ext.refl, si, rv⟩
  · rw [← relUs_len r1]
    exact List.getElem?_eq_none_iff.mp hu
theorem it_tup {K : PySem.W.Frag} {I : Hp} {m : List Addr} {H : Hp} {a : Addr} {vs : List V} {xs : List U} (hI : I a = some (.tup vs)) (r : RelUs I m xs vs) : ItL cl (Itt K a) I m H xs := by
  intro I1 m1 s1 H1 hf e si i
  have h1 : SqT K H1 a vs := .inl (si.sub _ _ (e.i _ _ hI))
  have r1 := RelUs.mono e.i e.mm r
  refine ⟨fun u hu => ?_, fun hu => ⟨vs, h1, ?_⟩⟩
  · obtain ⟨v, hv, rv⟩ := relUs_at r1 hu
    refine ⟨⟨vs, v, h1, hv⟩, fun x H2 y => ?_⟩
    obtain ⟨rfl, y⟩ := y
    have := y vs h1
    rw [hv] at this
    cases this
    exact ⟨I1, hf, Ext.refl, si, rv⟩
  · rw [← relUs_len r1]
    exact List.getElem?_eq_none_iff.mp hu
/-- a list of the store, as it stands at each turn -/
theorem it_ref {K : PySem.W.Frag} {I : Hp} {m : List Addr} {H : Hp} {a : Addr} {i : Nat} (hm : m[i]? = some a) : ItOK cl (Itl K a) I m H (.at i) := by
  intro I1 m1 s1 H1 hf e si k o ho
  simp only [wkAt] at ho
  have hm1 : m1[i]? = some a := by
    obtain ⟨t, rfl⟩ := e.mm
    exact get_app hm
  cases es : s1[i]? with
  | none =>
    rw [es] at ho
    cases ho
  | some ob =>
    rw [es] at ho
    obtain ⟨b, ho', eb, e2, e3, e4⟩ := si.at (show RelU I1 m1 (.ref i) (.ref a) from ⟨a, hm1, rfl⟩) es
    cases eb
    cases ob with
    | lst us =>
      obtain ⟨vs, rfl, h2⟩ := e4
      simp only [Option.some.injEq] at ho
      subst ho
      have h1 : SqL K H1 a vs := .inl (.inl e3)
      refine ⟨fun u hu => ?_, fun hu => ⟨vs, h1, ?_⟩⟩
      · obtain ⟨v, hv, rv⟩ := relUs_at h2 hu
        refine ⟨⟨vs, v, h1, hv⟩, fun x H2 y => ?_⟩
        obtain ⟨rfl, y⟩ := y
        have := y vs h1
        rw [hv] at this
        cases this
        exact ⟨I1, hf, Ext.refl, si, rv⟩
      · rw [← relUs_len h2]
        exact List.getElem?_eq_none_iff.mp hu
    | dct kvs => cases ho
    | ins q fs => cases ho
theorem it_str {I : Hp} {m : List Addr} {H : Hp} {z : List Nat} : ItL cl (Its (mkS z)) I m H (z.map fun q => .v (.str [q])) := by
  intro I1 m1 s1 H1 hf e si i
  have hc : ∀ j, (mkS z).cps[j]? = z[j]? := fun j => by
    rw [← Array.getElem?_toList, mkS_toList]
  rw [List.getElem?_map]
  have hz : (mkS z).cps.size = z.length := mkS_len z
  refine ⟨fun u hu => ?_, fun hu => ?_⟩
  · cases ez : z[i]? with
    | none =>
      rw [ez] at hu
      cases hu
    | some q =>
      rw [ez] at hu
      cases hu
      refine ⟨by show i < (mkS z).cps.size; rw [hz]; exact (List.getElem?_eq_some_iff.mp ez).1, fun x H2 y => ?_⟩
      obtain ⟨rfl, d, e1, rfl⟩ := y
      rw [hc, ez] at e1
      cases e1
      exact ⟨I1, hf, Ext.refl, si, ⟨rfl, by show 1 ≤ LIM; decide⟩⟩
  · show (mkS z).cps.size ≤ i
    rw [hz]
    cases ez : z[i]? with
    | none => exact List.getElem?_eq_none_iff.mp ez
    | some q =>
      rw [ez] at hu
      cases hu
theorem relK_iat {I : Hp} : ∀ {t : List (Ky × T)} {v : List (Key × V)} {i : Nat} {p : Ky × T}, RelK I t v → t[i]? = some p → ∃ x, v[i]? = some (kyK p.1, x) ∧ kyB p.1 ∧ Rel I p.2 x
  | [], _, i, p, h, e => by simp at e
  | (_, _) :: ts, _, i, p, h, e => by
    obtain ⟨v, r, rfl, h1, h2⟩ := h
    cases i with
    | zero =>
      cases e
      exact ⟨v, rfl, h1.1, h1.2⟩
    | succ i => exact relK_iat (t := ts) (i := i) h2 e
theorem ky_rel {I : Hp} {q : Ky} (h : kyB q) : Rel I (kyT q) (kV (kyK q)) := by
  cases q with
  | i n => rfl
  | s x => exact ⟨rfl, h⟩
/-- in a locked dict -/
theorem it_dct {I : Hp} {m : List Addr} {H : Hp} {d : Addr} {od : Obj} {ws : List (Key × V)} {kvs : List (Ky × T)} (hd : H d = some (.frz od (.dK ws))) (dm : d ∉ m) (r : RelK I kvs ws) :
    ItL cl (Itk d od ws) I m H (kvs.map fun p => .v (kyT p.1)) ∧ ItL cl (Itd d od ws) I m H (kvs.map fun p => .v p.2) ∧ ItL cl (Iti d od ws) I m H (kvs.map fun p => .v (.tup [kyT p.1, p.2])) := by
  have st : ∀ {I1 m1 H1}, Ext I m H I1 m1 H1 → H1 d = some (.frz od (.dK ws)) := fun e => by
    rw [e.fr d (by rw [hd]; simp) dm]
    exact hd
  have hl := relK_len r
  refine ⟨fun I1 m1 s1 H1 hf e si i => ?_, fun I1 m1 s1 H1 hf e si i => ?_, fun I1 m1 s1 H1 hf e si i => ?_⟩
  · have h1 := st e
    have r1 := RelK.mono e.i r
    rw [List.getElem?_map]
    refine ⟨fun u hu => ?_, fun hu => ⟨h1, ?_⟩⟩
    · obtain ⟨p, hp, rfl⟩ := Option.map_eq_some_iff.mp hu
      obtain ⟨v, hv, hb, rv⟩ := relK_iat r1 hp
      refine ⟨⟨h1, (List.getElem?_eq_some_iff.mp hv).1⟩, fun x H2 y => ?_⟩
      obtain ⟨rfl, q, w, y1, rfl⟩ := y
      rw [hv] at y1
      cases y1
      exact ⟨I1, hf, Ext.refl, si, ky_rel hb⟩
    · rw [← hl]
      exact List.getElem?_eq_none_iff.mp (Option.map_eq_none_iff.mp hu)
  · have h1 := st e
    have r1 := RelK.mono e.i r
    rw [List.getElem?_map]
    refine ⟨fun u hu => ?_, fun hu => ⟨h1, ?_⟩⟩
    · obtain ⟨p, hp, rfl⟩ := Option.map_eq_some_iff.mp hu
      obtain ⟨v, hv, hb, rv⟩ := relK_iat r1 hp
      refine ⟨⟨h1, (List.getElem?_eq_some_iff.mp hv).1⟩, fun x H2 y => ?_⟩
      obtain ⟨rfl, q, y1⟩ := y
      rw [hv] at y1
      cases y1
      exact ⟨I1, hf, Ext.refl, si, rv⟩
    · rw [← hl]
      exact List.getElem?_eq_none_iff.mp (Option.map_eq_none_iff.mp hu)
  · have h1 := st e
    have r1 := RelK.mono e.i r
    rw [List.getElem?_map]
    refine ⟨fun u hu => ?_, fun hu => ⟨h1, ?_⟩⟩
    · obtain ⟨p, hp, rfl⟩ := Option.map_eq_some_iff.mp hu
      obtain ⟨v, hv, hb, rv⟩ := relK_iat r1 hp
      refine ⟨⟨h1, (List.getElem?_eq_some_iff.mp hv).1⟩, fun x H2 y => ?_⟩
      obtain ⟨T, q, w, y1, rfl, y3, rfl⟩ := y
      rw [hv] at y1
      cases y1
      obtain ⟨si2, e2⟩ := sim_new (ho := .tup [kV (kyK p.1), v]) si y3 fun _ _ e => nomatch e
      refine ⟨_, hf.tup (by show 2 ≤ sizeLine; decide), e2, si2, T, [kV (kyK p.1), v], rfl, upd_same, _, _, rfl, ky_rel hb, _, _, rfl, Rel.mono e2.i rv, rfl⟩
    · rw [← hl]
      exact List.getElem?_eq_none_iff.mp (Option.map_eq_none_iff.mp hu)
theorem dct_m {I : Hp} {m : List Addr} {s : Store} {H : Hp} (si : Sim cl I m s H) {a : Addr} {o : HO} (h : I a = some o) : a ∉ m := fun z => by
  have := si.sep a z
  rw [h] at this
  cases this
theorem s_it {tg xa : Expr} {a : E} (ha : PE X xa (den cl G C W a)) : PI X tg xa (denI X cl G C W (.it a)) := by
  refine pi_w (pi_seq ha) fun σ H R ⟨I, m, ρ, s, hf, si, rs, o⟩ => ?_
  simp only [evSrc] at o
  refine ⟨I, m, ρ, s, hf, si, rs, OutR.first o fun u s1 I1 m1 H1 x hf1 e1 si1 r1 o1 => ?_⟩
  cases u with
  | v t =>
    cases t with
    | lst xs =>
      obtain ⟨b, vs, rfl, h1, h2⟩ := r1
      exact .inl ⟨b, rfl, ⟨vs, .inl (si1.sub _ _ h1)⟩, o1 I1 m1 H1 (Itl X.K b) hf1 Ext.refl si1 trivial H1 (.inl rfl) (it_lst h1 (relUs_v h2)).ok⟩
    | tup xs =>
      obtain ⟨b, vs, rfl, h1, h2⟩ := r1
      exact .inr (.inl ⟨b, rfl, ⟨vs, .inl (si1.sub _ _ h1)⟩, o1 I1 m1 H1 (Itt X.K b) hf1 Ext.refl si1 trivial H1 (.inl rfl) (it_tup h1 (relUs_v h2)).ok⟩)
    | str z => exact .inr (.inr (.inl ⟨_, r1.1, o1 I1 m1 H1 (Its (mkS z)) hf1 Ext.refl si1 trivial H1 (.inl rfl) it_str.ok⟩))
    | dct kvs =>
      obtain ⟨d, ws, rfl, h1, h2⟩ := r1
      have dm := dct_m si1 h1
      refine .inr (.inr (.inr ⟨d, ws, rfl, ?_⟩))
      rcases si1.sub _ _ h1 with z | ⟨od, z⟩
      · refine .inl ⟨z, fun od nz => ?_⟩
        exact o1 I1 m1 H1 (Itk d od ws) hf1 Ext.refl si1 trivial _ (.inr ⟨d, od, ws, z, dm, rfl, nz⟩) (it_dct upd_same dm h2).1.ok
      · exact .inr ⟨od, z, o1 I1 m1 H1 (Itk d od ws) hf1 Ext.refl si1 trivial H1 (.inl rfl) (it_dct z dm h2).1.ok⟩
    | _ => exact o1.elim
  | tup us =>
    obtain ⟨b, vs, rfl, h1, h2⟩ := r1
    exact .inr (.inl ⟨b, rfl, ⟨vs, .inl (si1.sub _ _ h1)⟩, o1 I1 m1 H1 (Itt X.K b) hf1 Ext.refl si1 trivial H1 (.inl rfl) (it_tup h1 h2).ok⟩)
  | ref i =>
    simp only [wkU] at o1
    cases es : s1[i]? with
    | none =>
      rw [es] at o1
      exact o1.elim
    | some ob =>
      rw [es] at o1
      obtain ⟨b, ho, rfl, e2, e3, e4⟩ := si1.at r1 es
      cases ob with
      | lst us =>
        obtain ⟨vs, rfl, h2⟩ := e4
        exact .inl ⟨b, rfl, ⟨vs, .inl (.inl e3)⟩, o1 I1 m1 H1 (Itl X.K b) hf1 Ext.refl si1 trivial H1 (.inl rfl) (it_ref e2)⟩
      | dct kvs => exact o1.elim
      | ins q fs => exact o1.elim
theorem s_items {xs : List Expr} {j : Nat} {p1 apos cpos : Pos} {xa : Expr} {a : E} (hline : (apos.endLine == cpos.line) = true) (hb0 : noBare xa = true) (ha : PE X xa (den cl G C W a)) : PI X (.Tuple xs j p1) (.Call (.Attribute xa "items" apos) [] [] cpos) (denI X cl G C W (.items a)) := by
  refine pi_w (pi_items (pe_lk ha) (base_of (noBare_of hb0) _) hline) fun σ H R ⟨I, m, ρ, s, hf, si, rs, o⟩ => ?_
  simp only [evSrc] at o
  refine ⟨I, m, ρ, s, hf, si, rs, OutR.first o fun u s1 I1 m1 H1 x hf1 e1 si1 r1 o1 => ?_⟩
  cases u with
  | v t =>
    cases t with
    | dct kvs =>
      obtain ⟨d, ws, rfl, h1, h2⟩ := r1
      have dm := dct_m si1 h1
      refine ⟨d, ws, rfl, ?_⟩
      rcases si1.sub _ _ h1 with z | ⟨od, z⟩
      · refine .inl ⟨z, fun od nz => ⟨d, od, ws, rfl, upd_same, ?_⟩⟩
        exact o1 I1 m1 H1 (Iti d od ws) hf1 Ext.refl si1 trivial _ (.inr ⟨d, od, ws, z, dm, rfl, nz⟩) (it_dct upd_same dm h2).2.2.ok
      · exact .inr ⟨od, z, d, od, ws, rfl, z, o1 I1 m1 H1 (Iti d od ws) hf1 Ext.refl si1 trivial H1 (.inl rfl) (it_dct z dm h2).2.2.ok⟩
    | _ => exact o1.elim
  | _ => exact o1.elim
theorem s_values {tg : Expr} {apos cpos : Pos} {xa : Expr} {a : E} (hline : (apos.endLine == cpos.line) = true) (hb0 : noBare xa = true) (ha : PE X xa (den cl G C W a)) : PI X tg (.Call (.Attribute xa "values" apos) [] [] cpos) (denI X cl G C W (.values a)) := by
  refine pi_w (pi_values (pe_lk ha) (base_of (noBare_of hb0) _) hline) fun σ H R ⟨I, m, ρ, s, hf, si, rs, o⟩ => ?_
  simp only [evSrc] at o
  refine ⟨I, m, ρ, s, hf, si, rs, OutR.first o fun u s1 I1 m1 H1 x hf1 e1 si1 r1 o1 => ?_⟩
  cases u with
  | v t =>
    cases t with
    | dct kvs =>
      obtain ⟨d, ws, rfl, h1, h2⟩ := r1
      have dm := dct_m si1 h1
      refine ⟨d, ws, rfl, ?_⟩
      rcases si1.sub _ _ h1 with z | ⟨od, z⟩
      · refine .inl ⟨z, fun od nz => ⟨d, od, ws, rfl, upd_same, ?_⟩⟩
        exact o1 I1 m1 H1 (Itd d od ws) hf1 Ext.refl si1 trivial _ (.inr ⟨d, od, ws, z, dm, rfl, nz⟩) (it_dct upd_same dm h2).2.1.ok
      · exact .inr ⟨od, z, d, od, ws, rfl, z, o1 I1 m1 H1 (Itd d od ws) hf1 Ext.refl si1 trivial H1 (.inl rfl) (it_dct z dm h2).2.1.ok⟩
    | _ => exact o1.elim
  | _ => exact o1.elim
end
end Cab

set_option Elab.async false
set_option linter.all false
set_option maxRecDepth 100000
set_option maxHeartbeats 4000000
namespace Cab
open PySem PySem.Spec PyProof.Rows L2
theorem lcGo_ok {step : U → Store → R (Option U)} {w : Wk} : ∀ {f k : Nat} {acc : List U} {s : Store}, (∃ us s', lcGo step w f k acc s = .ok us s' ∧ acc.length ≤ us.length) ∨ lcGo step w f k acc s = .bad
  | 0, k, acc, s => by
    unfold lcGo
    cases wkAt w s k with
    | none => exact .inr rfl
    | some o =>
      cases o with
      | none => exact .inl ⟨acc, s, rfl, Nat.le_refl _⟩
      | some u => exact .inr rfl
  | f + 1, k, acc, s => by
    unfold lcGo
    cases wkAt w s k with
    | none => exact .inr rfl
    | some o =>
      cases o with
      | none => exact .inl ⟨acc, s, rfl, Nat.le_refl _⟩
      | some x =>
        simp only
        cases step x s with
        | ok o s' =>
          cases o with
          | none => exact lcGo_ok
          | some u =>
            rcases lcGo_ok (step := step) (w := w) (f := f) (k := k + 1) (acc := acc ++ [u]) (s := s') with ⟨us, s2, h1, h2⟩ | h
            · exact .inl ⟨us, s2, h1, by rw [List.length_append] at h2; simp at h2; omega⟩
            · exact .inr h
        | exc q s' => exact .inr rfl
        | bad => exact .inr rfl
theorem upd_self {H : Hp} {p : Addr} {ho : HO} (h : H p = some ho) : upd H p ho = H := by
  funext a
  by_cases e : a = p
  · subst e
    rw [upd_same, h]
  · rw [upd_ne e]
section
variable {cl : Nat → Addr} {G : Glo} {C : Call} {k : Nat} {c : MC} {X : Cx} {W : WX}
/-- what was locked is let free -/
def tUl (X : Cx) (t : TE) : TE := fun σ H Q => t σ H fun v H' => ∃ H2, Ul X H' H2 ∧ Q v H2
theorem pe_ul {e : Expr} {t : TE} (h : PE X e t) : PE X e (tUl X t) := by
  refine ⟨fun pins s σ H Q J q => thn (h.run pins s σ H _ J q) fun u s1 ⟨v, H', J1, r, H2, l, z⟩ => ?_⟩
  rcases l with rfl | ⟨d, od, kvs, e1, rfl, nz⟩
  · exact ⟨v, _, J1, r, z⟩
  · exact ⟨v, _, J1.unlock e1 nz, r, z⟩
/-- a block's turn -/
def LcB (cl : Nat → Addr) (ρ : Env) (σ : St) (own : List Nat) (step : U → Store → R (Option U)) (g : TG) (tt : TT) (te : TE) : Prop := ∀ (u : U) (x : V) (I : Hp) (m : List Addr) (s : Store) (H : Hp) (Qs : V → Hp → Prop) (Qn : Hp → Prop), HF H → Sim cl I m s H → RelS I m ρ σ → RelU I m u x →
  (match step u s with
    | .ok (some w) s' => ∀ I' m' H' y, HF H' → Ext I m H I' m' H' → Sim cl I' m' s' H' → RelU I' m' w y → Qs y H'
    | .ok none s' => ∀ I' m' H', HF H' → Ext I m H I' m' H' → Sim cl I' m' s' H' → Qn H'
    | _ => False) → g x (wipe σ own) H fun σ2 H2 => wipe σ2 own = wipe σ own ∧ tt σ2 H2 fun b H3 => if b = true then te σ2 H3 Qs else Qn H3
theorem lc_ok {ρ : Env} {σ : St} {own : List Nat} {step : U → Store → R (Option U)} {g : TG} {tt : TT} {te : TE} (hb : LcB cl ρ σ own step g tt te) {I1 : Hp} {m1 : List Addr} {s1 : Store} {H1 HL : Hp} {J : It} {w : Wk} {n0 : Nat} {FinP : List U → Store → Prop} {Q : VK}
    (hf : HF H1) (si : Sim cl I1 m1 s1 H1) (rs : RelS I1 m1 ρ σ) (lk : Lk X m1 H1 HL) (it : ItOK cl J I1 m1 HL w) (run : ∃ us s', lcGo step w n0 0 [] s1 = .ok us s' ∧ FinP us s') (hlen : ∀ us s', FinP us s' → us.length ≤ LIM)
    (fin : ∀ us s' I m H D vs, FinP us s' → HF H → Ext I1 m1 H1 I m H → Sim cl I m s' H → H D = some (.lst vs) → RelUs I m us vs → I D = none → D ∉ m → H1 D = none → Q (.ref D) H) :
    ∀ D, HL D = none → ∃ W : Nat → Nat → Hp → Prop, (∃ m, W 0 m (upd HL D (.lst []))) ∧ ∀ i m H, W i m H →
      (J.stop i H ∧ ∃ H2, Ul X H H2 ∧ Q (.ref D) H2) ∨ (J.go i H ∧ ∃ Nx : Hp → Prop, (∀ H', Nx H' → ∃ m', m' < m ∧ W (i + 1) m' H') ∧ ∀ x H', J.yld i H x H' → g x (wipe σ own) H' fun σ2 H2 => wipe σ2 own = wipe σ own ∧ tt σ2 H2 fun b H3 =>
        if b = true then te σ2 H3 fun y H4 => ∃ acc, H4 D = some (.lst acc) ∧ acc.length < sizeLine ∧ Nx (upd H4 D (.lst (acc ++ [y]))) else Nx H3) := by
  intro D hD
  have hfL := lk.hf hf
  have siL := lk.sim si
  have ID : I1 D = none := sub_none siL hD
  have mD : D ∉ m1 := mem_free siL hD
  have hD1 : H1 D = none := lk.none.mp hD
  refine ⟨fun i n H => ∃ I m s acc vs, HF H ∧ Ext I1 m1 HL I m H ∧ Sim cl I m s H ∧ H D = some (.lst vs) ∧ RelUs I m acc vs ∧ I D = none ∧ D ∉ m ∧ ∃ us s', lcGo step w n i acc s = .ok us s' ∧ FinP us s', ?_, ?_⟩
  · refine ⟨n0, I1, m1, s1, [], [], hfL.lst (Nat.zero_le _), ext_over Ext.refl hD, sim_over siL ID mD, upd_same, rfl, ID, mD, ?_⟩
    exact run
  · rintro i n H ⟨I, m, s, acc, vs, hf2, e2, si2, hv, rv, pI, pm, us, s', run2, fp⟩
    have iti := it I m s H hf2 e2 si2 i
    cases ew : wkAt w s i with
    | none =>
      cases n with
      | zero =>
        unfold lcGo at run2
        rw [ew] at run2
        cases run2
      | succ n =>
        unfold lcGo at run2
        rw [ew] at run2
        cases run2
    | some o =>
      have iti := iti o ew
      cases o with
      | some x0 =>
        obtain ⟨go, yl⟩ := iti.1 _ rfl
        cases n with
        | zero =>
          unfold lcGo at run2
          rw [ew] at run2
          cases run2
        | succ n =>
        unfold lcGo at run2
        rw [ew] at run2
        simp only at run2
        refine .inr ⟨go, fun H' => ∃ I m s acc vs, HF H' ∧ Ext I1 m1 HL I m H' ∧ Sim cl I m s H' ∧ H' D = some (.lst vs) ∧ RelUs I m acc vs ∧ I D = none ∧ D ∉ m ∧ ∃ us s', lcGo step w n (i + 1) acc s = .ok us s' ∧ FinP us s', ?_, ?_⟩
        · rintro H' ⟨I', m', s2, acc', vs', h2⟩
          exact ⟨n, Nat.lt_succ_self _, I', m', s2, acc', vs', h2⟩
        · intro x H' y
          obtain ⟨I2, hf3, e3, si3, r3⟩ := yl x H' y
          have st := e3.apart (p := D) (by rw [hv]; simp) pI pm
          refine hb x0 x I2 m s H' _ _ hf3 si3 ((rs.mono e2).mono e3) r3 ?_
          cases es : step x0 s with
          | ok o s3 =>
            rw [es] at run2
            cases o with
            | none =>
              simp only at run2
              intro I4 m4 H4 hf4 e4 si4
              have st4 := e4.apart (p := D) (by rw [st.2.2, hv]; simp) st.1 st.2.1
              exact ⟨I4, m4, s3, acc, vs, hf4, (e2.trans e3).trans e4, si4, by rw [st4.2.2, st.2.2, hv], RelUs.mono e4.i e4.mm (RelUs.mono e3.i e3.mm rv), st4.1, st4.2.1, us, s', run2, fp⟩
            | some z =>
              simp only at run2
              intro I4 m4 H4 y4 hf4 e4 si4 r4
              have st4 := e4.apart (p := D) (by rw [st.2.2, hv]; simp) st.1 st.2.1
              have rv4 := RelUs.mono e4.i e4.mm (RelUs.mono e3.i e3.mm rv)
              have hl : acc.length < LIM := by
                rcases lcGo_ok (step := step) (w := w) (f := n) (k := i + 1) (acc := acc ++ [z]) (s := s3) with ⟨us2, s4, h1, h2⟩ | h
                · rw [h1] at run2
                  cases run2
                  have := hlen _ _ fp
                  rw [List.length_append] at h2
                  simp at h2
                  omega
                · rw [h] at run2
                  cases run2
              have hl2 : vs.length < sizeLine := by rw [← relUs_len rv, line_LIM]; exact hl
              refine ⟨vs, by rw [st4.2.2, st.2.2, hv], hl2, I4, m4, s3, acc ++ [z], vs ++ [y4], hf4.lst (by rw [List.length_append]; simp; omega), ext_over ((e2.trans e3).trans e4) hD, sim_over si4 st4.1 st4.2.1, upd_same, relUs_app rv4 ⟨y4, [], rfl, r4, rfl⟩, st4.1, st4.2.1, us, s', run2, fp⟩
          | exc q s3 =>
            rw [es] at run2
            cases run2
          | bad =>
            rw [es] at run2
            cases run2
      | none =>
        refine .inl ⟨iti.2 rfl, ?_⟩
        have run3 : R.ok acc s = R.ok us s' := by
          cases n with
          | zero =>
            unfold lcGo at run2
            rw [ew] at run2
            exact run2
          | succ n =>
            unfold lcGo at run2
            rw [ew] at run2
            exact run2
        cases run3
        obtain ⟨H2, ul, e5, si5, hf5, xd⟩ := lk.back e2 si2 hf2
        have hv2 : H2 D = some (.lst vs) := by
          rcases ul with rfl | ⟨d, od, kvs, h1, rfl, _⟩
          · exact hv
          · rw [upd_ne (fun z => by rw [z, h1] at hv; cases hv)]
            exact hv
        exact ⟨H2, ul, fin acc s I m H2 D vs fp hf5 e5 si5 hv2 rv pI pm hD1⟩
/-! ### the readings of a block -/
theorem lcB_plain {ρ : Env} {σ : St} {own : List Nat} {tg : Tgt} {elt : E} (hown : ∀ i ∈ tgS tg, i ∈ own) : LcB cl ρ σ own (fun x s => (match bindT tg x (wipeE ρ own) with
    | some ρ' => (ev G C elt ρ' s).bind fun u s => .ok (some u) s
    | none => .bad)) (tgG X.K tg) tYes (den cl G C (fun _ _ _ _ => False) elt) := by
  intro u x I m s H Qs Qn hf si rs r o
  simp only at o
  cases eb : bindT tg u (wipeE ρ own) with
  | none =>
    rw [eb] at o
    exact o.elim
  | some ρ' =>
    rw [eb] at o
    simp only at o
    refine tg_ok si (rs.wipe own) r eb fun σ' rs' hl hj => ⟨?_, ?_⟩
    · refine wipe_eq (by rw [hl, wipe_len]) fun j hn => ?_
      rw [hj j fun z => hn (hown j z), wipe_get σ own hn]
    · show den cl G C (fun _ _ _ _ => False) elt σ' H Qs
      refine ⟨I, m, ρ', s, hf, si, rs', ?_⟩
      cases ee : ev G C elt ρ' s with
      | ok w s' =>
        rw [ee] at o
        simp only [R.bind] at o
        exact fun I' m' H' y => o I' m' H' y
      | exc q s' =>
        rw [ee] at o
        exact o.elim
      | bad =>
        rw [ee] at o
        exact o.elim
theorem lcB_if {ρ : Env} {σ : St} {own : List Nat} {tg : Tgt} {q elt : E} (hown : ∀ i ∈ tgS tg, i ∈ own) : LcB cl ρ σ own (fun x s => (match bindT tg x (wipeE ρ own) with
    | some ρ' => (ev G C q ρ' s).bind fun b s => (match truth s b with
      | some true => (ev G C elt ρ' s).bind fun u s => .ok (some u) s
      | some false => .ok none s
      | none => .bad)
    | none => .bad)) (tgG X.K tg) (denT cl G C (fun _ _ _ _ => False) q) (den cl G C (fun _ _ _ _ => False) elt) := by
  intro u x I m s H Qs Qn hf si rs r o
  simp only at o
  cases eb : bindT tg u (wipeE ρ own) with
  | none =>
    rw [eb] at o
    exact o.elim
  | some ρ' =>
    rw [eb] at o
    simp only at o
    refine tg_ok si (rs.wipe own) r eb fun σ' rs' hl hj => ⟨?_, ?_⟩
    · refine wipe_eq (by rw [hl, wipe_len]) fun j hn => ?_
      rw [hj j fun z => hn (hown j z), wipe_get σ own hn]
    · refine ⟨I, m, ρ', s, hf, si, rs', ?_⟩
      cases eq : ev G C q ρ' s with
      | ok w s1 =>
        rw [eq] at o
        simp only [R.bind] at o
        intro I1 m1 H1 y hf1 e1 si1 r1
        cases et : truth s1 w with
        | none =>
          rw [et] at o
          exact o.elim
        | some b =>
          rw [et] at o
          refine ⟨b, rfl, ?_⟩
          cases b with
          | false =>
            rw [if_neg Bool.false_ne_true]
            exact o I1 m1 H1 hf1 e1 si1
          | true =>
            rw [if_pos rfl]
            refine ⟨I1, m1, ρ', s1, hf1, si1, rs'.mono e1, ?_⟩
            simp only at o
            cases ee : ev G C elt ρ' s1 with
            | ok w s' =>
              rw [ee] at o
              simp only [R.bind] at o
              exact fun I' m' H' y h1 h2 => o I' m' H' y h1 (e1.trans h2)
            | exc q s' =>
              rw [ee] at o
              exact o.elim
            | bad =>
              rw [ee] at o
              exact o.elim
      | exc q s' =>
        rw [eq] at o
        exact o.elim
      | bad =>
        rw [eq] at o
        exact o.elim
/-- behind the source: the turns -/
theorem lc_src {e : E} {src : Src} {own : List Nat} {g : TG} {tt : TT} {te : TE} {step : Env → U → Store → R (Option U)} {fin : List U → Store → R U} (hb : ∀ ρ σ, LcB cl ρ σ own (step ρ) g tt te)
    (hev : ∀ ρ s, ev G C e ρ s = (evSrc G C src ρ s).bind fun w s => (lcGo (step ρ) w (wkLen w s) 0 [] s).bind fin) (hlen : ∀ us s, us.length ≤ LIM ∨ fin us s = .bad)
    (hfin : ∀ us s' I1 m1 H1 I m H D vs (σ : St) (Q : VK), OutR cl RelU W σ I1 m1 H1 (fin us s') (fun _ _ _ _ H x => Q x H) → HF H → Ext I1 m1 H1 I m H → Sim cl I m s' H → H D = some (.lst vs) → RelUs I m us vs → I D = none → D ∉ m → H1 D = none → Q (.ref D) H) :
    ∀ σ H Q, den cl G C W e σ H Q → tLc (denI X cl G C W src) g tt te own σ H fun v H' => ∃ H2, Ul X H' H2 ∧ Q v H2 := by
  rintro σ H Q ⟨I, m, ρ, s, hf, si, rs, o⟩
  rw [hev] at o
  refine ⟨I, m, ρ, s, hf, si, rs, OutR.first (rel := fun _ _ _ (_ : It) => True) o fun w s1 I1 m1 H1 J hf1 e1 si1 _ o1 => ?_⟩
  intro HL lk it
  rcases lcGo_ok (step := step ρ) (w := w) (f := wkLen w s1) (k := 0) (acc := []) (s := s1) with ⟨us, s2, h1, _⟩ | h
  · rw [h1] at o1
    simp only [R.bind] at o1
    refine lc_ok (FinP := fun us s' => OutR cl RelU W σ I1 m1 H1 (fin us s') (fun _ _ _ _ H x => Q x H)) (hb ρ σ) hf1 si1 (rs.mono e1) lk it ⟨us, s2, h1, o1⟩ (fun us s' fp => ?_) fun us s' I m H D vs fp => hfin us s' I1 m1 H1 I m H D vs σ Q fp
    rcases hlen us s' with h | h
    · exact h
    · rw [h] at fp
      exact fp.elim
  · rw [h] at o1
    exact o1.elim
theorem fin_lst {us : List U} {s' : Store} {I1 : Hp} {m1 : List Addr} {H1 : Hp} {I : Hp} {m : List Addr} {H : Hp} {D : Addr} {vs : List V} {σ : St} {Q : VK} (o : OutR cl RelU W σ I1 m1 H1 (if us.length ≤ LIM then okO ((optAll unV us).map fun ts => U.v (.lst ts)) s' else .bad) (fun _ _ _ _ H x => Q x H))
    (hf : HF H) (e : Ext I1 m1 H1 I m H) (si : Sim cl I m s' H) (hv : H D = some (.lst vs)) (rv : RelUs I m us vs) (pI : I D = none) (pm : D ∉ m) (hD : H1 D = none) : Q (.ref D) H := by
  split at o
  · cases ea : optAll unV us with
    | none =>
      rw [ea] at o
      exact o.elim
    | some ts =>
      rw [ea] at o
      have si2 := sim_own (ho := .lst vs) si pI pm fun _ _ e => nomatch e
      have e2 := ext_own (ho := .lst vs) e hD pI
      rw [upd_self hv] at si2 e2
      have hi : ∀ a o, I a = some o → upd I D (.lst vs) a = some o := fun a o h => by rw [upd_ne (fun z => by rw [z, pI] at h; cases h)]; exact h
      exact o _ _ _ _ hf e2 si2 ⟨D, vs, rfl, upd_same, RelL.mono hi (relL_of ea rv)⟩
  · exact o.elim
theorem fin_lstO {us : List U} {s' : Store} {I1 : Hp} {m1 : List Addr} {H1 : Hp} {I : Hp} {m : List Addr} {H : Hp} {D : Addr} {vs : List V} {σ : St} {Q : VK} (o : OutR cl RelU W σ I1 m1 H1 (if us.length ≤ LIM then .ok (.ref s'.length) (s' ++ [.lst us]) else .bad) (fun _ _ _ _ H x => Q x H))
    (hf : HF H) (e : Ext I1 m1 H1 I m H) (si : Sim cl I m s' H) (hv : H D = some (.lst vs)) (rv : RelUs I m us vs) (pI : I D = none) (pm : D ∉ m) (hD : H1 D = none) : Q (.ref D) H := by
  split at o
  · have si2 := sim_ownO (ho := .lst vs) (o := .lst us) si pI pm ⟨vs, rfl, RelUs.mono (fun _ _ h => h) app_mm rv⟩
    have e2 := ext_ownO (ho := .lst vs) e hD
    rw [upd_self hv] at si2 e2
    exact o _ _ _ _ hf e2 si2 ⟨D, by rw [← si.len]; simp, rfl⟩
  · exact o.elim
end
end Cab

set_option Elab.async false
set_option linter.all false
set_option maxRecDepth 100000
set_option maxHeartbeats 4000000
namespace Cab
open PySem PySem.Spec PyProof.Rows L2
section
variable {cl : Nat → Addr} {I : Hp} {m : List Addr} {s : Store} {H : Hp}
/-! ### the whole as data, in a world that has it -/
section
variable {I0 : Hp} (hI : ∀ a o, I a = some o → I0 a = some o) (hm : ∀ (i : Nat) a ho, m[i]? = some a → H a = some ho → I0 a = some ho)
include hI hm
theorem all_I (f : U → Option T) (g : ∀ u t v, f u = some t → RelU I m u v → Rel I0 t v) : ∀ {us : List U} {ts : List T} {vs : List V}, optAll f us = some ts → RelUs I m us vs → RelL I0 ts vs
  | [], _, _, h, r => by
    cases h
    exact r
  | u :: us, ts, vs, h, r => by
    obtain ⟨v, rs, e, r1, r2⟩ := r
    unfold optAll at h
    cases e1 : f u with
    | none =>
      rw [e1] at h
      cases h
    | some t =>
      rw [e1] at h
      cases e2 : optAll f us with
      | none =>
        rw [e2] at h
        cases h
      | some ts' =>
        rw [e2] at h
        cases h
        exact ⟨v, rs, e, g _ _ _ e1 r1, all_I f g e2 r2⟩
theorem allK_I (f : U → Option T) (g : ∀ u t v, f u = some t → RelU I m u v → Rel I0 t v) : ∀ {us : List (Ky × U)} {ts : List (Ky × T)} {vs : List (Key × V)}, optAll (fun p : Ky × U => (f p.2).map fun t => (p.1, t)) us = some ts → RelUK I m us vs → RelK I0 ts vs
  | [], _, _, h, r => by
    cases h
    exact r
  | (q, u) :: us, ts, vs, h, r => by
    obtain ⟨v, rs, e, r1, r2⟩ := r
    unfold optAll at h
    cases e1 : f u with
    | none =>
      simp only [e1, Option.map_none] at h
      cases h
    | some t =>
      simp only [e1, Option.map_some] at h
      cases e2 : optAll (fun p : Ky × U => (f p.2).map fun t => (p.1, t)) us with
      | none =>
        rw [e2] at h
        cases h
      | some ts' =>
        rw [e2] at h
        cases h
        exact ⟨v, rs, e, ⟨r1.1, g _ _ _ e1 r1.2⟩, allK_I f g e2 r2⟩
theorem view_I (si : Sim cl I m s H) : ∀ (n : Nat) (u : U) (t : T) (v : V), view n s u = some t → RelU I m u v → Rel I0 t v
  | 0, _, _, _, h, _ => by cases h
  | n + 1, .v t', t, v, h, r => by
    cases h
    exact Rel.mono hI r
  | n + 1, .tup us, t, v, h, r => by
    simp only [view, Option.map_eq_some_iff] at h
    obtain ⟨ts, h, rfl⟩ := h
    obtain ⟨a, vs, e, h1, h2⟩ := r
    exact ⟨a, vs, e, hI _ _ h1, all_I hI hm _ (view_I si n) h h2⟩
  | n + 1, .ref i, t, v, h, r => by
    simp only [view] at h
    cases e : s[i]? with
    | none =>
      rw [e] at h
      cases h
    | some o =>
      rw [e] at h
      obtain ⟨a, ho, e1, e2, e3, e4⟩ := si.at r e
      cases o with
      | lst us =>
        simp only [Option.map_eq_some_iff] at h
        obtain ⟨ts, h, rfl⟩ := h
        obtain ⟨vs, rfl, h5⟩ := e4
        exact ⟨a, vs, e1, hm _ _ _ e2 e3, all_I hI hm _ (view_I si n) h h5⟩
      | dct us =>
        simp only [Option.map_eq_some_iff] at h
        obtain ⟨ts, h, rfl⟩ := h
        obtain ⟨vs, rfl, h5⟩ := e4
        exact ⟨a, vs, e1, hm _ _ _ e2 e3, allK_I hI hm _ (view_I si n) h h5⟩
      | ins c fs => cases h
end
theorem obj_nf (si : Sim cl I m s H) {a : Addr} (h : a ∈ m) : ∃ ho, H a = some ho ∧ ∀ o u, ho ≠ .frz o u := by
  obtain ⟨i, hi, rfl⟩ := List.mem_iff_getElem.mp h
  have hs : i < s.length := by rw [← si.len]; exact hi
  obtain ⟨ho, h1, h2⟩ := si.obj i m[i] s[i] (List.getElem?_eq_getElem hi) (List.getElem?_eq_getElem hs)
  refine ⟨ho, h1, fun o u e => ?_⟩
  subst e
  cases es : s[i] with
  | lst us =>
    rw [es] at h2
    obtain ⟨_, z, _⟩ := h2
    cases z
  | dct us =>
    rw [es] at h2
    obtain ⟨_, z, _⟩ := h2
    cases z
  | ins c fs =>
    rw [es] at h2
    obtain ⟨_, _, z, _⟩ := h2
    cases z
/-- a world for a call that only reads: all the store's things as data -/
noncomputable def lent (I : Hp) (m : List Addr) (H : Hp) : Hp := by
  classical
  exact fun a => if a ∈ m then H a else I a
theorem lent_I (si : Sim cl I m s H) {a : Addr} {o : HO} (h : I a = some o) : lent I m H a = some o := by
  unfold lent
  rw [if_neg (dct_m si h)]
  exact h
theorem lent_m {a : Addr} (h : a ∈ m) : lent I m H a = H a := by
  unfold lent
  rw [if_pos h]
theorem lent_n {a : Addr} (h : a ∉ m) : lent I m H a = I a := by
  unfold lent
  rw [if_neg h]
theorem sim_lent (si : Sim cl I m s H) : Sim cl (lent I m H) [] [] H := by
  refine ⟨fun a o h => ?_, rfl, fun i a o h _ => (by simp at h), fun a h => (by cases h), List.nodup_nil, fun a o u h => ?_⟩
  · by_cases ha : a ∈ m
    · rw [lent_m ha] at h
      exact .inl h
    · rw [lent_n ha] at h
      exact si.sub a o h
  · by_cases ha : a ∈ m
    · rw [lent_m ha] at h
      obtain ⟨ho, h1, h2⟩ := obj_nf si ha
      rw [h1] at h
      exact h2 _ _ (Option.some.inj h)
    · rw [lent_n ha] at h
      exact si.nf a o u h
theorem sim_bare (si : Sim cl I m s H) : Sim cl I [] [] H := ⟨si.sub, rfl, fun i a o h _ => (by simp at h), fun a h => (by cases h), List.nodup_nil, si.nf⟩
section
variable {I' : Hp} {m' : List Addr} {s' : Store} {H' : Hp}
/-- behind a call upon a store of its own: all that it made as data -/
theorem sim_data (si : Sim cl I m s H) (e : Ext I [] H I' m' H') (si' : Sim cl I' m' s' H') : Sim cl (lent I' m' H') m s H' ∧ Ext I m H (lent I' m' H') m H' := by
  have new : ∀ a, a ∈ m' → H a = none := fun a h => (e.nm a h).elim (fun z => by cases z) id
  have nm : ∀ a, a ∈ m → a ∉ m' := fun a h z => mem_there si h (new a z)
  have hi : ∀ a o, I a = some o → lent I' m' H' a = some o := fun a o h => lent_I si' (e.i a o h)
  have s2 := sim_lent si'
  refine ⟨⟨s2.sub, si.len, fun i a o h1 h2 => ?_, fun a h => ?_, si.nd, s2.nf⟩, ⟨hi, ⟨[], by simp⟩, fun a h _ => e.fr a h (by simp), e.th, fun a h => ?_, fun a h => .inl h⟩⟩
  · obtain ⟨ho, h3, h4⟩ := si.obj i a o h1 h2
    exact ⟨ho, by rw [e.fr a (by rw [h3]; simp) (by simp)]; exact h3, relO_same hi h4⟩
  · rw [lent_n (nm a h)]
    cases ei : I' a with
    | none => rfl
    | some o =>
      rcases e.ni a (by rw [ei]; simp) with z | z
      · exact absurd (si.sep a h) z
      · exact absurd z (mem_there si h)
  · by_cases ha : a ∈ m'
    · exact .inr (new a ha)
    · rw [lent_n ha] at h
      exact e.ni a h
/-- .. where it was lent our things: nothing is kept -/
theorem sim_back (si : Sim cl I m s H) (e : Ext (lent I m H) [] H I' m' H') (si' : Sim cl I' m' s' H') : Sim cl I m s H' ∧ Ext I m H I m H' := by
  refine ⟨⟨fun a o h => si'.sub a o (e.i a o (lent_I si h)), si.len, fun i a o h1 h2 => ?_, si.sep, si.nd, si.nf⟩, ⟨fun _ _ h => h, ⟨[], by simp⟩, fun a h _ => e.fr a h (by simp), e.th, fun a h => .inl h, fun a h => .inl h⟩⟩
  obtain ⟨ho, h3, h4⟩ := si.obj i a o h1 h2
  exact ⟨ho, by rw [e.fr a (by rw [h3]; simp) (by simp)]; exact h3, h4⟩
/-! ### a store of its own, handed over -/
mutual
theorem relU_shift : ∀ {u : U} {v : V}, RelU I' m' u v → RelU I' (m ++ m') (shiftU m.length u) v
  | .v t, v, h => h
  | .ref i, v, h => by
    obtain ⟨a, h1, e⟩ := h
    refine ⟨a, ?_, e⟩
    rw [List.getElem?_append_right (by omega), Nat.add_sub_cancel]
    exact h1
  | .tup us, v, h => by
    obtain ⟨a, vs, e, h1, h2⟩ := h
    exact ⟨a, vs, e, h1, relUs_shift h2⟩
theorem relUs_shift : ∀ {us : List U} {vs : List V}, RelUs I' m' us vs → RelUs I' (m ++ m') (shiftL m.length us) vs
  | [], _, h => h
  | _ :: _, _, h => by
    obtain ⟨v, r, e, h1, h2⟩ := h
    exact ⟨v, r, e, relU_shift h1, relUs_shift h2⟩
end
theorem shiftL_map (n : Nat) : ∀ us : List U, shiftL n us = us.map (shiftU n)
  | [] => rfl
  | u :: us => by simp only [shiftL, List.map_cons, shiftL_map n us]
theorem relUK_shift : ∀ {us : List (Ky × U)} {vs : List (Key × V)}, RelUK I' m' us vs → RelUK I' (m ++ m') (us.map fun p => (p.1, shiftU m.length p.2)) vs
  | [], _, h => h
  | _ :: _, _, h => by
    obtain ⟨v, r, e, h1, h2⟩ := h
    exact ⟨v, r, e, ⟨h1.1, relU_shift h1.2⟩, relUK_shift h2⟩
theorem relUF_shift : ∀ {us : List (List Nat × U)} {vs : List (Str × V)}, RelUF I' m' us vs → RelUF I' (m ++ m') (us.map fun p => (p.1, shiftU m.length p.2)) vs
  | [], _, h => h
  | _ :: _, _, h => by
    obtain ⟨v, r, e, h1, h2⟩ := h
    exact ⟨v, r, e, relU_shift h1, relUF_shift h2⟩
theorem relO_shift {o : O} {ho : HO} (h : RelO cl I' m' o ho) : RelO cl I' (m ++ m') (shiftO m.length o) ho := by
  cases o with
  | lst us =>
    obtain ⟨vs, e, h⟩ := h
    refine ⟨vs, e, ?_⟩
    rw [← shiftL_map]
    exact relUs_shift h
  | dct us =>
    obtain ⟨vs, e, h⟩ := h
    exact ⟨vs, e, relUK_shift h⟩
  | ins c fs =>
    obtain ⟨dx, gs, e, h⟩ := h
    exact ⟨dx, gs, e, relUF_shift h⟩
theorem sim_join (si : Sim cl I m s H) (e : Ext I [] H I' m' H') (si' : Sim cl I' m' s' H') : Sim cl I' (m ++ m') (s ++ s'.map (shiftO s.length)) H' ∧ Ext I m H I' (m ++ m') H' := by
  have new : ∀ a, a ∈ m' → H a = none := fun a h => (e.nm a h).elim (fun z => by cases z) id
  refine ⟨⟨si'.sub, by simp [si.len, si'.len], fun i a o h1 h2 => ?_, fun a h => ?_, ?_, si'.nf⟩, ⟨e.i, ⟨m', rfl⟩, fun a h _ => e.fr a h (by simp), e.th, e.ni, fun a h => ?_⟩⟩
  · by_cases hi : i < m.length
    · rw [List.getElem?_append_left hi] at h1
      rw [List.getElem?_append_left (by rw [← si.len]; exact hi)] at h2
      obtain ⟨ho, h3, h4⟩ := si.obj i a o h1 h2
      exact ⟨ho, by rw [e.fr a (by rw [h3]; simp) (by simp)]; exact h3, RelO.mono e.i ⟨m', rfl⟩ h4⟩
    · rw [List.getElem?_append_right (by omega)] at h1
      rw [List.getElem?_append_right (by rw [← si.len]; omega), List.getElem?_map, ← si.len] at h2
      obtain ⟨o', h3, rfl⟩ := Option.map_eq_some_iff.mp h2
      obtain ⟨ho, h4, h5⟩ := si'.obj _ a o' h1 h3
      exact ⟨ho, h4, relO_shift h5⟩
  · rcases List.mem_append.mp h with h | h
    · cases ei : I' a with
      | none => rfl
      | some o =>
        rcases e.ni a (by rw [ei]; simp) with z | z
        · exact absurd (si.sep a h) z
        · exact absurd z (mem_there si h)
    · exact si'.sep a h
  · refine List.nodup_append.mpr ⟨si.nd, si'.nd, fun a h1 b h2 e2 => ?_⟩
    subst e2
    exact mem_there si h1 (new a h2)
  · rcases List.mem_append.mp h with h | h
    · exact .inl h
    · exact .inr (new a h)
end
theorem exRel_mono {I I' : Hp} {x : Ex} {c : Value} {d : Option Addr} {H : Hp} (hi : ∀ a o, I a = some o → I' a = some o) (h : ExRel cl I x c d H) : ExRel cl I' x c d H := by
  refine ⟨h.1, ?_⟩
  have h2 := h.2
  cases ef : x.fs with
  | nil =>
    rw [ef] at h2
    exact h2
  | cons p fs =>
    rw [ef] at h2
    obtain ⟨dx, gs, e1, e2, e3⟩ := h2
    refine ⟨dx, gs, e1, e2, fun f t ht => ?_⟩
    obtain ⟨v, e4, e5⟩ := e3 f t ht
    exact ⟨v, e4, Rel.mono hi e5⟩
theorem rel_scalar {I I' : Hp} {t : T} {v : V} (hs : isScalar t = true) (r : Rel I t v) : Rel I' t v := by
  cases t <;> first | exact r | (simp [isScalar] at hs; done)
theorem sget_mem {α : Type} {f : List Nat} {t : α} : ∀ {l : List (List Nat × α)}, sget f l = some t → (f, t) ∈ l
  | [], h => by cases h
  | p :: r, h => by
    unfold sget at h
    split at h
    · rename_i e
      cases h
      subst e
      exact List.mem_cons_self
    · exact List.mem_cons_of_mem _ (sget_mem h)
theorem exRel_scalar {I I' : Hp} {x : Ex} {c : Value} {d : Option Addr} {H : Hp} (hs : (x.fs.all fun p => isScalar p.2) = true) (h : ExRel cl I x c d H) : ExRel cl I' x c d H := by
  refine ⟨h.1, ?_⟩
  have h2 := h.2
  cases ef : x.fs with
  | nil =>
    rw [ef] at h2
    exact h2
  | cons p fs =>
    rw [ef] at h2 hs
    obtain ⟨dx, gs, e1, e2, e3⟩ := h2
    refine ⟨dx, gs, e1, e2, fun f t ht => ?_⟩
    obtain ⟨v, e4, e5⟩ := e3 f t ht
    exact ⟨v, e4, rel_scalar (List.all_eq_true.mp hs _ (sget_mem ht)) e5⟩
theorem view_scalar {n : Nat} {s : Store} {u : U} {t : T} (h : view n s u = some t) (hs : isScalar t = true) : u = .v t := by
  cases n with
  | zero => cases h
  | succ n =>
    cases u with
    | v t' =>
      cases h
      rfl
    | tup us =>
      simp only [view, Option.map_eq_some_iff] at h
      obtain ⟨ts, _, rfl⟩ := h
      simp [isScalar] at hs
    | ref i =>
      simp only [view] at h
      cases e : s[i]? with
      | none =>
        rw [e] at h
        cases h
      | some o =>
        rw [e] at h
        cases o with
        | lst us =>
          simp only [Option.map_eq_some_iff] at h
          obtain ⟨ts, _, rfl⟩ := h
          simp [isScalar] at hs
        | dct us =>
          simp only [Option.map_eq_some_iff] at h
          obtain ⟨ts, _, rfl⟩ := h
          simp [isScalar] at hs
        | ins c fs => cases h
theorem all_isV : ∀ {us : List U}, us.all isV = true → ∃ ts : List T, us = ts.map U.v
  | [], _ => ⟨[], rfl⟩
  | .v t :: us, h => by
    simp only [List.all_cons, Bool.and_eq_true] at h
    obtain ⟨ts, rfl⟩ := all_isV h.2
    exact ⟨t :: ts, rfl⟩
  | .ref _ :: _, h => by simp [isV] at h
  | .tup _ :: _, h => by simp [isV] at h
theorem view_vs {n : Nat} {s : Store} : ∀ ts : List T, optAll (view (n + 1) s) (ts.map U.v) = some ts
  | [] => rfl
  | t :: ts => by
    rw [List.map_cons]
    unfold optAll
    rw [view_vs ts]
    rfl
theorem relUs_ofV {I : Hp} {m m' : List Addr} : ∀ {ts : List T} {vs : List V}, RelUs I m (ts.map U.v) vs → RelUs I m' (ts.map U.v) vs
  | [], _, h => h
  | _ :: _, _, h => by
    obtain ⟨v, r, e, h1, h2⟩ := h
    exact ⟨v, r, e, h1, relUs_ofV h2⟩
/-- a call by its way: what the callee promises is enough -/
theorem call_sp {W : WX} {σ : St} {C : Call} {n f : Nat} {md : Md} {us : List U} {dl : List T} {vs dvs : List V} {Q : VK} (hf : HF H) (si : Sim cl I m s H) (r : RelUs I m us vs) (hn : us.length + dl.length = n) (dr : ∀ I : Hp, RelL I dl dvs) (fil : ∀ us' s, us'.length = us.length → C f us' s = C f (us' ++ dl.map .v) s)
    (o : OutR cl RelU W σ I m H (callM C md f us s) fun _ _ _ _ H x => Q x H) : spC cl C n f (vs ++ dvs) H Q (WE W σ) := by
  refine ⟨by rw [List.length_append, ← relUs_len r, ← relL_len (dr I)]; exact hn, ?_⟩
  cases md with
  | r =>
    simp only [callM] at o
    rw [fil us s rfl] at o
    refine ⟨I, m, us ++ dl.map U.v, s, hf, si, relUs_app r (relUs_v (dr I)), ?_⟩
    cases ec : C f (us ++ dl.map U.v) s with
    | ok u s' =>
      rw [ec] at o
      exact o
    | exc x s' =>
      rw [ec] at o
      exact o
    | bad =>
      rw [ec] at o
      exact o
  | o =>
    simp only [callM] at o
    cases ev : us.all isV with
    | false =>
      rw [ev] at o
      exact o.elim
    | true =>
      rw [ev] at o
      simp only at o
      obtain ⟨ts, rfl⟩ := all_isV ev
      rw [fil _ [] rfl] at o
      refine ⟨I, [], ts.map .v ++ dl.map .v, [], hf, sim_bare si, relUs_app (relUs_ofV r) (relUs_v (dr I)), ?_⟩
      cases ec : C f (ts.map .v ++ dl.map .v) [] with
      | ok u s' =>
        rw [ec] at o
        intro I' m' H' x hf' e' si' r'
        obtain ⟨s2, e2⟩ := sim_join si e' si'
        refine o I' (m ++ m') H' x hf' e2 s2 ?_
        rw [← si.len]
        exact relU_shift r'
      | exc x s' =>
        rw [ec] at o
        intro I' m' H' c d hf' e' si' r'
        obtain ⟨s2, e2⟩ := sim_data si e' si'
        exact o _ m H' c d hf' e2 s2 (exRel_mono (fun a o h => lent_I si' h) r')
      | bad =>
        rw [ec] at o
        exact o.elim
  | v =>
    simp only [callM] at o
    cases evw : optAll (view 64 s) us with
    | none =>
      rw [evw] at o
      exact o.elim
    | some ts =>
      rw [evw] at o
      simp only at o
      have hl : (ts.map U.v).length = us.length := by
        have : ∀ {us : List U} {ts : List T}, optAll (view 64 s) us = some ts → ts.length = us.length := by
          intro us
          induction us with
          | nil => intro ts h; cases h; rfl
          | cons u us ih =>
            intro ts h
            unfold optAll at h
            cases e1 : view 64 s u with
            | none => rw [e1] at h; cases h
            | some t =>
              rw [e1] at h
              cases e2 : optAll (view 64 s) us with
              | none => rw [e2] at h; cases h
              | some ts' =>
                rw [e2] at h
                cases h
                rw [List.length_cons, List.length_cons, ih e2]
        rw [List.length_map, this evw]
      rw [fil _ [] hl] at o
      cases ea : us.all isV with
      | true =>
        obtain ⟨ts', rfl⟩ := all_isV ea
        have : ts' = ts := by
          have h := view_vs (n := 63) (s := s) ts'
          rw [h] at evw
          exact Option.some.inj evw
        subst this
        refine ⟨I, [], ts'.map .v ++ dl.map .v, [], hf, sim_bare si, relUs_app (relUs_ofV r) (relUs_v (dr I)), ?_⟩
        cases ec : C f (ts'.map .v ++ dl.map .v) [] with
        | ok u s' =>
          rw [ec] at o
          simp only [ea, Bool.true_or, if_true] at o
          intro I' m' H' x hf' e' si' r'
          cases ew : view 64 s' u with
          | none =>
            rw [ew] at o
            exact o.elim
          | some t =>
            rw [ew] at o
            obtain ⟨s2, e2⟩ := sim_data si e' si'
            exact o _ m H' x hf' e2 s2 (view_I (fun a o h => lent_I si' h) (fun i a ho h1 h2 => by rw [lent_m (List.mem_of_getElem? h1)]; exact h2) si' 64 u t x ew r')
        | exc x s' =>
          rw [ec] at o
          simp only [ea, Bool.true_or, if_true] at o
          intro I' m' H' c d hf' e' si' r'
          obtain ⟨s2, e2⟩ := sim_data si e' si'
          exact o _ m H' c d hf' e2 s2 (exRel_mono (fun a o h => lent_I si' h) r')
        | bad =>
          rw [ec] at o
          exact o.elim
      | false =>
        have rl : RelL (lent I m H) ts vs := all_I (I0 := lent I m H) (fun a o h => lent_I si h) (fun i a ho h1 h2 => by rw [lent_m (List.mem_of_getElem? h1)]; exact h2) (view 64 s) (view_I (fun a o h => lent_I si h) (fun i a ho h1 h2 => by rw [lent_m (List.mem_of_getElem? h1)]; exact h2) si 64) evw r
        refine ⟨lent I m H, [], ts.map .v ++ dl.map .v, [], hf, sim_lent si, relUs_app (relUs_v rl) (relUs_v (dr _)), ?_⟩
        cases ec : C f (ts.map .v ++ dl.map .v) [] with
        | ok u s' =>
          rw [ec] at o
          simp only [ea, Bool.false_or] at o
          intro I' m' H' x hf' e' si' r'
          cases ew : view 64 s' u with
          | none =>
            rw [ew] at o
            exact o.elim
          | some t =>
            rw [ew] at o
            simp only at o
            split at o
            · rename_i hs
              obtain ⟨s2, e2⟩ := sim_back si e' si'
              have eu := view_scalar ew hs
              subst eu
              exact o _ m H' x hf' e2 s2 (rel_scalar hs r')
            · exact o.elim
        | exc x s' =>
          rw [ec] at o
          simp only [ea, Bool.false_or] at o
          intro I' m' H' c d hf' e' si' r'
          split at o
          · rename_i hs
            obtain ⟨s2, e2⟩ := sim_back si e' si'
            exact o _ m H' c d hf' e2 s2 (exRel_scalar hs r')
          · exact o.elim
        | bad =>
          rw [ec] at o
          exact o.elim
end
section
variable {cl : Nat → Addr} {G : Glo} {C : Call} {k : Nat} {c : MC} {X : Cx} {W : WX}
theorem s_call (g : Good cl G C k c X W) {x : Str} {q : Nat × Nat × Nat} {md : Md} {as : Es} {y : Expr} {ys : List Expr} {p pos : Pos} (hfn : c.fns.lookup x = some q) (hg : glB c.sc x = true) (hn : nameOk x = true) (hs : noStars (y :: ys) = true) (h1 : (esL as).length ≤ q.2.1) (h2 : q.2.1 ≤ (esL as).length + q.2.2)
    (ha : PA X (y :: ys) (denA cl G C W as)) : PE X (.Call (.Name x p) (y :: ys) [] pos) (den cl G C W (.call md q.1 as)) := by
  obtain ⟨dfl, fa, fd, ps, m1, m2, F, m3, m4, m5⟩ := (g.fns x q hfn).ex
  obtain ⟨dvs, ds, d1, d2, d3⟩ := m5 _ h1 h2
  unfold noStars at hs
  have hs' := hs
  simp only [List.all_cons, Bool.and_eq_true, Bool.not_eq_true'] at hs'
  refine pe_w (pe_callSD (E := WE W) F g.room (g.gl x hg) m1 m2 d2 d1 (fun σ => passAt g.tk σ) ha (nameOk_d hn) (star_one hs'.1 _ _) (star_no hs'.2)) fun σ H Q ⟨I, m, ρ, s, hf, si, rs, o⟩ => ?_
  simp only [ev] at o
  refine ⟨I, m, ρ, s, hf, si, rs, ?_⟩
  cases er : evs G C as ρ s with
  | ok us s1 =>
    rw [er] at o
    simp only [R.bind] at o
    have hl := esL_len er
    intro I1 m1 H1 vs hf1 e1 si1 r1
    refine call_sp (Q := fun v H' => HF H' → Q v H') hf1 si1 r1 (dl := dfl.drop (dfl.length - (q.2.1 - (esL as).length))) ?_ d3 (fun us' s' hu => ?_) ((OutR.mono o e1).imp fun _ _ _ _ _ _ _ _ _ _ q _ => q)
    · rw [List.length_drop, ← hl, m3]
      omega
    · have := m4 us' s' (by rw [hu, ← hl]; exact h1) (by rw [hu, ← hl]; exact h2)
      rw [hu, ← hl] at this
      exact this
  | exc x s1 =>
    rw [er] at o
    exact o
  | bad =>
    rw [er] at o
    exact o
end
end Cab

set_option Elab.async false
set_option linter.all false
set_option maxRecDepth 100000
set_option maxHeartbeats 4000000
namespace Cab
open PySem PySem.Spec PyProof.Rows L2
/-! ### list(d.values()) -/
def tVals (te : TE) : TE := fun σ H Q => te σ H fun x H1 => ∃ (d : Addr) (kvs : List (Key × V)), x = .ref d ∧ Rd H1 d (.dK kvs) ∧ ∀ p, H1 p = none → Q (.ref p) (upd H1 p (.lst (kvs.map (·.2))))
theorem kv_vals : ∀ {kvs : List (Key × V)} {vs : List (Key × Value)}, KV kvs vs → Vals (kvs.map (·.2)) (vs.map (·.2)) := fun r => by
  unfold KV at r
  induction r with
  | nil => exact .nil
  | cons h _ ih => exact .cons h.2 ih
theorem pe_listVals {X : Cx} {e : Expr} {te : TE} {p apos cpos pos : Pos} (hc : X.calm = true) (he : PE X e te) (hg : Gl X "list") (hm : X.mg "list" = none) (hv : bootBuiltins "list" = some (.type "list")) (hbase : attributeBase e "values" X.env (eval e X.env) = eval e X.env) (hline : (apos.endLine == cpos.line) = true)
    (hs : starEach [.Call (.Attribute e "values" apos) [] [] cpos] X.env = (false, eval (.Call (.Attribute e "values" apos) [] [] cpos) X.env) :: starEach [] X.env) :
    PE X (.Call (.Name "list" p) [.Call (.Attribute e "values" apos) [] [] cpos] [] pos) (tVals te) := by
  refine ⟨fun pins s σ H Q I hq => ?_⟩
  refine wpAny_Call_Name_kw (ld_blt I hg hm hv ?_)
  refine PyProof.Rows.callWith_type1 ?_ hs rfl
  rw [hs]
  show wpAny _ _ (spliced ((false, eval (.Call (.Attribute e "values" apos) [] [] cpos) X.env) :: backTo pos (starEach [] X.env))) _ _ s
  refine Calls.spliced_cons ?_
  refine wpAny_Call_method (T := "dict") (id := "dict.values") hbase rfl hline F.plainAttrs_dict F.slot_dict_values F.type_dict_values (thn (he.run pins s σ H _ I hq) fun u s1 ⟨x, H1, I1, rx, d, kvs, ex, hd, q⟩ => ?_)
  subst ex
  obtain rfl : u = Value.ref d := rx
  obtain ⟨hz, hs0, vs, kv, hdo⟩ := dk_rd I1.hok hd
  obtain ⟨ep, hat⟩ := hdo.dictAt
  have lk : kvs.length = vs.length := Paired.length kv
  refine ⟨hdo.typeIs, hdo.mapOf.noDict, ?_⟩
  show wpAny _ _ (callWith cpos (.builtin "dict.values") [.ref d] [] []) _ X.xe s1
  refine method_meetsIn F.slot_dict_values F.entry_dict_values rfl (PySem.evalArgs_none ⟨rfl, hdo.typeIs, F.args_dict_values_1 _, _, meets_dict_values (mixKind X.prog X.w) d hs0, ⟨vs, hdo⟩, ?_⟩)
  refine Calls.spliced_nil ?_
  refine PySem.W.kdl_call (PySem.W.kdl_values (knd := mixKind X.prog X.w) (kvs := vs) (ep := ep)) (I1.ok.hd hc) ⟨⟨_, Heap.get?_push_size _ rfl, rfl, rfl⟩, hat.push _⟩ (by omega) fun h' tk acc c' hk hD hacc => ?_
  have ea : acc.toList = vs.map (·.2) := PySem.W.kdl_vals_eq acc.toList (by rw [Array.length_toList]; exact hacc.1) fun j v e => hacc.2 j v (by rw [← Array.getElem?_toList]; exact e)
  have I2 : Inv X pins σ H1 { s1 with heap := s1.heap.push { cls := .type "dict_values", data := .fields #[.ref d] } } := I1.kept (t' := s1.toks) fun b ob q => Heap.get?_push_of_some _ q
  refine ⟨.ref _, _, I2.laid (t' := tk) (o := .lst (kvs.map (·.2))) hk (Nat.le_refl _) ⟨by rw [List.length_map]; exact hz, acc.toList, c', by rw [ea]; exact kv_vals kv, by rw [Array.toArray_toList]; exact hD⟩, rfl, q _ (I2.hok.fresh (Nat.le_refl _))⟩
end Cab

set_option Elab.async false
set_option linter.all false
set_option maxRecDepth 100000
set_option maxHeartbeats 4000000
namespace Cab
open PySem PySem.Spec PyProof.Rows L2
/-! ### methods over data -/
theorem inter_eq (sep : List Nat) : ∀ ss : List (List Nat), TL.joinL sep ss = inter sep ss
  | [] => rfl
  | [_] => rfl
  | x :: y :: r => by
    show x ++ (sep ++ TL.joinL sep (y :: r)) = x ++ (sep ++ inter sep (y :: r))
    rw [inter_eq sep (y :: r)]
theorem tl_mkS (x : List Nat) : TL.tl (mkS x) = x := mkS_toList x
theorem join_mkS (sep : List Nat) (ss : List (List Nat)) : Txt.join (mkS sep) (ss.map mkS) = mkS (inter sep ss) := by
  have e := TL.tl_join (mkS sep) (ss.map mkS)
  rw [List.map_map, show (TL.tl ∘ mkS) = id from funext tl_mkS, List.map_id, tl_mkS] at e
  refine TL.ext_tl ((congrArg TL.tl (TL.join_eq (mkS sep) (ss.map mkS))).trans ?_)
  rw [e, tl_mkS, inter_eq]
theorem inter_len (sep : List Nat) : ∀ ss : List (List Nat), (inter sep ss).length ≤ (ss.map List.length).sum + ss.length * sep.length
  | [] => by simp [inter]
  | [x] => by simp [inter]
  | x :: y :: r => by
    have ih := inter_len sep (y :: r)
    simp only [inter, List.length_append, List.map_cons, List.sum_cons, List.length_cons] at ih ⊢
    have : (r.length + 1 + 1) * sep.length = (r.length + 1) * sep.length + sep.length := by rw [Nat.succ_mul]
    omega
section
variable {cl : Nat → Addr} {G : Glo} {C : Call} {k : Nat} {c : MC} {X : Cx} {W : WX}
/-- a method of one argument: its thing, then the argument -/
theorem meth1 {p : Prm} {a b : E} {σ : St} {I : Hp} {m : List Addr} {ρ : Env} {s : Store} {H : Hp} {Q : VK} (hf : HF H) (si : Sim cl I m s H) (rs : RelS I m ρ σ) (o : OutR cl RelU W σ I m H (ev G C (.meth p a (.cons b .nil)) ρ s) fun _ _ _ _ H x => Q x H)
    {K : U → Store → Hp → List Addr → Hp → V → Prop}
    (k : ∀ u s1 I1 m1 H1 x, HF H1 → Sim cl I1 m1 s1 H1 → RelU I1 m1 u x → headOk p s1 u = true → (∀ K2 : V → Hp → Prop, (∀ y I2 H2 t t' r, (∀ a o, I2 a = some o → Rd H2 a o) → HF H2 → RdT I2 H2 t x → RdT I2 H2 t' y → primT p [t, t'] = some r → Fin I2 H2 r (fun v H => HF H → Q v H) → K2 y H2) → den cl G C W b σ H1 K2) → K u s1 I1 m1 H1 x) :
    OutR cl RelU W σ I m H (ev G C a ρ s) K := by
  simp only [ev, evs] at o
  refine OutR.first o fun u s1 I1 m1 H1 x hf1 e1 si1 r1 o1 => ?_
  split at o1
  · rename_i hh
    refine k u s1 I1 m1 H1 x hf1 si1 r1 hh fun K2 q => ?_
    refine ⟨I1, m1, ρ, s1, hf1, si1, rs.mono e1, ?_⟩
    have o2 : OutR cl RelU W σ I1 m1 H1 ((ev G C b ρ s1).bind fun w s2 => (match asT s2 u, optAll (asT s2) [w] with
      | some t, some ts => if metOk p [w] then okO ((primT p (t :: ts)).map .v) s2 else .bad
      | _, _ => .bad)) fun _ _ _ _ H x => Q x H := by
      cases eb : ev G C b ρ s1 with
      | ok w s2 =>
        rw [eb] at o1
        exact o1
      | exc q s2 =>
        rw [eb] at o1
        exact o1
      | bad =>
        rw [eb] at o1
        exact o1.elim
    refine OutR.first o2 fun w s2 I2 m2 H2 y hf2 e2 si2 r2 o3 => ?_
    cases ea : asT s2 u with
    | none =>
      rw [ea] at o3
      exact o3.elim
    | some t =>
      cases ew : asT s2 w with
      | none =>
        rw [ea] at o3
        simp only [optAll, ew] at o3
        exact o3.elim
      | some t' =>
        rw [ea] at o3
        simp only [optAll, ew] at o3
        split at o3
        · cases er : primT p [t, t'] with
          | none =>
            rw [er] at o3
            exact o3.elim
          | some r =>
            rw [er] at o3
            exact q y I2 H2 t t' r si2.sub hf2 (asT_rd si2 (RelU.mono e2.i e2.mm r1) ea) (asT_rd si2 r2 ew) er (fin_of si2 o3)
        · exact o3.elim
  · exact o1.elim
theorem den_mono {e : E} {σ : St} {H : Hp} {Q Q' : VK} (h : den cl G C W e σ H Q) (k : ∀ v H, Q v H → Q' v H) : den cl G C W e σ H Q' := by
  obtain ⟨I, m, ρ, s, hf, si, rs, o⟩ := h
  exact ⟨I, m, ρ, s, hf, si, rs, o.imp fun _ _ _ _ _ _ _ _ _ _ q => k _ _ q⟩
theorem head_str {p : Prm} {s : Store} {u : U} {I : Hp} {m : List Addr} {x : V} (h : headOk p s u = true) (hp : p ≠ .get1 ∧ p ≠ .get2 ∧ p ≠ .values ∧ p ≠ .index) (r : RelU I m u x) : ∃ a, x = .str a := by
  cases p <;> first | exact absurd rfl hp.1 | exact absurd rfl hp.2.1 | exact absurd rfl hp.2.2.1 | exact absurd rfl hp.2.2.2 | skip
  all_goals
    simp only [headOk] at h
    split at h
    · exact ⟨_, r.1⟩
    · cases h
theorem s_join {a b : E} {xa xb : Expr} {apos pos : Pos} (hline : (apos.endLine == pos.line) = true) (hs : isStar xb = false) (hb0 : noBare xa = true) (ha : PE X xa (den cl G C W a)) (hb : PE X xb (den cl G C W b)) : PE X (.Call (.Attribute xa "join" apos) [xb] [] pos) (den cl G C W (.meth .join a (.cons b .nil))) := by
  refine pe_w (pe_join ha hb (by rw [star_one hs]; rfl) (base_of (noBare_of hb0) _) hline) fun σ H Q ⟨I, m, ρ, s, hf, si, rs, o⟩ => ?_
  refine ⟨I, m, ρ, s, hf, si, rs, meth1 hf si rs o fun u s1 I1 m1 H1 x hf1 si1 r1 hh q => ⟨head_str hh (by decide) r1, q _ ?_⟩⟩
  intro y I2 H2 t t' r sub hf2 rt rt' er fin
  cases t <;> cases t' <;> simp only [primT, reduceCtorEq] at er
  rename_i sep xs
  obtain ⟨ss, es, er⟩ := Option.bind_eq_some_iff.mp er
  split at er
  · rename_i hz
    cases er
    obtain ⟨b', vs, rfl, h1, h2⟩ := rt'
    obtain ⟨rfl, hl⟩ := all_strs es h2
    refine ⟨mkS sep, b', ss.map mkS, rt.1, rfl, .inl (.inl h1), ?_, ?_⟩
    · rw [List.map_map, List.length_map, mkS_len]
      have : (ss.map ((fun x => x.length) ∘ mkS)) = ss.map List.length := List.map_congr_left fun x _ => mkS_len x
      rw [this]
      exact hz
    · rw [join_mkS]
      exact fin.1 _ ⟨rfl, Nat.le_trans (inter_len _ _) hz⟩
  · cases er
/-! ### split -/
theorem spl_parts (c : Nat) : ∀ (x acc : List Nat), TL.spl [c] 0 acc x = (match parts c x with
  | p :: ps => (acc ++ p) :: ps
  | [] => [acc])
  | [], acc => by simp [TL.spl, parts]
  | a :: x, acc => by
    have ih := spl_parts c x
    by_cases e : a = c
    · subst e
      rw [TL.spl_hit (by simp [TL.pre])]
      rw [show [a].length - 1 = 0 from rfl, ih []]
      simp only [parts, if_true, List.append_nil]
      cases hp : parts a x with
      | nil =>
        exfalso
        cases x with
        | nil => simp [parts] at hp
        | cons b x =>
          simp only [parts] at hp
          split at hp
          · cases hp
          · split at hp <;> cases hp
      | cons p ps => simp
    · have : TL.pre [c] (a :: x) = false := by simp [TL.pre, e]
      rw [show TL.spl [c] 0 acc (a :: x) = TL.spl [c] 0 (acc ++ [a]) x from by
        show (if TL.pre [c] (a :: x) = true then _ else _) = _
        rw [this]
        rfl, ih (acc ++ [a])]
      simp only [parts, if_neg e]
      cases hp : parts c x with
      | nil =>
        exfalso
        cases x with
        | nil => simp [parts] at hp
        | cons b x =>
          simp only [parts] at hp
          split at hp
          · cases hp
          · split at hp <;> cases hp
      | cons p ps => simp
theorem split_parts {c : Nat} {x : List Nat} (hc : c < 256) : Txt.split (mkS x) (mkS [c]) = (parts c x).map mkS := by
  have k1 : Builtin.Str.strKind (mkS [c]) = 1 := by
    unfold Builtin.Str.strKind
    rw [if_pos]
    simp [mkS, hc]
  have hk : ¬ Builtin.Str.strKind (mkS x) < Builtin.Str.strKind (mkS [c]) := by
    rw [k1]
    unfold Builtin.Str.strKind
    split
    · omega
    · split <;> omega
  have e := TL.split_spl (mkS x) (mkS [c]) (by rw [tl_mkS]; simp) hk
  rw [tl_mkS, tl_mkS, spl_parts] at e
  have e2 : (Txt.split (mkS x) (mkS [c])).map TL.tl = parts c x := by
    rw [e]
    cases hp : parts c x with
    | nil =>
      exfalso
      cases x with
      | nil => simp [parts] at hp
      | cons b x =>
        simp only [parts] at hp
        split at hp
        · cases hp
        · split at hp <;> cases hp
    | cons p ps => simp
  rw [← e2, List.map_map]
  exact (List.map_id'' (fun y => TL.ext_tl (by simp only [Function.comp]; rw [tl_mkS])) _).symm
theorem parts_len {c : Nat} : ∀ {x : List Nat}, ∀ p ∈ parts c x, p.length ≤ x.length
  | [], p, h => by
    simp only [parts, List.mem_singleton] at h
    subst h
    simp
  | a :: x, p, h => by
    have ih := parts_len (c := c) (x := x)
    simp only [parts] at h
    split at h
    · rcases List.mem_cons.mp h with h | h
      · subst h
        simp
      · have := ih p h
        simp only [List.length_cons]
        omega
    · split at h
      · rename_i q qs e
        rw [e] at ih
        rcases List.mem_cons.mp h with h | h
        · subst h
          have := ih q List.mem_cons_self
          simp only [List.length_cons]
          omega
        · have := ih p (List.mem_cons_of_mem _ h)
          simp only [List.length_cons]
          omega
      · rw [List.mem_singleton] at h
        subst h
        simp
theorem s_split {a b : E} {xa xb : Expr} {apos pos : Pos} (hline : (apos.endLine == pos.line) = true) (hs : isStar xb = false) (hb0 : noBare xa = true) (ha : PE X xa (den cl G C W a)) (hb : PE X xb (den cl G C W b)) : PE X (.Call (.Attribute xa "split" apos) [xb] [] pos) (den cl G C W (.meth .split a (.cons b .nil))) := by
  refine pe_w (pe_split ha hb (by rw [star_one hs]; rfl) (base_of (noBare_of hb0) _) hline) fun σ H Q ⟨I, m, ρ, s, hf, si, rs, o⟩ => ?_
  refine ⟨I, m, ρ, s, hf, si, rs, meth1 hf si rs o fun u s1 I1 m1 H1 x hf1 si1 r1 hh q => ⟨head_str hh (by decide) r1, q _ ?_⟩⟩
  intro y I2 H2 t t' r sub hf2 rt rt' er fin
  match t, t', er with
  | .str z, .str [c], er =>
    simp only [primT] at er
    split at er
    · rename_i hz
      cases er
      refine ⟨mkS z, mkS [c], rt.1, by rw [rt'.1], by rw [mkS_len]; rfl, by rw [mkS_len]; exact Nat.le_trans hz.2 (by rw [line_LIM]; exact Nat.le_refl _), ?_⟩
      rw [split_parts hz.1]
      intro p hp
      refine fin.2 p _ hp ⟨_, rfl, relL_strs fun w hw => ?_⟩
      have := parts_len w hw
      omega
    · cases er
/-! ### replace, where a token is out -/
theorem repl_parts (c : Nat) (r : List Nat) : ∀ x : List Nat, StrLaws.replL [c] r x = inter r (parts c x)
  | [] => by rw [StrLaws.replL_nil]; rfl
  | a :: x => by
    have ih := repl_parts c r x
    have ne : parts c x ≠ [] := by
      cases x with
      | nil => simp [parts]
      | cons b x =>
        simp only [parts]
        split
        · simp
        · split <;> simp
    obtain ⟨p, ps, hp⟩ := List.exists_cons_of_ne_nil ne
    by_cases e : a = c
    · subst e
      rw [StrLaws.replL_hit (by simp) (by simp)]
      simp only [List.length_cons, List.length_nil, List.drop_succ_cons, List.drop_zero, ih, parts, if_true, hp, inter, List.nil_append]
    · rw [StrLaws.replL_miss (by simp [e]), ih]
      simp only [parts, if_neg e, hp]
      cases ps with
      | nil => simp [inter]
      | cons q ps => simp [inter]
theorem replace_mkS {c : Nat} {x r : List Nat} : Txt.replace (mkS x) (mkS [c]) (mkS r) = mkS (inter r (parts c x)) := by
  have e := StrLaws.replace_list (x := mkS x) (y := mkS [c]) (z := mkS r) (by rw [mkS_len]; exact Nat.le_refl _)
  rw [show (mkS [c]).cps.toList = [c] from mkS_toList _, show (mkS r).cps.toList = r from mkS_toList _, show (mkS x).cps.toList = x from mkS_toList _, repl_parts] at e
  exact TL.ext_tl (by rw [tl_mkS]; exact e)
theorem pe_strOp {w : Str} {j : Nat} {p pos : Pos} {op : Operator} {f : Expr} {r : R2} {tf : TE} (ho : OpR X (binaryOp op) r) (hb : PET X f tf) : PE X (.BinOp (.Constant (.str w) j p) op f pos) (tOp r (tC (.str w)) tf) :=
  ⟨fun pins s σ H Q I h => wpAny_BinOp (Calls.Constant_str (thn (hb pins { s with toks := s.toks + 1 } σ H _ (by show 1 ≤ s.toks + 1; omega) (I.tok _) h) fun u s2 ⟨y, H2, I2, r2, q2⟩ => ho pins s2 σ H2 (.str w) y _ u Q I2 ⟨_, rfl⟩ r2 q2))⟩
theorem parts_sum (c : Nat) : ∀ x : List Nat, (parts c x).length ≤ x.length + 1 ∧ ((parts c x).map List.length).sum ≤ x.length
  | [] => by simp [parts]
  | a :: x => by
    obtain ⟨h1, h2⟩ := parts_sum c x
    simp only [parts]
    split
    · simp only [List.length_cons, List.map_cons, List.sum_cons, List.length_nil]
      omega
    · split
      · rename_i p ps e
        rw [e] at h1 h2
        simp only [List.length_cons, List.map_cons, List.sum_cons] at h1 h2 ⊢
        omega
      · simp
theorem pet_w {e : Expr} {t t' : TE} (h : PET X e t) (k : ∀ σ H Q, t' σ H Q → t σ H fun v H' => HF H' → Q v H') : PET X e t' := fun pins s σ H Q h0 J q => thn (h pins s σ H _ h0 J (k σ H Q q)) fun _ _ ⟨v, H', J', r, z⟩ => ⟨v, H', J', r, z (inv_hf J')⟩
theorem s_repl {a : E} {xa : Expr} {r : List Nat} {ch : Nat} {i j : Nat} {c0 c1 apos pos : Pos} (hline : (apos.endLine == pos.line) = true) (hb0 : noBare xa = true) (hz : [ch] ≠ r) (ha : PE X xa (den cl G C W a)) :
    PET X (.Call (.Attribute xa "replace" apos) [.Constant (.str (mkS [ch])) i c0, .Constant (.str (mkS r)) j c1] [] pos) (den cl G C W (.meth .replace a (.cons (.con (.str [ch])) (.cons (.con (.str r)) .nil)))) := by
  have hne : (mkS [ch] == mkS r) = false := by
    rw [beq_eq_false_iff_ne]
    intro e
    have := congrArg (fun x => x.cps.toList) e
    simp only [mkS_toList] at this
    exact hz this
  refine pet_w (CwR.pet_replC ha hne rfl (base_of (noBare_of hb0) _) hline) fun σ H Q ⟨I, m, ρ, s, hf, si, rs, o⟩ => ?_
  simp only [ev, evs] at o
  refine ⟨I, m, ρ, s, hf, si, rs, OutR.first o fun u s1 I1 m1 H1 x hf1 e1 si1 r1 o1 => ?_⟩
  split at o1
  · rename_i hh
    simp only [headOk] at hh
    split at hh
    · rename_i w
      simp only [R.bind, asT, optAll, metOk, if_true, primT] at o1
      split at o1
      · rename_i hc
        obtain ⟨rfl, hl⟩ := r1
        have fin := fin_of (w := .str (inter r (parts ch w))) si1 o1
        refine ⟨mkS w, rfl, by rw [mkS_len, mkS_len]; exact hc.2.2, fun hf2 => ?_⟩
        rw [replace_mkS]
        have len : (inter r (parts ch w)).length ≤ LIM := by
          obtain ⟨n1, n2⟩ := parts_sum ch w
          have n3 := inter_len r (parts ch w)
          have n4 : (parts ch w).length * r.length ≤ (w.length + 1) * r.length := Nat.mul_le_mul_right _ n1
          have := hc.2.2
          omega
        exact fin.1 _ ⟨rfl, len⟩ hf2
      · exact o1.elim
    · cases hh
  · exact o1.elim
/-- a written text, then what wants a token -/
theorem s_binT {op : Bop} {w : List Nat} {b : E} {xb : Expr} {j : Nat} {p pos : Pos} (hop : op ≠ .bor) (hw : w.length ≤ LIM) (hb : PET X xb (den cl G C W b)) : PE X (.BinOp (.Constant (.str (mkS w)) j p) (opK op) xb pos) (den cl G C W (.bin op (.con (.str w)) b)) := by
  refine pe_w (pe_strOp (op_bin op hop) hb) fun σ H Q ⟨I, m, ρ, s, hf, si, rs, o⟩ => ?_
  simp only [ev, R.bind] at o
  refine ⟨I, m, ρ, s, hf, si, rs, OutR.first o fun u s2 I2 m2 H2 y hf2 e2 si2 r2 o2 => ?_⟩
  unfold lift2 at o2
  rw [show asT s2 (.v (.str w)) = some (.str w) from rfl] at o2
  cases eb : asT s2 u with
  | none =>
    rw [eb] at o2
    exact o2.elim
  | some t' =>
    rw [eb] at o2
    simp only at o2
    cases ew : binT op (.str w) t' with
    | none =>
      rw [ew] at o2
      exact o2.elim
    | some z =>
      rw [ew] at o2
      exact ⟨I2, .str w, t', z, ⟨rfl, hw⟩, asT_rd si2 r2 eb, ew, fin_of si2 o2⟩
theorem ev_replw {a : E} {w r : List Nat} {ch : Nat} (ρ : Env) (s : Store) : ev G C (.bin .add (.con (.str w)) (.meth .replace a (.cons (.con (.str [ch])) (.cons (.con (.str r)) .nil)))) ρ s = ev G C (.meth .replw a (.cons (.con (.str w)) (.cons (.con (.str [ch])) (.cons (.con (.str r)) .nil)))) ρ s := by
  simp only [ev, evs, R.bind]
  cases e : ev G C a ρ s with
  | ok u s1 =>
    simp only
    by_cases hh : ∃ t, u = .v (.str t)
    · obtain ⟨t, rfl⟩ := hh
      have h1 : headOk .replace s1 (.v (.str t)) = true := rfl
      have h2 : headOk .replw s1 (.v (.str t)) = true := rfl
      have h3 : ∀ us, metOk .replace us = true := fun _ => rfl
      have h4 : ∀ us, metOk .replw us = true := fun _ => rfl
      have h5 : ∀ t : T, asT s1 (.v t) = some t := fun _ => rfl
      simp only [h1, h2, h3, h4, if_true, optAll, primT, h5]
      by_cases hc : ch < 256 ∧ [ch] ≠ r ∧ t.length + (t.length + 1) * r.length ≤ LIM
      · simp only [if_pos hc, Option.map_some, okO, lift2, h5]
      · simp only [if_neg hc, Option.map_none, okO]
    · have h1 : headOk .replace s1 u = false := by
        cases u with
        | v t => cases t <;> first | rfl | exact absurd ⟨_, rfl⟩ hh
        | _ => rfl
      have h2 : headOk .replw s1 u = false := by
        cases u with
        | v t => cases t <;> first | rfl | exact absurd ⟨_, rfl⟩ hh
        | _ => rfl
      simp only [h1, h2, Bool.false_eq_true, if_false]
  | exc => rfl
  | bad => rfl
theorem s_replw {a : E} {xa : Expr} {w r : List Nat} {ch : Nat} {i j k : Nat} {c0 c1 c2 apos pos pos2 : Pos} (hw : w.length ≤ LIM) (hline : (apos.endLine == pos.line) = true) (hb0 : noBare xa = true) (hz : [ch] ≠ r) (ha : PE X xa (den cl G C W a)) :
    PE X (.BinOp (.Constant (.str (mkS w)) k c2) .Add (.Call (.Attribute xa "replace" apos) [.Constant (.str (mkS [ch])) i c0, .Constant (.str (mkS r)) j c1] [] pos) pos2) (den cl G C W (.meth .replw a (.cons (.con (.str w)) (.cons (.con (.str [ch])) (.cons (.con (.str r)) .nil))))) := by
  have e : den cl G C W (.bin .add (.con (.str w)) (.meth .replace a (.cons (.con (.str [ch])) (.cons (.con (.str r)) .nil)))) = den cl G C W (.meth .replw a (.cons (.con (.str w)) (.cons (.con (.str [ch])) (.cons (.con (.str r)) .nil)))) := by
    have e2 : ev G C (.bin .add (.con (.str w)) (.meth .replace a (.cons (.con (.str [ch])) (.cons (.con (.str r)) .nil)))) = ev G C (.meth .replw a (.cons (.con (.str w)) (.cons (.con (.str [ch])) (.cons (.con (.str r)) .nil)))) := by
      funext ρ s
      exact ev_replw ρ s
    simp only [den, e2]
  rw [← e]
  exact s_binT (op := .add) (by decide) hw (s_repl hline hb0 hz ha)
/-! ### index -/
theorem firstIx_spec {t : T} : ∀ {xs : List T} {n j : Nat}, firstIx t n xs = some j → ∃ i z, j = n + i ∧ xs[i]? = some z ∧ pyEq z t = true ∧ ∀ (m : Nat) z', m < i → xs[m]? = some z' → pyEq z' t = false
  | [], n, j, h => by cases h
  | a :: xs, n, j, h => by
    unfold firstIx at h
    split at h
    · rename_i e
      cases h
      exact ⟨0, a, rfl, rfl, e, fun m z' hm => by omega⟩
    · rename_i e
      obtain ⟨i, z, rfl, h1, h2, h3⟩ := firstIx_spec h
      refine ⟨i + 1, z, by omega, h1, h2, fun m z' hm hz => ?_⟩
      cases m with
      | zero =>
        cases hz
        simpa using e
      | succ m => exact h3 m z' (by omega) hz
def rIndexT (K : PySem.W.Frag) : V → List V → Hp → VK → Prop := fun x xs H Q => ∃ (a : Addr) (vs : List V) (y : V) (ts : List T) (t : T) (j : Nat), x = V.ref a ∧ xs = [y] ∧ SqL K H a vs ∧ RelL (conH H) ts vs ∧ Rel (conH H) t y ∧ ts.all (nodct 59) = true ∧ nodct 59 t = true ∧ firstIx t 0 ts = some j ∧ Q (.int (j : Nat)) H
theorem mt_indexT (hu : X.A.units + 70 < cLine) : MtR X "list.index" (rIndexT X.K) := by
  intro pins s σ H x xs v us Q J rx rxs h
  obtain ⟨a, vs, y, ts, t, j, rfl, rfl, hs, hr, ht, ok, okt, hj, q⟩ := h
  cases rx
  cases rxs with
  | cons ry rt =>
    rename_i uy ut
    cases rt
    obtain ⟨its, rv, ⟨⟨cls, dd, data, sl⟩, n, ho, hc, hdn, hd⟩, hlen⟩ := J.list hs
    simp only at hc hd
    subst hc hd
    obtain ⟨i, z, rfl, hz, hit, hno⟩ := firstIx_spec hj
    have hl1 := relL_len hr
    have hl2 := rv.length
    have hil : i < ts.length := (List.getElem?_eq_some_iff.mp hz).1
    have hjl : i < its.toArray.size := by simp; omega
    have hsl := sizeLine_eq
    have pre := mem_pre J hu ok okt hr rv ht ry
    have at_ : ∀ (m : Nat) (hm : m < its.toArray.size) (z' : T), ts[m]? = some z' → eqV H ts t its.toArray[m] = pyEq z' t := by
      intro m hm z' hz'
      have hml : m < its.length := by simpa using hm
      obtain ⟨v1, p1, p2⟩ := vals_at rv hml
      obtain ⟨ty, p3, p4⟩ := relL_at hr p1
      rw [hz'] at p3
      cases p3
      have := eqV_at (H := H) (x := t) (List.mem_of_getElem? hz') p4 p2
      simpa using this
    refine call_meets PySem.F.slot_list_index ⟨_, ho, rfl⟩ PySem.F.entry_list_index (PySem.F.args_list_index_2 _ _)
      (SeqAt.list_indexAt a its.toArray n dd sl uy (eqV H ts t) i hjl (by omega) ?_ ?_) ⟨ho, pre, ?_⟩
    · rw [at_ i hjl z hz]
      exact hit
    · intro m hm hmj
      have hmy : m < ts.length := by omega
      rw [at_ m hm _ (List.getElem?_eq_getElem hmy)]
      exact hno m _ hmj (List.getElem?_eq_getElem hmy)
    · refine ⟨.int (i : Nat), H, J.tok _, ⟨_, rfl⟩, ?_⟩
      rw [Nat.zero_add] at q
      exact q
theorem s_index (g : Good cl G C k c X W) {a b : E} {xa xb : Expr} {apos pos : Pos} (hline : (apos.endLine == pos.line) = true) (hs : isStar xb = false) (hb0 : noBare xa = true) (ha : PE X xa (den cl G C W a)) (hb : PE X xb (den cl G C W b)) : PE X (.Call (.Attribute xa "index" apos) [xb] [] pos) (den cl G C W (.meth .index a (.cons b .nil))) := by
  refine pe_w (pe_bm PySem.F.plainAttrs_list PySem.F.slot_list_index PySem.F.type_list_index (mt_indexT g.hu) ha (pa_cons hb pa_nil (star_one hs _ _)) (base_of (noBare_of hb0) _) (by rw [star_one hs]; rfl) hline (star_one hs _ _) rfl) fun σ H Q ⟨I, m, ρ, s, hf, si, rs, o⟩ => ?_
  refine ⟨I, m, ρ, s, hf, si, rs, meth1 hf si rs o fun u s1 I1 m1 H1 x hf1 si1 r1 hh q => ?_⟩
  have hd : ∃ vs p, x = V.ref p ∧ Rd H1 p (.lst vs) := by
    simp only [headOk] at hh
    split at hh
    · rename_i xs e
      obtain ⟨p, vs, rfl, h1, _⟩ := asT_rd si1 r1 e
      exact ⟨vs, p, rfl, h1⟩
    · cases hh
  obtain ⟨vs1, p1, rfl, h1⟩ := hd
  refine ⟨.inl ⟨rfl, vs1, .inl h1⟩, q _ ?_⟩
  intro y I2 H2 t t' r sub hf2 rt rt' er fin
  cases t <;> simp only [primT, reduceCtorEq] at er
  rename_i xs
  split at er
  · rename_i hz
    rw [Bool.and_eq_true] at hz
    obtain ⟨j, ej, rfl⟩ := Option.map_eq_some_iff.mp er
    obtain ⟨b', vs, e', h1, h2⟩ := rt
    cases e'
    exact ⟨p1, vs, y, xs, t', j, rfl, rfl, .inl h1, relL_con sub h2, rdT_con sub rt', hz.1, hz.2, ej, fin.1 _ rfl⟩
  · cases er
/-! ### get -/
theorem m1_of {xa xb : Expr} {nm : Str} {apos pos : Pos} (hline : (apos.endLine == pos.line) = true) (hs : isStar xb = false) (hb0 : noBare xa = true) : M1 X xa nm apos xb pos := by
  refine ⟨base_of (noBare_of hb0) _, ?_, hline, ?_⟩
  · rw [star_one hs]
    rfl
  · rw [star_one hs]
    rfl
theorem m2_of {xa xb xc : Expr} {nm : Str} {apos pos : Pos} (hline : (apos.endLine == pos.line) = true) (hs : isStar xb = false) (hs2 : isStar xc = false) (hb0 : noBare xa = true) : M2 X xa nm apos xb xc pos := by
  refine ⟨base_of (noBare_of hb0) _, ?_, hline, ?_⟩
  · rw [star_one hs, star_one hs2]
    rfl
  · rw [star_one hs, star_one hs2]
    rfl
theorem isD_of {I : Hp} {m : List Addr} {s : Store} {H : Hp} (si : Sim cl I m s H) {u : U} {x : V} (r : RelU I m u x) (h : (dctU s u).isSome = true) : ∃ a, x = .ref a ∧ IsD H a := by
  obtain ⟨kvs, e⟩ := Option.isSome_iff_exists.mp h
  obtain ⟨a, ws, rfl, h1, h2⟩ := dct_ok si r e
  exact ⟨a, rfl, .inl ⟨ws, h1⟩⟩
theorem tKy_R {I H : Hp} {t : T} {q : Ky} {x : V} (h : tKy t = some q) (r : RdT I H t x) : x = kV (kyK q) ∧ kyB q := by
  cases t <;> simp only [tKy, Option.some.injEq, reduceCtorEq] at h
  · subst h
    exact ⟨r, trivial⟩
  · subst h
    exact ⟨r.1, r.2⟩
theorem s_get1 (g : Good cl G C k c X W) {a b : E} {xa xb : Expr} {apos pos : Pos} (hline : (apos.endLine == pos.line) = true) (hs : isStar xb = false) (hb0 : noBare xa = true) (ha : PE X xa (den cl G C W a)) (hb : PE X xb (den cl G C W b)) : PE X (.Call (.Attribute xa "get" apos) [xb] [] pos) (den cl G C W (.meth .get1 a (.cons b .nil))) := by
  refine pe_w (pe_dget1 g.hu1 ha hb (m1_of hline hs hb0)) fun σ H Q ⟨I, m, ρ, s, hf, si, rs, o⟩ => ?_
  refine ⟨I, m, ρ, s, hf, si, rs, meth1 hf si rs o fun u s1 I1 m1 H1 x hf1 si1 r1 hh q => ?_⟩
  obtain ⟨d, rfl, hd⟩ := isD_of si1 r1 hh
  refine ⟨d, rfl, hd, q _ ?_⟩
  intro y I2 H2 t t' r sub hf2 rt rt' er fin
  cases t <;> simp only [primT, reduceCtorEq] at er
  rename_i kvs
  obtain ⟨kk, ek, rfl⟩ := Option.map_eq_some_iff.mp er
  obtain ⟨d', ws, e', h1, h2⟩ := rt
  cases e'
  refine ⟨valV ws (kyK kk), .inl ⟨ws, kyK kk, h1, (tKy_R ek rt').1, rfl⟩, ?_⟩
  have gk := relK_get (k := kk) h2
  cases eg : kget kk kvs with
  | none =>
    rw [eg] at gk
    rw [show valV ws (kyK kk) = none from gk]
    rw [eg] at fin
    exact fin.1 _ rfl
  | some w =>
    rw [eg] at gk
    obtain ⟨z, g1, g2⟩ := gk
    rw [g1]
    rw [eg] at fin
    exact fin.1 _ g2
end
end Cab

set_option Elab.async false
set_option linter.all false
set_option maxRecDepth 100000
set_option maxHeartbeats 4000000
namespace Cab
open PySem PySem.Spec PyProof.Rows L2
section
variable {cl : Nat → Addr} {G : Glo} {C : Call} {k : Nat} {c : MC} {X : Cx} {W : WX}
/-! ### get with another -/
theorem s_get2 (g : Good cl G C k c X W) {a b d : E} {xa xb xd : Expr} {apos pos : Pos} (hline : (apos.endLine == pos.line) = true) (hs : isStar xb = false) (hs2 : isStar xd = false) (hb0 : noBare xa = true) (ha : PE X xa (den cl G C W a)) (hb : PE X xb (den cl G C W b)) (hd : PE X xd (den cl G C W d)) :
    PE X (.Call (.Attribute xa "get" apos) [xb, xd] [] pos) (den cl G C W (.meth .get2 a (.cons b (.cons d .nil)))) := by
  refine pe_w (pe_dget2 g.hu1 ha hb hd (m2_of hline hs hs2 hb0)) fun σ H Q ⟨I, m, ρ, s, hf, si, rs, o⟩ => ?_
  simp only [ev, evs] at o
  refine ⟨I, m, ρ, s, hf, si, rs, OutR.first o fun u s1 I1 m1 H1 x hf1 e1 si1 r1 o1 => ?_⟩
  split at o1
  · rename_i hh
    obtain ⟨p, rfl, hp⟩ := isD_of si1 r1 hh
    refine ⟨p, rfl, hp, I1, m1, ρ, s1, hf1, si1, rs.mono e1, ?_⟩
    cases eb : ev G C b ρ s1 with
    | bad =>
      rw [eb] at o1
      exact o1.elim
    | exc q s2 =>
      rw [eb] at o1
      exact o1
    | ok w s2 =>
      rw [eb] at o1
      simp only [R.bind] at o1
      intro I2 m2 H2 y hf2 e2 si2 r2
      have o1 := OutR.mono o1 e2
      refine ⟨I2, m2, ρ, s2, hf2, si2, (rs.mono e1).mono e2, ?_⟩
      cases ed : ev G C d ρ s2 with
      | bad =>
        rw [ed] at o1
        exact o1.elim
      | exc q s3 =>
        rw [ed] at o1
        exact o1
      | ok z s3 =>
        rw [ed] at o1
        simp only at o1
        intro I3 m3 H3 zv hf3 e3 si3 r3
        have o3 := OutR.mono o1 e3
        cases ea : asT s3 u with
        | none =>
          rw [ea] at o3
          exact o3.elim
        | some t =>
          cases ew : asT s3 w with
          | none =>
            rw [ea] at o3
            simp only [optAll, ew] at o3
            exact o3.elim
          | some t' =>
            cases ez : asT s3 z with
            | none =>
              rw [ea] at o3
              simp only [optAll, ew, ez] at o3
              exact o3.elim
            | some t'' =>
              rw [ea] at o3
              simp only [optAll, ew, ez] at o3
              split at o3
              · rename_i hv
                simp only [metOk, List.all_cons, Bool.and_eq_true] at hv
                cases er : primT .get2 [t, t', t''] with
                | none =>
                  rw [er] at o3
                  exact o3.elim
                | some r =>
                  rw [er] at o3
                  have fin := fin_of si3 o3
                  have rt := asT_rd si3 (RelU.mono e3.i e3.mm (RelU.mono e2.i e2.mm r1)) ea
                  have rt' := asT_rd si3 (RelU.mono e3.i e3.mm r2) ew
                  cases t <;> simp only [primT, reduceCtorEq] at er
                  rename_i kvs
                  obtain ⟨kk, ek, rfl⟩ := Option.map_eq_some_iff.mp er
                  obtain ⟨d', ws, e', h1, h2⟩ := rt
                  cases e'
                  refine ⟨valV ws (kyK kk), .inl ⟨ws, kyK kk, h1, (tKy_R ek rt').1, rfl⟩, ?_⟩
                  have gk := relK_get (k := kk) h2
                  cases eg : kget kk kvs with
                  | some w =>
                    rw [eg] at gk
                    obtain ⟨z, g1, g2⟩ := gk
                    rw [g1]
                    rw [eg] at fin
                    exact fin.1 _ g2
                  | none =>
                    rw [eg] at gk
                    rw [show valV ws (kyK kk) = none from gk]
                    rw [eg] at fin
                    cases z with
                    | v tz =>
                      cases ez
                      exact fin.1 _ r3
                    | ref i => simp [isV] at hv
                    | tup us => simp [isV] at hv
              · exact o3.elim
  · exact o1.elim
/-! ### list(d.values()) -/
theorem relK_vals {I : Hp} : ∀ {ts : List (Ky × T)} {ws : List (Key × V)}, RelK I ts ws → RelL I (ts.map (·.2)) (ws.map (·.2))
  | [], _, h => by
    cases h
    rfl
  | (_, _) :: _, _, h => by
    obtain ⟨v, r, rfl, h1, h2⟩ := h
    exact ⟨v, _, rfl, h1.2, relK_vals h2⟩
theorem s_vals (g : Good cl G C k c X W) {a : E} {xa : Expr} {p apos cpos pos : Pos} (hg : glB c.sc "list" = true) (hb : (("list" : Str) ∈ c.blt)) (hline : (apos.endLine == cpos.line) = true) (hb0 : noBare xa = true) (ha : PE X xa (den cl G C W a)) :
    PE X (.Call (.Name "list" p) [.Call (.Attribute xa "values" apos) [] [] cpos] [] pos) (den cl G C W (.meth .values a .nil)) := by
  refine pe_w (pe_listVals g.calm ha (g.gl _ hg) (g.blt _ hb) (by decide +kernel) (base_of (noBare_of hb0) _) hline (star_one rfl _ _)) fun σ H Q ⟨I, m, ρ, s, hf, si, rs, o⟩ => ?_
  simp only [ev, evs] at o
  refine ⟨I, m, ρ, s, hf, si, rs, OutR.first o fun u s1 I1 m1 H1 x hf1 e1 si1 r1 o1 => ?_⟩
  split at o1
  · rename_i hh
    simp only [R.bind, optAll] at o1
    cases ea : asT s1 u with
    | none =>
      rw [ea] at o1
      exact o1.elim
    | some t =>
      rw [ea] at o1
      simp only [metOk, if_true] at o1
      cases er : primT .values [t] with
      | none =>
        rw [er] at o1
        exact o1.elim
      | some r =>
        rw [er] at o1
        have fin := fin_of si1 o1
        have rt := asT_rd si1 r1 ea
        cases t <;> simp only [primT, reduceCtorEq, Option.some.injEq] at er
        subst er
        obtain ⟨d, ws, rfl, h1, h2⟩ := rt
        exact ⟨d, ws, rfl, h1, fun p hp => fin.2 p _ hp ⟨_, rfl, relK_vals h2⟩⟩
  · exact o1.elim
/-! ### max, min with a default -/
def rMaxDf : List V → List V → Hp → VK → Prop := fun vs zs H Q => ∃ (a : Addr) (ns : List Int) (d : Int), vs = [V.ref a] ∧ zs = [.int d] ∧ Rd H a (.lst (ns.map V.int)) ∧ Q (.int (maxL d ns)) H
def rMinDf : List V → List V → Hp → VK → Prop := fun vs zs H Q => ∃ (a : Addr) (ns : List Int) (d : Int), vs = [V.ref a] ∧ zs = [.int d] ∧ Rd H a (.lst (ns.map V.int)) ∧ Q (.int (minL d ns)) H
theorem holds_int_eq {h : Heap} {v : Value} {n : Int} (H : PySem.W.Holds h v n) : ∃ t, v = .int n t := by
  obtain ⟨bs, r⟩ := H
  cases r
  exact ⟨_, rfl⟩
theorem cr_maxDf (hc : X.calm = true) (hu : X.A.units + 70 < cLine) : CallRK X (.builtin "max") [Str.ofString "default"] rMaxDf := by
  intro pins s σ H vs zs us ws Q J r rz h
  obtain ⟨a, ns, d, rfl, rfl, hs, q⟩ := h
  obtain ⟨its, rv, hl, hz⟩ := J.list (.inl hs)
  obtain rfl := Vals.ref1 r
  obtain ⟨w1, rfl, t1, rfl⟩ := vals1 rz
  refine PySem.W.max_list_datum_default (α := Int) (J.ok.hd hc) hl.isList (PySem.W.HoldAll.of_ints rv.ints) (by show X.A.units + 1 + 0 < cLine; omega) (fun e h' tk hk => ?_) fun y ys i v h' tk e hi hv hk => ?_
  · subst e
    exact ⟨.int d, H, J.kept hk, ⟨_, rfl⟩, q⟩
  · subst e
    obtain ⟨t, rfl⟩ := holds_int_eq hv
    refine ⟨.int _, H, J.kept hk, ⟨_, rfl⟩, ?_⟩
    have : PySem.W.maxOf y ys = maxL d (y :: ys) := by
      unfold PySem.W.maxOf maxL
      congr 1
      funext a b
      show (if decide (a < b) = true then b else a) = _
      simp
    rw [this]
    exact q
theorem cr_minDf (hc : X.calm = true) (hu : X.A.units + 70 < cLine) : CallRK X (.builtin "min") [Str.ofString "default"] rMinDf := by
  intro pins s σ H vs zs us ws Q J r rz h
  obtain ⟨a, ns, d, rfl, rfl, hs, q⟩ := h
  obtain ⟨its, rv, hl, hz⟩ := J.list (.inl hs)
  obtain rfl := Vals.ref1 r
  obtain ⟨w1, rfl, t1, rfl⟩ := vals1 rz
  refine PySem.W.min_list_datum_default (α := Int) (J.ok.hd hc) hl.isList (PySem.W.HoldAll.of_ints rv.ints) (by show X.A.units + 1 + 0 < cLine; omega) (fun e h' tk hk => ?_) fun y ys i v h' tk e hi hv hk => ?_
  · subst e
    exact ⟨.int d, H, J.kept hk, ⟨_, rfl⟩, q⟩
  · subst e
    obtain ⟨t, rfl⟩ := holds_int_eq hv
    refine ⟨.int _, H, J.kept hk, ⟨_, rfl⟩, ?_⟩
    have : PySem.W.minOf y ys = minL d (y :: ys) := by
      unfold PySem.W.minOf minL
      congr 1
      funext a b
      show (if decide (b < a) = true then b else a) = _
      simp
    rw [this]
    exact q
/-- which of the two -/
def mxS : Prm → Option Str
  | .maxd => some "max"
  | .mind => some "min"
  | _ => none
theorem s_mxd (g : Good cl G C k c X W) {pr : Prm} {x : Str} {a d : E} {xa xd : Expr} {p pos kp : Pos} (hp : mxS pr = some x) (hg : glB c.sc x = true) (hb : x ∈ c.blt) (hs : isStar xa = false) (ha : PE X xa (den cl G C W a)) (hd : PE X xd (den cl G C W d)) :
    PE X (.Call (.Name x p) [xa] [⟨some (Str.ofString "default"), xd, kp⟩] pos) (den cl G C W (.prm pr (.cons a (.cons d .nil)))) := by
  have core : ∀ {r : List V → List V → Hp → VK → Prop}, (∀ {I H : Hp} {t t' w : T} {x y : V} {Q : VK}, (∀ a o, I a = some o → Rd H a o) → RdT I H t x → RdT I H t' y → primT pr [t, t'] = some w → Fin I H w Q → r [x] [y] H Q) →
      ∀ σ H Q, den cl G C W (.prm pr (.cons a (.cons d .nil))) σ H Q → tCKw r (tCons (den cl G C W a) tNil) (tCons (den cl G C W d) tNil) σ H fun v H' => HF H' → Q v H' := by
    rintro r hr σ H Q ⟨I, m, ρ, s, hf, si, rs, o⟩
    simp only [ev, evs] at o
    refine ⟨I, m, ρ, s, hf, si, rs, ?_⟩
    cases ea : ev G C a ρ s with
    | bad =>
      rw [ea] at o
      exact o.elim
    | exc q s2 =>
      rw [ea] at o
      exact o
    | ok u s1 =>
      rw [ea] at o
      simp only [R.bind] at o
      intro I1 m1 H1 x1 hf1 e1 si1 r1
      have o := OutR.mono o e1
      refine ⟨I1, m1, ρ, s1, hf1, si1, rs.mono e1, ?_⟩
      cases ed : ev G C d ρ s1 with
      | bad =>
        rw [ed] at o
        exact o.elim
      | exc q s2 =>
        rw [ed] at o
        exact o
      | ok w s2 =>
        rw [ed] at o
        simp only at o
        intro I2 m2 H2 y hf2 e2 si2 r2
        have o := OutR.mono o e2
        cases eu : asT s2 u with
        | none =>
          simp only [optAll, eu] at o
          exact o.elim
        | some t =>
          cases ew : asT s2 w with
          | none =>
            simp only [optAll, eu, ew] at o
            exact o.elim
          | some t' =>
            simp only [optAll, eu, ew] at o
            cases er : primT pr [t, t'] with
            | none =>
              rw [er] at o
              exact o.elim
            | some z =>
              rw [er] at o
              exact hr si2.sub (asT_rd si2 (RelU.mono e2.i e2.mm r1) eu) (asT_rd si2 r2 ew) er (fin_of si2 o)
  cases pr <;> simp only [mxS, reduceCtorEq, Option.some.injEq] at hp <;> subst hp
  · refine pe_w (pe_callBK (cr_maxDf g.calm g.hu) (g.gl _ hg) (g.blt _ hb) (by decide +kernel) (pa_cons ha pa_nil (star_one hs _ _)) (pk_cons hd pk_nil) (by decide) (by decide) (by rw [star_one hs]; rfl) (by rw [star_one hs]; rfl)) (core ?_)
    intro I H t t' w x y Q sub rt rt' er fin
    cases t <;> cases t' <;> simp only [primT, reduceCtorEq] at er
    obtain ⟨is, ei, rfl⟩ := Option.map_eq_some_iff.mp er
    obtain ⟨b, vs, rfl, h1, h2⟩ := rt
    have := all_ints ei h2
    subst this
    exact ⟨b, is, _, rfl, by rw [show y = V.int _ from rt'], h1, fin.1 _ rfl⟩
  · refine pe_w (pe_callBK (cr_minDf g.calm g.hu) (g.gl _ hg) (g.blt _ hb) (by decide +kernel) (pa_cons ha pa_nil (star_one hs _ _)) (pk_cons hd pk_nil) (by decide) (by decide) (by rw [star_one hs]; rfl) (by rw [star_one hs]; rfl)) (core ?_)
    intro I H t t' w x y Q sub rt rt' er fin
    cases t <;> cases t' <;> simp only [primT, reduceCtorEq] at er
    obtain ⟨is, ei, rfl⟩ := Option.map_eq_some_iff.mp er
    obtain ⟨b, vs, rfl, h1, h2⟩ := rt
    have := all_ints ei h2
    subst this
    exact ⟨b, is, _, rfl, by rw [show y = V.int _ from rt'], h1, fin.1 _ rfl⟩
/-! ### a def called with nothing -/
theorem pe_callSD0 {k : Nat} {f : Addr} {fd : FuncData} {ps : List Str} {sp : Sp} {ds : List Value} {dvs : List V} {E : St → Value → Option Addr → Hp → Prop} {x : Str} {p pos : Pos} (F : FnOk X.prog X.w X.K X.mg X.base (L2.CX X.prog X.w) k f fd ps sp) (hr : Room k X.A) (hg : Gl X x) (hm : X.mg x = some (.ref f)) (hk : PySem.W.keepIn X.K (.ref f) = true) (hb : Binds X.K fd ps ds) (hd : Vals dvs ds) (hx : ∀ σ, PassesAt (L2.CX X.prog X.w) X σ (E σ))
    (hdb : (x == ("__debug__" : Str)) = false := by decide) : PE X (.Call (.Name x p) [] [] pos) (tCallSD sp dvs E tNil) := by
  refine ⟨fun pins s σ H Q I h => ?_⟩
  refine wpAny_Call_Name_kw (ld_glob I hg hm ?_ hdb)
  exact PySem.W.callWith_K0 I.kIn hk (run_fnSD (us := []) F hr hb hd (hx σ) I .nil h)
theorem s_call0 (g : Good cl G C k c X W) {x : Str} {q : Nat × Nat × Nat} {md : Md} {p pos : Pos} (hfn : c.fns.lookup x = some q) (hg : glB c.sc x = true) (hn : nameOk x = true) (h2 : q.2.1 ≤ q.2.2) :
    PE X (.Call (.Name x p) [] [] pos) (den cl G C W (.call md q.1 .nil)) := by
  obtain ⟨dfl, fa, fd, ps, m1, m2, F, m3, m4, m5⟩ := (g.fns x q hfn).ex
  obtain ⟨dvs, ds, d1, d2, d3⟩ := m5 0 (Nat.zero_le _) (by rw [Nat.zero_add]; exact h2)
  refine pe_w (pe_callSD0 (E := WE W) F g.room (g.gl x hg) m1 m2 d2 d1 (fun σ => passAt g.tk σ) (nameOk_d hn)) fun σ H Q ⟨I, m, ρ, s, hf, si, rs, o⟩ => ?_
  simp only [ev, evs, R.bind] at o
  refine call_sp (us := []) (vs := []) (Q := fun v H' => HF H' → Q v H') hf si rfl (dl := dfl.drop (dfl.length - (q.2.1 - 0))) ?_ d3 (fun us' s' hu => ?_) (o.imp fun _ _ _ _ _ _ _ _ _ _ q _ => q)
  · rw [List.length_drop, List.length_nil, m3]
    omega
  · have hl : us'.length = 0 := hu
    have := m4 us' s' (by rw [hl]; exact Nat.zero_le _) (by rw [hl, Nat.zero_add]; exact h2)
    rw [hl] at this
    exact this
/-! ### a list the other way round -/
theorem relL_rev {I : Hp} : ∀ {ts : List T} {vs : List V}, RelL I ts vs → RelL I ts.reverse vs.reverse
  | [], _, h => by
    cases h
    rfl
  | t :: ts, _, h => by
    obtain ⟨v, r, rfl, h1, h2⟩ := h
    have app : ∀ {a b : List T} {x y : List V}, RelL I a x → RelL I b y → RelL I (a ++ b) (x ++ y) := by
      intro a
      induction a with
      | nil =>
        intro b x y h h'
        cases h
        exact h'
      | cons e es ih =>
        intro b x y h h'
        obtain ⟨v, r, rfl, h1, h2⟩ := h
        exact ⟨v, r ++ y, rfl, h1, ih h2 h'⟩
    rw [List.reverse_cons, List.reverse_cons]
    exact app (relL_rev h2) ⟨v, [], rfl, h1, rfl⟩
theorem rev_pick (xs : List Nat) : (Builtin.Str.strSliceIndices none none (-1) (mkS xs).length).filterMap ((mkS xs).cps[·]?) = xs.reverse := by
  have e1 : Builtin.Str.strSliceIndices none none (-1) (mkS xs).length = (List.range xs.length).reverse := by
    rw [mkS_len]
    show sliceRange ((xs.length : Int) - 1) (-1) (-1) = _
    rw [PySem.W.krv_sliceRange, PySem.W.krv_range]
  have e2 := PySem.W.krv_all (mkS xs).cps
  have e3 : (mkS xs).cps.size = xs.length := by simp [mkS]
  rw [e1, List.filterMap_reverse, ← e3, e2]
  simp [mkS]
def tRevLS (K : PySem.W.Frag) (te : TE) : TE := fun σ H Q => te σ H fun x H1 => (∃ a xs, x = .ref a ∧ SqL K H1 a xs ∧ ∀ p, H1 p = none → Q (.ref p) (upd H1 p (.lst xs.reverse))) ∨ (∃ w : List Nat, x = .str (mkS w) ∧ w.length ≤ LIM ∧ Q (.str (mkS w.reverse)) H1)
theorem pe_revLS {e : Expr} {te : TE} {k : Nat} {p1 p2 p3 pos : Pos} (he : PE X e te) : PE X (.Subscript e (.Slice none none (some (.UnaryOp .USub (.Constant (.int 1) k p1) p2)) p3) pos) (tRevLS X.K te) := by
  refine ⟨fun pins s σ H Q I h => ?_⟩
  refine Subscript_ (thn (he.run pins s σ H _ I h) fun v s1 ⟨x, H1, I1, r1, q1⟩ => ?_)
  have hst : PO X (some (.UnaryOp .USub (.Constant (.int 1) k p1) p2)) (tPart (tUn (rU fun i => .int (-i)) (tC (.int 1)))) := po_some (pe_un un_neg pe_int)
  refine wpAny_Slice (thn (po_none.run pins s1 σ H1 (fun o H2 => o = none ∧ H2 = H1) I1 ⟨rfl, rfl⟩) fun vl s2 ⟨l, H2, I2, pl, el, e2⟩ => ?_)
  subst el e2
  refine thn (po_none.run pins s2 σ H2 (fun o H3 => o = none ∧ H3 = H2) I2 ⟨rfl, rfl⟩) fun vu s3 ⟨u, H3, I3, pu, eu, e3⟩ => ?_
  subst eu e3
  refine thn (hst.run pins s3 σ H3 (fun o H4 => o = some (-1) ∧ H4 = H3) I3 ⟨1, rfl, -1, rfl, rfl, rfl⟩) fun vs s4 ⟨o, H4, I4, ps, eo, e4⟩ => ?_
  subst eo e4
  have I5 : Inv X pins σ H4 { s4 with heap := s4.heap.push { cls := .type "slice", data := .fields #[vl, vu, vs] } } := I4.kept (t' := s4.toks) fun b ob q => Heap.get?_push_of_some _ q
  rcases q1 with ⟨a, xs, ex, hx, q⟩ | ⟨w, ex, hw, q⟩
  · subst ex
    cases r1
    obtain ⟨its, r, ht, hz⟩ := I5.list hx
    have hlen := r.length
    show wpAny (model X.prog X.w) X.A (subscriptTail e (.Slice none none (some (.UnaryOp .USub (.Constant (.int 1) k p1) p2)) p3) (.ref a) (.ref s4.heap.objs.size)) (EP X pins σ Q) X.xe { s4 with heap := s4.heap.push { cls := .type "slice", data := .fields #[vl, vu, vs] } }
    refine tail_any (ops := [.ref a, .ref s4.heap.objs.size]) ht.isList.typeIs (PySem.slot_list_getitem.lookup) ?_ (by with_unfolding_all rfl)
    refine wpAny_getItem_list_slice ht.isList (Heap.IsSliceOf.new _ vl vu vs) pl pu ps (by decide) ?_ (by rw [List.size_toArray]; omega)
    rw [PySem.W.krv_pick]
    refine ⟨.ref _, _, I5.laid (t' := s4.toks) (o := .lst xs.reverse) (fun b ob q => Heap.get?_push_of_some _ q) (Nat.le_refl _) ?_, rfl, q _ (I5.hok.fresh (Nat.le_refl _))⟩
    exact ⟨by rw [List.length_reverse]; exact hz, _, 0, r.reverse, Heap.get?_push_size _ rfl⟩
  · subst ex
    obtain ⟨t, rfl⟩ := r1
    have el : vl = .none := by cases pl; rfl
    have eu : vu = .none := by cases pu; rfl
    obtain ⟨tk, es⟩ : ∃ tk, vs = .int (-1) tk := by cases ps; exact ⟨_, rfl⟩
    subst el eu es
    show wpAny (model X.prog X.w) X.A (subscriptTail e (.Slice none none (some (.UnaryOp .USub (.Constant (.int 1) k p1) p2)) p3) (.str (mkS w) t) (.ref s4.heap.objs.size)) (EP X pins σ Q) X.xe { s4 with heap := s4.heap.push { cls := .type "slice", data := .fields #[.none, .none, .int (-1) tk] } }
    refine tail_any (ops := [.str (mkS w) t, .ref s4.heap.objs.size]) (typeIs_str _ _ _) (PySem.F.slot_str_getitem.lookup) ?_ (by with_unfolding_all rfl)
    refine wpAny_getItem_str_slice (l := none) (u := none) (st := some (-1, tk)) ⟨_, Heap.get?_push_size _ rfl, rfl, rfl⟩ rfl ?_
    have e : sliceMade (mkS w) t none none (some (-1, tk)) = .str (mkS w.reverse) := by
      show Made.str ⟨((Builtin.Str.strSliceIndices none none (-1) (mkS w).length).filterMap ((mkS w).cps[·]?)).toArray⟩ = _
      rw [rev_pick]
      rfl
    rw [e]
    exact ⟨by rw [mkS_len, List.length_reverse, sizeLine_eq]; exact hw, .str (mkS w.reverse), H4, I5.tok _, ⟨_, rfl⟩, q⟩
theorem s_revS {a : E} {xa : Expr} {j : Nat} {p1 p2 p3 pos : Pos} (ha : PE X xa (den cl G C W a)) : PE X (.Subscript xa (.Slice none none (some (.UnaryOp .USub (.Constant (.int 1) j p1) p2)) p3) pos) (den cl G C W (.revS a)) := by
  refine pe_w (pe_revLS ha) fun σ H Q ⟨I, m, ρ, s, hf, si, rs, o⟩ => ?_
  simp only [ev] at o
  refine ⟨I, m, ρ, s, hf, si, rs, OutR.first o fun u s1 I1 m1 H1 x hf1 e1 si1 r1 o1 => ?_⟩
  unfold lift1 at o1
  cases ea : asT s1 u with
  | none =>
    rw [ea] at o1
    exact o1.elim
  | some t =>
    rw [ea] at o1
    cases t with
    | lst xs =>
      obtain ⟨b, vs, rfl, h1, h2⟩ := asT_rd si1 r1 ea
      exact .inl ⟨b, vs, rfl, .inl h1, fun p hp => (fin_of si1 o1).2 p _ hp ⟨_, rfl, relL_rev h2⟩⟩
    | str xs =>
      obtain ⟨rfl, hl⟩ := asT_rd si1 r1 ea
      exact .inr ⟨xs, rfl, hl, (fin_of si1 o1).1 _ ⟨rfl, by rw [List.length_reverse]; exact hl⟩⟩
    | _ => exact o1.elim
/-! ### a dict's display with keys that are worked out -/
def tPE (cl : Nat → Addr) (G : Glo) (C : Call) (W : WX) : List E → List (TE × TE)
  | a :: b :: r => (den cl G C W a, den cl G C W b) :: tPE cl G C W r
  | _ => []
def pairV : List V → List (V × V)
  | a :: b :: r => (a, b) :: pairV r
  | _ => []
theorem pairs_rel {I : Hp} {m : List Addr} : ∀ {us : List U} {ps : List (Ky × U)} {vs : List V}, pairsU us = some ps → RelUs I m us vs → ∃ ws : List (Key × V), pairV vs = ws.map (fun kv => (kV kv.1, kv.2)) ∧ RelUK I m ps ws
  | [], ps, vs, e, r => by
    cases e
    cases r
    exact ⟨[], rfl, rfl⟩
  | [.v _], _, _, e, _ => by cases e
  | [.ref _], _, _, e, _ => by cases e
  | [.tup _], _, _, e, _ => by cases e
  | .ref _ :: _ :: _, _, _, e, _ => by cases e
  | .tup _ :: _ :: _, _, _, e, _ => by cases e
  | .v t :: u :: us, ps, vs, e, r => by
    obtain ⟨x, r1, rfl, h1, h2⟩ := r
    obtain ⟨y, r2, rfl, h3, h4⟩ := h2
    simp only [pairsU] at e
    cases ek : tKy t with
    | none =>
      rw [ek] at e
      cases e
    | some q =>
      rw [ek] at e
      cases e2 : pairsU us with
      | none =>
        rw [e2] at e
        cases e
      | some qs =>
        rw [e2] at e
        cases e
        obtain ⟨ws, w1, w2⟩ := pairs_rel e2 h4
        obtain ⟨rfl, kb⟩ := tKy_I ek h1
        exact ⟨(kyK q, y) :: ws, by simp only [pairV, w1, List.map_cons], y, ws, rfl, ⟨kb, h3⟩, w2⟩
theorem tPE_ok {σ : St} : ∀ {l : List E} {es : Es} {I : Hp} {m : List Addr} {ρ : Env} {s : Store} {H : Hp} {Q : List (V × V) → Hp → Prop}, esL es = l → l.length % 2 = 0 → HF H → Sim cl I m s H → RelS I m ρ σ →
    OutR cl RelUs W σ I m H (evs G C es ρ s) (fun us s' I' m' H' vs => Q (pairV vs) H') → tPairs (tPE cl G C W l) σ H Q
  | [], es, I, m, ρ, s, H, Q, hl, _, hf, si, rs, o => by
    cases es with
    | nil =>
      simp only [evs] at o
      exact o I m H [] hf Ext.refl si rfl
    | cons e es => cases hl
  | [_], _, _, _, _, _, _, _, _, h2, _, _, _, _ => by simp at h2
  | a :: b :: l, es, I, m, ρ, s, H, Q, hl, h2, hf, si, rs, o => by
    cases es with
    | nil => cases hl
    | cons e es =>
      cases es with
      | nil => cases hl
      | cons e' es =>
        simp only [esL, List.cons.injEq] at hl
        obtain ⟨rfl, rfl, hl⟩ := hl
        simp only [evs] at o
        refine ⟨I, m, ρ, s, hf, si, rs, OutR.first o fun u s1 I1 m1 H1 x hf1 e1 si1 r1 o1 => ?_⟩
        refine ⟨I1, m1, ρ, s1, hf1, si1, rs.mono e1, ?_⟩
        cases eb : ev G C e' ρ s1 with
        | bad =>
          rw [eb] at o1
          exact o1.elim
        | exc q s2 =>
          rw [eb] at o1
          exact o1
        | ok w s2 =>
          rw [eb] at o1
          simp only [R.bind] at o1
          intro I2 m2 H2 y hf2 e2 si2 r2
          have o2 := OutR.mono o1 e2
          refine tPE_ok (es := es) hl (by simp only [List.length_cons] at h2; omega) hf2 si2 ((rs.mono e1).mono e2) ?_
          cases ec : evs G C es ρ s2 with
          | bad =>
            rw [ec] at o2
            exact o2.elim
          | exc q s3 =>
            rw [ec] at o2
            exact o2
          | ok us s3 =>
            rw [ec] at o2
            intro I3 m3 H3 vs hf3 e3 si3 r3
            exact o2 I3 m3 H3 (x :: y :: vs) hf3 e3 si3 ⟨x, _, rfl, RelU.mono e3.i e3.mm (RelU.mono e2.i e2.mm r1), y, vs, rfl, RelU.mono e3.i e3.mm r2, r3⟩
/-- keys and values in turn: the text's -/
def mixX : List (Option Expr) → List Expr → List Expr
  | some x :: xs, y :: ys => x :: y :: mixX xs ys
  | _, _ => []
theorem s_ppsE {pos : Pos} : ∀ {xs : List (Option Expr)} {ys : List Expr} {l : List E}, xs.all (·.isSome) = true → xs.length = ys.length → l.length = (mixX xs ys).length → (∀ (j : Nat) e y, l[j]? = some e → (mixX xs ys)[j]? = some y → PE X y (den cl G C W e)) →
    PPs X pos xs ys (tPE cl G C W l)
  | [], ys, l, _, hl, h2, _ => by
    cases ys with
    | nil =>
      cases l with
      | nil => exact pps_nil
      | cons _ _ => cases h2
    | cons _ _ => cases hl
  | some x :: xs, ys, l, ha, hl, h2, hp => by
    cases ys with
    | nil => cases hl
    | cons y ys =>
      match l, h2, hp with
      | a :: b :: l, h2, hp =>
        exact pps_cons (hp 0 a x rfl rfl) (hp 1 b y rfl rfl) (s_ppsE (by simpa using ha) (Nat.succ.inj hl) (by simp only [mixX, List.length_cons] at h2; omega) fun j e' y' h3 h4 => hp (j + 2) e' y' h3 h4)
  | none :: _, _, _, ha, _, _, _ => by simp at ha
theorem mix_len : ∀ {xs : List (Option Expr)} {ys : List Expr}, xs.all (·.isSome) = true → xs.length = ys.length → (mixX xs ys).length = 2 * xs.length
  | [], ys, _, hl => by
    cases ys with
    | nil => rfl
    | cons _ _ => cases hl
  | some x :: xs, ys, ha, hl => by
    cases ys with
    | nil => cases hl
    | cons y ys =>
      have := mix_len (xs := xs) (ys := ys) (by simpa using ha) (Nat.succ.inj hl)
      simp only [mixX, List.length_cons, this]
      omega
  | none :: _, _, ha, _ => by simp at ha
theorem relUK_mergeP {I : Hp} {m : List Addr} : ∀ {ps : List (Ky × U)} {ws : List (Key × V)} {acc : List (Ky × U)} {w : List (Key × V)}, RelUK I m ps ws → (w.map (·.1)).Nodup → RelUK I m acc w → RelUK I m (merge acc ps) (mergeK w ws) ∧ ((mergeK w ws).map (·.1)).Nodup
  | [], _, acc, w, r, nd, h => by
    cases r
    exact ⟨h, nd⟩
  | (q, u) :: ps, _, acc, w, r, nd, h => by
    obtain ⟨v, rs, rfl, r1, r2⟩ := r
    exact relUK_mergeP (acc := kput q u acc) (w := putK w (kyK q) v) r2 (putK_keys nd).1 (relUK_put r1.1 r1.2 nd h)
theorem relUK_lenP {I : Hp} {m : List Addr} {ps : List (Ky × U)} {ws : List (Key × V)} (r : RelUK I m ps ws) : ws.length = ps.length := (relUK_len r).symm
/-- behind the pairs: what the new dict is -/
theorem s_dctEA {es : Es} {xs : List (Option Expr)} {ys : List Expr} {pos : Pos} (k1 : xs.all (·.isSome) = true) (h0 : xs ≠ []) (h15 : xs.length ≤ 15) (hl : xs.length = ys.length) (hl2 : (esL es).length = (mixX xs ys).length) (hp : ∀ (j : Nat) e y, (esL es)[j]? = some e → (mixX xs ys)[j]? = some y → PE X y (den cl G C W e))
    {e : E} (he : ∀ (σ : St) (H : Hp) (Q : VK) (I : Hp) (m : List Addr) (ρ : Env) (s : Store), OutR cl RelU W σ I m H (ev G C e ρ s) (fun _ _ _ _ H x => Q x H) → OutR cl RelUs W σ I m H (evs G C es ρ s) fun us s' I' m' H' vs => RelUs I' m' us vs → Sim cl I' m' s' H' → ∃ ps, pairsU us = some ps ∧ ps.length ≤ 15 ∧ ∀ (p : Addr), H' p = some (.dK []) → p ∉ m' → I' p = none → H p = none → ∀ (ws : List (Key × V)), RelUK I' m' (merge [] ps) ws → (ws.map (·.1)).Nodup → HF (upd H' p (.dK ws)) → Q (.ref p) (upd H' p (.dK ws))) :
    PE X (.Dict xs ys pos) (den cl G C W e) := by
  refine pe_w (pe_disp (s_ppsE k1 hl hl2 hp) k1 hl h0 h15) fun σ H Q ⟨I, m, ρ, s, hf, si, rs, o⟩ => ?_
  intro p hp2
  obtain ⟨si1, e1⟩ := sim_by (ho := .dK []) si hp2
  have hf1 : HF (upd H p (.dK [])) := hf.upd (fun _ e => nomatch e) (fun _ e => nomatch e) (fun _ e => by cases e; exact ⟨Nat.zero_le _, List.nodup_nil⟩) fun _ _ e => nomatch e
  refine tPE_ok (es := es) rfl (by rw [hl2, mix_len k1 hl]; omega) hf1 si1 (rs.mono e1) ?_
  have o2 := he σ H Q I m ρ s o
  refine (OutR.mono o2 e1).imp fun us s' I' m' H' vs hf' e' si' r' q => ?_
  have hn : H' p = some (.dK []) := by
    rw [e'.fr p (by rw [upd_same]; simp) (mem_free si hp2)]
    exact upd_same
  have pm : p ∉ m' := fun z => by
    rcases e'.nm p z with z | z
    · exact mem_free si hp2 z
    · rw [upd_same] at z
      cases z
  have pI : I' p = none := by
    cases ei : I' p with
    | none => rfl
    | some o =>
      rcases e'.ni p (by rw [ei]; simp) with z | z
      · exact absurd (sub_none si hp2) z
      · rw [upd_same] at z
        cases z
  obtain ⟨ps, ep, hz, q⟩ := q r' si'
  obtain ⟨ws, w1, w2⟩ := pairs_rel ep r'
  refine ⟨hn, ws, w1, by rw [relUK_lenP w2]; exact hz, fun hf2 => ?_⟩
  obtain ⟨q1, q2⟩ := relUK_mergeP (acc := []) (w := []) w2 List.nodup_nil rfl
  exact q p hn pm pI hp2 _ q1 q2 hf2
theorem optKV_eq : ∀ {ps : List (Ky × U)} {ts : List (Ky × T)}, optAll unKV ps = some ts → ps = ts.map fun p => (p.1, U.v p.2)
  | [], ts, e => by
    cases e
    rfl
  | (q, u) :: ps, ts, e => by
    unfold optAll at e
    cases u with
    | v t =>
      simp only [unKV] at e
      cases e2 : optAll unKV ps with
      | none =>
        rw [e2] at e
        cases e
      | some ts' =>
        rw [e2] at e
        cases e
        rw [optKV_eq e2]
        rfl
    | ref i => cases e
    | tup w => cases e
theorem merge_vP : ∀ {ts acc : List (Ky × T)}, merge (acc.map fun p => (p.1, U.v p.2)) (ts.map fun p => (p.1, U.v p.2)) = (merge acc ts).map fun p => (p.1, U.v p.2)
  | [], acc => rfl
  | p :: ts, acc => by
    simp only [List.map_cons, merge, kput_v]
    exact merge_vP
theorem s_dctE {es : Es} {xs : List (Option Expr)} {ys : List Expr} {pos : Pos} (k1 : xs.all (·.isSome) = true) (h0 : xs ≠ []) (h15 : xs.length ≤ 15) (hl : xs.length = ys.length) (hl2 : (esL es).length = (mixX xs ys).length) (hp : ∀ (j : Nat) e y, (esL es)[j]? = some e → (mixX xs ys)[j]? = some y → PE X y (den cl G C W e)) :
    PE X (.Dict xs ys pos) (den cl G C W (.dctE es)) := by
  refine s_dctEA k1 h0 h15 hl hl2 hp fun σ H Q I m ρ s o => ?_
  simp only [ev] at o
  cases er : evs G C es ρ s with
  | ok us s' =>
    rw [er] at o
    simp only [R.bind] at o
    intro I' m' H' vs hf' e' si' r' r3 _
    cases ep : pairsU us with
    | none =>
      rw [ep] at o
      exact o.elim
    | some ps =>
      rw [ep] at o
      simp only at o
      split at o
      · rename_i hz
        cases ea : optAll unKV ps with
        | none =>
          rw [ea] at o
          exact o.elim
        | some ts =>
          rw [ea] at o
          refine ⟨ps, rfl, hz, fun p hn pm pI hp2 ws q1 q2 hf2 => ?_⟩
          have e3 := optKV_eq ea
          subst e3
          have q3 := relK_ofU (merge_vP (acc := [])) q1
          have ex := ext_own (ho := .dK ws) e' hp2 pI
          have hi := (ext_own (ho := .dK ws) (Ext.refl (I := I') (m := m') (H := fun a => if a = p then none else H' a)) (if_pos rfl) pI).i
          exact o _ _ _ _ hf2 ex (sim_own si' pI pm fun _ _ e => nomatch e) ⟨p, ws, rfl, upd_same, RelK.mono hi q3⟩
      · exact o.elim
  | exc x s' =>
    rw [er] at o
    exact o
  | bad =>
    rw [er] at o
    exact o
theorem s_dctEO {es : Es} {xs : List (Option Expr)} {ys : List Expr} {pos : Pos} (k1 : xs.all (·.isSome) = true) (h0 : xs ≠ []) (h15 : xs.length ≤ 15) (hl : xs.length = ys.length) (hl2 : (esL es).length = (mixX xs ys).length) (hp : ∀ (j : Nat) e y, (esL es)[j]? = some e → (mixX xs ys)[j]? = some y → PE X y (den cl G C W e)) :
    PE X (.Dict xs ys pos) (den cl G C W (.dctEO es)) := by
  refine s_dctEA k1 h0 h15 hl hl2 hp fun σ H Q I m ρ s o => ?_
  simp only [ev] at o
  cases er : evs G C es ρ s with
  | ok us s' =>
    rw [er] at o
    simp only [R.bind] at o
    intro I' m' H' vs hf' e' si' r' r3 _
    cases ep : pairsU us with
    | none =>
      rw [ep] at o
      exact o.elim
    | some ps =>
      rw [ep] at o
      simp only at o
      split at o
      · rename_i hz
        refine ⟨ps, rfl, hz, fun p hn pm pI hp2 ws q1 q2 hf2 => ?_⟩
        exact o _ _ _ _ hf2 (ext_ownO e' hp2) (sim_ownO (o := .dct (merge [] ps)) si' pI pm ⟨ws, rfl, RelUK.mono (fun _ _ h => h) app_mm q1⟩) ⟨p, by rw [← si'.len]; simp, rfl⟩
      · exact o.elim
  | exc x s' =>
    rw [er] at o
    exact o
  | bad =>
    rw [er] at o
    exact o
end
end Cab

set_option Elab.async false
set_option linter.all false
set_option maxRecDepth 100000
set_option maxHeartbeats 4000000
namespace Cab
open PySem PySem.Spec PyProof.Rows L2
section
variable {X : Cx}
theorem cr_range1 : CallR X (.type "range") (fun vs H Q => ∃ j, vs = [V.int j] ∧ ∀ p, H p = none → Q (.ref p) (upd H p (.rng 0 j))) := by
  intro pins s σ H vs us Q I r h
  obtain ⟨j, rfl, q⟩ := h
  obtain ⟨u1, rfl, ri⟩ := vals1 r
  obtain ⟨t, rfl⟩ := ri
  refine call_range_1 ⟨.ref s.heap.objs.size, upd H s.heap.objs.size (.rng 0 j), I.laid (t' := s.toks + 1 + 1) (fun b o e => Heap.get?_push_of_some _ e) (Nat.le_refl _) ?_, rfl, q _ (I.hok.fresh (Nat.le_refl _))⟩
  exact ⟨s.toks, t, s.toks + 1, Heap.get?_push_size _ rfl⟩
def rInR (neg : Bool) : R2 := fun x y H Q => ∃ i a lo hi, x = V.int i ∧ y = V.ref a ∧ H a = some (.rng lo hi) ∧ Q (.bl (decide (lo ≤ i ∧ i < hi) != neg)) H
theorem op_nin_rng : OpR X (compareOp .NotIn) (rInR true) := by
  intro pins s σ H x y v u Q I rx ry h
  obtain ⟨i, a, lo, hi, rfl, rfl, ha, q⟩ := h
  obtain ⟨k, rfl⟩ := rx
  obtain rfl : u = Value.ref a := ry
  obtain ⟨t1, t2, t3, ho⟩ := I.hok a _ ha
  show wpAny _ _ (do return Value.bool (!(← contains (Value.ref a) (Value.int i k)))) _ _ s
  refine wpAny_bind (wpAny_contains_slot (T := "range") ⟨_, ho, rfl⟩ F.slot_range_contains (call_meets F.slot_range_contains ⟨_, ho, rfl⟩ F.entry_range_contains (F.args_range_contains_2 _ _) (q_contains a lo hi i t1 t2 t3 k)
    ⟨ho, wpAny_truthy_bool (wpAny_pure ⟨.bl _, H, I, rfl, ?_⟩)⟩))
  rw [place1]
  simpa using q
theorem op_inR (neg : Bool) : OpR X (compareOp (if neg then .NotIn else .In)) (rInR neg) := by
  cases neg
  · intro pins s σ H x y v u Q I rx ry h
    obtain ⟨i, a, lo, hi, e1, e2, ha, q⟩ := h
    exact op_in_rng pins s σ H x y v u Q I rx ry ⟨i, a, lo, hi, e1, e2, ha, by simpa using q⟩
  · exact op_nin_rng
end
section
variable {cl : Nat → Addr} {G : Glo} {C : Call} {k : Nat} {c : MC} {X : Cx} {W : WX}
/-- x in range(n) -/
theorem s_inR (g : Good cl G C k c X W) {neg : Bool} {a b : E} {xa xb : Expr} {p cpos pos : Pos} (hg : glB c.sc "range" = true) (hb : (("range" : Str) ∈ c.blt)) (hs : isStar xb = false) (ha : PE X xa (den cl G C W a)) (hn : PE X xb (den cl G C W b)) :
    PE X (.Compare xa [if neg then .NotIn else .In] [.Call (.Name "range" p) [xb] [] cpos] pos) (den cl G C W (.inR neg a b)) ∧ PT X (.Compare xa [if neg then .NotIn else .In] [.Call (.Name "range" p) [xb] [] cpos] pos) (denT cl G C W (.inR neg a b)) := by
  have hr : PE X (.Call (.Name "range" p) [xb] [] cpos) (tCB _ _) := pe_callTy cr_range1 (g.gl _ hg) (g.blt _ hb) (by decide +kernel) (pa_cons hn pa_nil (star_one hs _ _)) (by decide) (by decide) (star_one hs _ _) (by rfl)
  have hm : behindInMarks (if neg then .NotIn else .In) (.Call (.Name "range" p) [xb] [] cpos) = false := rfl
  have key : ∀ {σ : St} {I : Hp} {m : List Addr} {ρ : Env} {s : Store} {H : Hp} {K : VK} {K' : U → Store → Hp → List Addr → Hp → V → Prop}, HF H → Sim cl I m s H → RelS I m ρ σ → OutR cl RelU W σ I m H (ev G C (.inR neg a b) ρ s) K' → (∀ (bb : Bool) s' I' m' H', HF H' → Sim cl I' m' s' H' → K' (.v (.bl bb)) s' I' m' H' (.bl bb) → K (.bl bb) H') → tOp (rInR neg) (den cl G C W a) (tCB (fun vs H Q => ∃ j, vs = [V.int j] ∧ ∀ p, H p = none → Q (.ref p) (upd H p (.rng 0 j))) (tCons (den cl G C W b) tNil)) σ H K := by
    intro σ I m ρ s H K K' hf si rs o q
    simp only [ev] at o
    refine ⟨I, m, ρ, s, hf, si, rs, OutR.first o fun u s1 I1 m1 H1 x hf1 e1 si1 r1 o1 => ?_⟩
    refine ⟨I1, m1, ρ, s1, hf1, si1, rs.mono e1, OutR.first o1 fun w s2 I2 m2 H2 y hf2 e2 si2 r2 o2 => ?_⟩
    match u, w, o2, r1, r2 with
    | .v (.int i), .v (.int n), o2, r1, r2 =>
      obtain rfl : x = V.int i := r1
      obtain rfl : y = V.int n := r2
      refine ⟨n, rfl, fun p hp => ⟨i, p, 0, n, rfl, rfl, upd_same, ?_⟩⟩
      obtain ⟨si3, e3⟩ := sim_new (ho := .rng 0 n) si2 hp fun _ _ e => nomatch e
      have hf3 : HF (upd H2 p (.rng 0 n)) := hf2.upd (fun _ e => nomatch e) (fun _ e => nomatch e) (fun _ e => nomatch e) fun _ _ e => nomatch e
      exact q _ _ _ _ _ hf3 si3 (o2 _ _ _ _ hf3 e3 si3 rfl)
  refine ⟨pe_w (pe_cmpR (op_inR neg) ha hr hm) fun σ H Q ⟨I, m, ρ, s, hf, si, rs, o⟩ => ?_, pt_w (pt_cmpR (op_inR neg) ha hr hm) fun σ H Q ⟨I, m, ρ, s, hf, si, rs, o⟩ => ?_⟩
  · exact key hf si rs o fun bb s' I' m' H' _ _ z _ => z
  · refine key hf si rs o fun bb s' I' m' H' _ _ z => ?_
    obtain ⟨b', e, z⟩ := z
    cases e
    exact ⟨bb, rfl, fun _ => z⟩
/-! ### how often a sign stands in a text -/
theorem count_parts (c : Nat) : ∀ x : List Nat, (parts c x).length = x.count c + 1
  | [] => rfl
  | a :: x => by
    have ih := count_parts c x
    rw [parts]
    split
    · rename_i e
      rw [e, List.count_cons_self, List.length_cons, ih]
    · rename_i e
      rw [List.count_cons_of_ne e]
      split
      · rename_i p ps e2
        rw [e2] at ih
        simpa using ih
      · rename_i e2
        rw [e2] at ih
        simp at ih
theorem count_mkS {c : Nat} {x : List Nat} (hc : c < 256) : Txt.count (mkS x) (mkS [c]) = (x.count c : Int) := by
  have h := congrArg List.length (split_parts (x := x) hc)
  rw [List.length_map, count_parts] at h
  have h3 : Txt.count (mkS x) (mkS [c]) = ((Builtin.Str.occurrences (mkS x) (mkS [c]) 0 (mkS x).length ((mkS x).length + 1)).length : Nat) := rfl
  rw [h3]
  have k1 : Builtin.Str.strKind (mkS [c]) = 1 := by
    unfold Builtin.Str.strKind
    rw [if_pos]
    simp [mkS, hc]
  have hk : ¬ Builtin.Str.strKind (mkS x) < Builtin.Str.strKind (mkS [c]) := by
    rw [k1]
    unfold Builtin.Str.strKind
    split
    · omega
    · split <;> omega
  unfold Txt.split at h
  split at h
  · rename_i hz
    rw [Bool.or_eq_true, decide_eq_true_eq, decide_eq_true_eq, mkS_len, mkS_len] at hz
    have hx : x = [] := by
      rcases hz with hz | hz
      · simpa using hz
      · exact absurd hz hk
    subst hx
    have : Builtin.Str.occurrences (mkS []) (mkS [c]) 0 (mkS []).length ((mkS []).length + 1) = [] := by
      cases e : Builtin.Str.occurrences (mkS []) (mkS [c]) 0 (mkS []).length ((mkS []).length + 1) with
      | nil => rfl
      | cons i r =>
        have := (StrLaws.occ_spec (mkS []) (mkS [c]) 0 (mkS []).length ((mkS []).length + 1) i (by rw [e]; exact List.mem_cons_self)).1
        rw [mkS_len, mkS_len] at this
        simp at this
    rw [this]
    rfl
  · split at h
    · rename_i he
      rw [List.isEmpty_iff] at he
      rw [he]
      simp at h ⊢
      omega
    · rw [length_partsBetween] at h
      omega
theorem s_count (g : Good cl G C k c X W) {a b : E} {xa xb : Expr} {apos pos : Pos} (hline : (apos.endLine == pos.line) = true) (hs : isStar xb = false) (hb0 : noBare xa = true) (ha : PE X xa (den cl G C W a)) (hb : PE X xb (den cl G C W b)) : PE X (.Call (.Attribute xa "count" apos) [xb] [] pos) (den cl G C W (.meth .count a (.cons b .nil))) := by
  refine pe_w (pe_bm PySem.F.plainAttrs_str PySem.F.slot_str_count PySem.F.type_str_count mt_count ha (pa_cons hb pa_nil (star_one hs _ _)) (base_of (noBare_of hb0) _) (by rw [star_one hs]; rfl) hline (star_one hs _ _) rfl) fun σ H Q ⟨I, m, ρ, s, hf, si, rs, o⟩ => ?_
  refine ⟨I, m, ρ, s, hf, si, rs, meth1 hf si rs o fun u s1 I1 m1 H1 x hf1 si1 r1 hh q => ?_⟩
  obtain ⟨z0, hz0⟩ := head_str hh (by decide) r1
  refine ⟨by rw [hz0]; exact rfl, q _ ?_⟩
  intro y I2 H2 t t' r sub hf2 rt rt' er fin
  match t, t', er with
  | .str z, .str [d], er =>
    simp only [primT] at er
    split at er
    · rename_i hd
      cases er
      refine ⟨mkS z, mkS [d], rt.1, by rw [rt'.1], ?_⟩
      rw [count_mkS hd]
      exact fin.1 _ rfl
    · cases er
end
end Cab

set_option Elab.async false
set_option linter.all false
set_option maxRecDepth 100000
set_option maxHeartbeats 4000000
namespace Cab
open PySem PySem.Spec PyProof.Rows L2
def bltB (c : MC) (id nm : Str) : Bool := id == nm && glB c.sc id && decide (id ∈ c.blt)
def noSet : Expr → Bool
  | .Set _ _ _ => false
  | _ => true
theorem noSet_ok {x : Expr} {env : PySem.Env} (h : noSet x = true) : ∀ v, foldedSetIterable x env v = pure v := by
  intro v
  cases x <;> first | (simp [noSet] at h; done) | rfl
def ownN (c : MC) (own : List Nat) : List (Str × Nat) := own.filterMap fun i => (c.N[i]?).map fun x => (x, i)
def ownB (c : MC) (own : List Nat) (tg : Tgt) : Bool := decide ((ownN c own).map (·.2) = own) && (tgS tg).all fun i => decide (i ∈ own)
def replwB : Es → Str → Str → Str → Bool
  | .cons (.con (.str w)) (.cons (.con (.str [ch])) (.cons (.con (.str r)) .nil)), x, y, z => x == mkS w && decide (w.length ≤ LIM) && y == mkS [ch] && z == mkS r && decide ([ch] ≠ r)
  | _, _, _, _ => false
theorem replwB_of {es : Es} {x y z : Str} (h : replwB es x y z = true) : ∃ (w : List Nat) (ch : Nat) (r : List Nat), es = .cons (.con (.str w)) (.cons (.con (.str [ch])) (.cons (.con (.str r)) .nil)) ∧ x = mkS w ∧ w.length ≤ LIM ∧ y = mkS [ch] ∧ z = mkS r ∧ [ch] ≠ r := by
  unfold replwB at h
  split at h
  · simp only [Bool.and_eq_true, decide_eq_true_eq] at h
    obtain ⟨⟨⟨⟨h1, h2⟩, h3⟩, h4⟩, h5⟩ := h
    exact ⟨_, _, _, rfl, eq_of_beq h1, h2, eq_of_beq h3, eq_of_beq h4, h5⟩
  · cases h
mutual
def mE (c : MC) : E → Expr → Bool
  | .bad, _ => true
  | .var i, x => (match x with
    | .Name id _ => decide (c.N[i]? = some id) && visB c.sc id && nameOk id
    | _ => false)
  | .con t, x => (match x with
    | .Constant q _ _ => mC t q
    | _ => false)
  | .glo n, x => (match x with
    | .Name id _ => decide (c.csts.lookup id = some n) && glB c.sc id && nameOk id
    | _ => false)
  | .bin op a b, x => (match x with
    | .BinOp xa xo xb _ => decide (xo = opK op) && decide (op ≠ .bor) && mE c a xa && mE c b xb
    | _ => false)
  | .neg a, x => (match x with
    | .UnaryOp .USub xa _ => mE c a xa
    | _ => false)
  | .not a, x => (match x with
    | .UnaryOp .Not xa _ => mE c a xa
    | _ => false)
  | .and a b, x => (match x with
    | .BoolOp .And (xa :: xb :: rest) pos => mE c a xa && (match rest with
      | [] => mE c b xb
      | _ => mE c b (.BoolOp .And (xb :: rest) pos))
    | _ => false)
  | .or a b, x => (match x with
    | .BoolOp .Or (xa :: xb :: rest) pos => mE c a xa && (match rest with
      | [] => mE c b xb
      | _ => mE c b (.BoolOp .Or (xb :: rest) pos))
    | _ => false)
  | .cmp op a b, x => (match x with
    | .Compare xa [xo] [xb] _ => decide (xo = copK op) && !behindInMarks (copK op) xb && mE c a xa && mE c b xb
    | _ => false)
  | .inR neg a b, x => (match x with
    | .Compare xa [xo] [.Call (.Name id _) [xb] [] _] _ => decide (xo = if neg then .NotIn else .In) && bltB c id "range" && !isStar xb && mE c a xa && mE c b xb
    | _ => false)
  | .chn o1 o2 a b d, x => (match x with
    | .Compare xa [p, q] [xb, xd] _ => decide (p = copK o1) && decide (q = copK o2) && !lastMarks [copK o1, copK o2] [xb, xd] && mE c a xa && mE c b xb && mE c d xd
    | _ => false)
  | .ite q a b, x => (match x with
    | .IfExp xq xa xb _ => mE c q xq && mE c a xa && mE c b xb
    | _ => false)
  | .call md f as, x => (match x with
    | .Call (.Name id _) (y :: ys) [] _ => (match c.fns.lookup id with
      | some q => decide (q.1 = f) && glB c.sc id && nameOk id && noStars (y :: ys) && decide ((esL as).length ≤ q.2.1) && decide (q.2.1 ≤ (esL as).length + q.2.2) && mEs c as (y :: ys)
      | none => false)
    | .Call (.Name id _) [] [] _ => (match c.fns.lookup id with
      | some q => decide (q.1 = f) && glB c.sc id && nameOk id && decide (q.2.1 ≤ q.2.2) && mEs c as []
      | none => false)
    | _ => false)
  | .prm p as, x => (match x with
    | .Call (.Name id _) (y :: ys) [] _ => decide (prmN p = some id) && glB c.sc id && decide (id ∈ c.blt) && noStars (y :: ys) && mEs c as (y :: ys)
    | .Call (.Name id _) [xa] [⟨some nm, xd, _⟩] _ => decide (mxS p = some id) && glB c.sc id && decide (id ∈ c.blt) && nm == Str.ofString "default" && mEs c as [xa, xd]
    | _ => false)
  | .meth p a es, x => (match x with
    | .Call (.Attribute xa nm apos) [xb] [] pos => (apos.endLine == pos.line) && noBare xa && mE c a xa && mEs c es [xb] && (match p with
      | .join => nm == ("join" : Str)
      | .index => nm == ("index" : Str)
      | .get1 => nm == ("get" : Str)
      | .split => nm == ("split" : Str)
      | .count => nm == ("count" : Str)
      | _ => false)
    | .Call (.Attribute xa nm apos) [xb, xd] [] pos => (apos.endLine == pos.line) && noBare xa && mE c a xa && mEs c es [xb, xd] && (match p with
      | .get2 => nm == ("get" : Str)
      | _ => false)
    | .Call (.Name id _) [.Call (.Attribute xa nm apos) [] [] cpos] [] _ => (apos.endLine == cpos.line) && noBare xa && bltB c id "list" && mE c a xa && mEs c es [] && (match p with
      | .values => nm == ("values" : Str)
      | _ => false)
    | .BinOp (.Constant (.str w) _ _) .Add (.Call (.Attribute xr nm apos) [.Constant (.str y) _ _, .Constant (.str z) _ _] [] pos) _ => decide (p = .replw) && nm == ("replace" : Str) && replwB es w y z && (apos.endLine == pos.line) && noBare xr && mE c a xr
    | _ => false)
  | .dctE es, x => (match x with
    | .Dict xs ys _ => xs.all (·.isSome) && decide (xs ≠ []) && decide (xs.length ≤ 15) && decide (xs.length = ys.length) && mEs c es (mixX xs ys)
    | _ => false)
  | .dctEO es, x => (match x with
    | .Dict xs ys _ => xs.all (·.isSome) && decide (xs ≠ []) && decide (xs.length ≤ 15) && decide (xs.length = ys.length) && mEs c es (mixX xs ys)
    | _ => false)
  | .revS a, x => (match x with
    | .Subscript xa (.Slice none none (some (.UnaryOp .USub (.Constant (.int j) _ _) _)) _) _ => decide (j = 1) && mE c a xa
    | _ => false)
  | .lcIO own tg src q elt, x => (match x with
    | .ListComp xe [⟨xt, xi, [xq], z⟩] scope _ => decide (z = 0) && ownB c own tg && blkC c.N c.sc scope (ownN c own) && noSet xi && mTg { c with sc := scope } tg xt && mSrc c src xt xi && mE { c with sc := scope } q xq && mE { c with sc := scope } elt xe
    | _ => false)
  | .len a, x => (match x with
    | .Call (.Name id _) [xa] [] _ => bltB c id "len" && !isStar xa && mE c a xa
    | _ => false)
  | .isi a ks, x => (match x with
    | .Call (.Name id _) [xa, xq] [] _ => bltB c id "isinstance" && !isStar xa && mE c a xa && (match xq with
      | .Tuple xs _ _ => mKds c ks xs && decide (ks.length ≤ 20)
      | _ => (match ks with
        | [q] => mKd c q xq
        | _ => false))
    | _ => false)
  | .idx a b, x => (match x with
    | .Subscript xa xb _ => noSlice xb && mE c a xa && mE c b xb
    | _ => false)
  | .cutL a lo, x => (match x with
    | .Subscript xa (.Slice (some xl) none none _) _ => mE c a xa && mE c lo xl
    | _ => false)
  | .cutR a hi, x => (match x with
    | .Subscript xa (.Slice none (some xh) none _) _ => mE c a xa && mE c hi xh
    | _ => false)
  | .cutB a lo hi, x => (match x with
    | .Subscript xa (.Slice (some xl) (some xh) none _) _ => mE c a xa && mE c lo xl && mE c hi xh
    | _ => false)
  | .cutN a, x => (match x with
    | .Subscript xa (.Slice none none none _) _ => mE c a xa
    | _ => false)
  | .tupd es, x => (match x with
    | .Tuple xs _ _ => noStars xs && mEs c es xs
    | _ => false)
  | .lstd es, x => (match x with
    | .List xs _ => noStars xs && mEs c es xs
    | _ => false)
  | .lstO es, x => (match x with
    | .List xs _ => noStars xs && mEs c es xs
    | _ => false)
  | .dctd ks es, x => (match x with
    | .Dict xs ys _ => mKys ks xs && decide (xs.length ≤ 15) && decide (ks.length = ys.length) && mEs c es ys && (decide (xs ≠ []) || decide (ks = []) && decide (esL es = []) && decide (ys = []))
    | _ => false)
  | .dctO ks es, x => (match x with
    | .Dict xs ys _ => mKys ks xs && decide (xs.length ≤ 15) && decide (ks.length = ys.length) && mEs c es ys && (decide (xs ≠ []) || decide (ks = []) && decide (esL es = []) && decide (ys = []))
    | _ => false)
  | .lc own tg src elt, x => (match x with
    | .ListComp xe [⟨xt, xi, [], z⟩] scope _ => decide (z = 0) && ownB c own tg && blkC c.N c.sc scope (ownN c own) && noSet xi && mTg { c with sc := scope } tg xt && mSrc c src xt xi && mE { c with sc := scope } elt xe
    | _ => false)
  | .lcI own tg src q elt, x => (match x with
    | .ListComp xe [⟨xt, xi, [xq], z⟩] scope _ => decide (z = 0) && ownB c own tg && blkC c.N c.sc scope (ownN c own) && noSet xi && mTg { c with sc := scope } tg xt && mSrc c src xt xi && mE { c with sc := scope } q xq && mE { c with sc := scope } elt xe
    | _ => false)
  | .lcO own tg src elt, x => (match x with
    | .ListComp xe [⟨xt, xi, [], z⟩] scope _ => decide (z = 0) && ownB c own tg && blkC c.N c.sc scope (ownN c own) && noSet xi && mTg { c with sc := scope } tg xt && mSrc c src xt xi && mE { c with sc := scope } elt xe
    | _ => false)
  | .newL a, x => (match x with
    | .Call (.Name id _) [xa] [] _ => bltB c id "list" && !isStar xa && mE c a xa
    | _ => false)
  | .newD a, x => (match x with
    | .Call (.Name id _) [xa] [] _ => bltB c id "dict" && !isStar xa && mE c a xa
    | _ => false)
  | .app a b, x => (match x with
    | .Call (.Attribute xa nm apos) [xb] [] pos => nm == ("append" : Str) && (apos.endLine == pos.line) && !isStar xb && noBare xa && mE c a xa && mE c b xb
    | _ => false)
  | .pop0 _, _ => false
  | .pop1 _ _, _ => false
  | .ins _ _ _, _ => false
def mEs (c : MC) : Es → List Expr → Bool
  | .nil, xs => (match xs with
    | [] => true
    | _ => false)
  | .cons e es, xs => (match xs with
    | x :: xs => !isStar x && mE c e x && mEs c es xs
    | _ => false)
def mSrc (c : MC) : Src → Expr → Expr → Bool
  | .it e, _, x => mE c e x
  | .rng1 a, _, x => (match x with
    | .Call (.Name id _) [xa] [] _ => bltB c id "range" && !isStar xa && mE c a xa
    | _ => false)
  | .rng2 a b, _, x => (match x with
    | .Call (.Name id _) [xa, xb] [] _ => bltB c id "range" && !isStar xa && !isStar xb && mE c a xa && mE c b xb
    | _ => false)
  | .rng3 _ _ _, _, _ => false
  | .items a, t, x => (match t, x with
    | .Tuple _ _ _, .Call (.Attribute xa nm apos) [] [] pos => nm == ("items" : Str) && (apos.endLine == pos.line) && noBare xa && mE c a xa
    | _, _ => false)
  | .values a, _, x => (match x with
    | .Call (.Attribute xa nm apos) [] [] pos => nm == ("values" : Str) && (apos.endLine == pos.line) && noBare xa && mE c a xa
    | _ => false)
  | .enm _, _, _ => false
  | .rev _, _, _ => false
end
def isBO : Expr → Bool
  | .BoolOp _ _ _ => true
  | _ => false
structure Snd (cl : Nat → Addr) (G : Glo) (C : Call) (X : Cx) (W : WX) (e : E) (x : Expr) : Prop where
  pe : PE X x (den cl G C W e)
  pt : PT X x (denT cl G C W e)
  pw : isBO x = true → PW X x (denT cl G C W e)
section
variable {cl : Nat → Addr} {G : Glo} {C : Call} {k : Nat} {c : MC} {X : Cx} {W : WX}
/-- an expression whose test is its value's truth -/
theorem snd_of {e : E} {x : Expr} (h : PE X x (den cl G C W e)) (he : ∀ whole, PySem.isTrue x X.env whole = (do let v ← whole; standAt x.pos; holding [v] (truthy v))) (hb : isBO x = false) : Snd cl G C X W e x := ⟨h, s_tru h he, fun z => by rw [hb] at z; cases z⟩
theorem blt_of {id nm : Str} (h : bltB c id nm = true) : id = nm ∧ glB c.sc nm = true ∧ nm ∈ c.blt := by
  unfold bltB at h
  simp only [Bool.and_eq_true, beq_iff_eq, decide_eq_true_eq] at h
  obtain ⟨⟨rfl, h1⟩, h2⟩ := h
  exact ⟨rfl, h1, h2⟩
theorem own_of {own : List Nat} {tg : Tgt} (h : ownB c own tg = true) : (ownN c own).map (·.2) = own ∧ ∀ i ∈ tgS tg, i ∈ own := by
  unfold ownB at h
  simp only [Bool.and_eq_true, decide_eq_true_eq, List.all_eq_true] at h
  exact h
theorem s_lc (g : Good cl G C k c X W) {own : List Nat} {tg : Tgt} {src : Src} {elt : E} {xe xt xi : Expr} {scope : Scope} {pos : Pos} (ho : ownB c own tg = true) (ok : blkC c.N c.sc scope (ownN c own) = true) (hi : noSet xi = true) (ht : mTg { c with sc := scope } tg xt = true) (hs : PI X xt xi (denI X cl G C W src))
    (he : ∀ (X' : Cx) (W' : WX), Good cl G C k { c with sc := scope } X' W' → PE X' xe (den cl G C W' elt)) : PE X (.ListComp xe [⟨xt, xi, [], 0⟩] scope pos) (den cl G C W (.lc own tg src elt)) := by
  obtain ⟨h1, h2⟩ := own_of ho
  have h := pe_ul (pe_lc (g := tgG X.K tg) (pos := pos) g.calm g.ndX hs (g.blkOk ok) (fun s H Ca cls fp => s_tg (g.blk ok s H Ca cls fp) ht) (fun _ _ _ _ _ => pts_nil) (fun s H Ca cls fp => he _ _ (g.blk ok s H Ca cls fp)) (noSet_ok hi))
  rw [h1] at h
  refine pe_w h fun σ H Q q => ?_
  refine (lc_src (e := .lc own tg src elt) (own := own) (fin := fun us s => if us.length ≤ LIM then okO ((optAll unV us).map fun ts => U.v (.lst ts)) s else .bad) (step := fun ρ x s => (match bindT tg x (wipeE ρ own) with
    | some ρ' => (ev G C elt ρ' s).bind fun u s => .ok (some u) s
    | none => .bad)) (fun ρ σ => lcB_plain h2) (fun ρ s => by simp only [ev]; all_goals rfl) (fun us s => ?_) (fun us s' I1 m1 H1 I m H D vs σ Q => fin_lst) σ H (fun v H' => HF H' → Q v H') ?_)
  · by_cases hz : us.length ≤ LIM
    · exact .inl hz
    · exact .inr (if_neg hz)
  · obtain ⟨I, m, ρ, s, hf, si, rs, o⟩ := q
    exact ⟨I, m, ρ, s, hf, si, rs, o.imp fun _ _ _ _ _ _ _ _ _ _ q _ => q⟩
theorem s_lcO (g : Good cl G C k c X W) {own : List Nat} {tg : Tgt} {src : Src} {elt : E} {xe xt xi : Expr} {scope : Scope} {pos : Pos} (ho : ownB c own tg = true) (ok : blkC c.N c.sc scope (ownN c own) = true) (hi : noSet xi = true) (ht : mTg { c with sc := scope } tg xt = true) (hs : PI X xt xi (denI X cl G C W src))
    (he : ∀ (X' : Cx) (W' : WX), Good cl G C k { c with sc := scope } X' W' → PE X' xe (den cl G C W' elt)) : PE X (.ListComp xe [⟨xt, xi, [], 0⟩] scope pos) (den cl G C W (.lcO own tg src elt)) := by
  obtain ⟨h1, h2⟩ := own_of ho
  have h := pe_ul (pe_lc (g := tgG X.K tg) (pos := pos) g.calm g.ndX hs (g.blkOk ok) (fun s H Ca cls fp => s_tg (g.blk ok s H Ca cls fp) ht) (fun _ _ _ _ _ => pts_nil) (fun s H Ca cls fp => he _ _ (g.blk ok s H Ca cls fp)) (noSet_ok hi))
  rw [h1] at h
  refine pe_w h fun σ H Q q => ?_
  refine (lc_src (e := .lcO own tg src elt) (own := own) (fin := fun us s => if us.length ≤ LIM then .ok (.ref s.length) (s ++ [.lst us]) else .bad) (step := fun ρ x s => (match bindT tg x (wipeE ρ own) with
    | some ρ' => (ev G C elt ρ' s).bind fun u s => .ok (some u) s
    | none => .bad)) (fun ρ σ => lcB_plain h2) (fun ρ s => by simp only [ev]; all_goals rfl) (fun us s => ?_) (fun us s' I1 m1 H1 I m H D vs σ Q => fin_lstO) σ H (fun v H' => HF H' → Q v H') ?_)
  · by_cases hz : us.length ≤ LIM
    · exact .inl hz
    · exact .inr (if_neg hz)
  · obtain ⟨I, m, ρ, s, hf, si, rs, o⟩ := q
    exact ⟨I, m, ρ, s, hf, si, rs, o.imp fun _ _ _ _ _ _ _ _ _ _ q _ => q⟩
theorem s_lcI (g : Good cl G C k c X W) {own : List Nat} {tg : Tgt} {src : Src} {q elt : E} {xe xt xi xq : Expr} {scope : Scope} {pos : Pos} (ho : ownB c own tg = true) (ok : blkC c.N c.sc scope (ownN c own) = true) (hi : noSet xi = true) (ht : mTg { c with sc := scope } tg xt = true) (hs : PI X xt xi (denI X cl G C W src))
    (hq : ∀ (X' : Cx) (W' : WX), Good cl G C k { c with sc := scope } X' W' → PT X' xq (denT cl G C W' q)) (he : ∀ (X' : Cx) (W' : WX), Good cl G C k { c with sc := scope } X' W' → PE X' xe (den cl G C W' elt)) : PE X (.ListComp xe [⟨xt, xi, [xq], 0⟩] scope pos) (den cl G C W (.lcI own tg src q elt)) := by
  obtain ⟨h1, h2⟩ := own_of ho
  have h := pe_ul (pe_lc (g := tgG X.K tg) (pos := pos) g.calm g.ndX hs (g.blkOk ok) (fun s H Ca cls fp => s_tg (g.blk ok s H Ca cls fp) ht) (fun s H Ca cls fp => pts_one (hq _ _ (g.blk ok s H Ca cls fp))) (fun s H Ca cls fp => he _ _ (g.blk ok s H Ca cls fp)) (noSet_ok hi))
  rw [h1] at h
  refine pe_w h fun σ H Q z => ?_
  refine (lc_src (e := .lcI own tg src q elt) (own := own) (fin := fun us s => if us.length ≤ LIM then okO ((optAll unV us).map fun ts => U.v (.lst ts)) s else .bad) (step := fun ρ x s => (match bindT tg x (wipeE ρ own) with
    | some ρ' => (ev G C q ρ' s).bind fun b s => (match truth s b with
      | some true => (ev G C elt ρ' s).bind fun u s => .ok (some u) s
      | some false => .ok none s
      | none => .bad)
    | none => .bad)) (fun ρ σ => lcB_if h2) (fun ρ s => by simp only [ev]; all_goals rfl) (fun us s => ?_) (fun us s' I1 m1 H1 I m H D vs σ Q => fin_lst) σ H (fun v H' => HF H' → Q v H') ?_)
  · by_cases hz : us.length ≤ LIM
    · exact .inl hz
    · exact .inr (if_neg hz)
  · obtain ⟨I, m, ρ, s, hf, si, rs, o⟩ := z
    exact ⟨I, m, ρ, s, hf, si, rs, o.imp fun _ _ _ _ _ _ _ _ _ _ q _ => q⟩
theorem s_lcIO (g : Good cl G C k c X W) {own : List Nat} {tg : Tgt} {src : Src} {q elt : E} {xe xt xi xq : Expr} {scope : Scope} {pos : Pos} (ho : ownB c own tg = true) (ok : blkC c.N c.sc scope (ownN c own) = true) (hi : noSet xi = true) (ht : mTg { c with sc := scope } tg xt = true) (hs : PI X xt xi (denI X cl G C W src))
    (hq : ∀ (X' : Cx) (W' : WX), Good cl G C k { c with sc := scope } X' W' → PT X' xq (denT cl G C W' q)) (he : ∀ (X' : Cx) (W' : WX), Good cl G C k { c with sc := scope } X' W' → PE X' xe (den cl G C W' elt)) : PE X (.ListComp xe [⟨xt, xi, [xq], 0⟩] scope pos) (den cl G C W (.lcIO own tg src q elt)) := by
  obtain ⟨h1, h2⟩ := own_of ho
  have h := pe_ul (pe_lc (g := tgG X.K tg) (pos := pos) g.calm g.ndX hs (g.blkOk ok) (fun s H Ca cls fp => s_tg (g.blk ok s H Ca cls fp) ht) (fun s H Ca cls fp => pts_one (hq _ _ (g.blk ok s H Ca cls fp))) (fun s H Ca cls fp => he _ _ (g.blk ok s H Ca cls fp)) (noSet_ok hi))
  rw [h1] at h
  refine pe_w h fun σ H Q z => ?_
  refine (lc_src (e := .lcIO own tg src q elt) (own := own) (fin := fun us s => if us.length ≤ LIM then .ok (.ref s.length) (s ++ [.lst us]) else .bad) (step := fun ρ x s => (match bindT tg x (wipeE ρ own) with
    | some ρ' => (ev G C q ρ' s).bind fun b s => (match truth s b with
      | some true => (ev G C elt ρ' s).bind fun u s => .ok (some u) s
      | some false => .ok none s
      | none => .bad)
    | none => .bad)) (fun ρ σ => lcB_if h2) (fun ρ s => by simp only [ev]; all_goals rfl) (fun us s => ?_) (fun us s' I1 m1 H1 I m H D vs σ Q => fin_lstO) σ H (fun v H' => HF H' → Q v H') ?_)
  · by_cases hz : us.length ≤ LIM
    · exact .inl hz
    · exact .inr (if_neg hz)
  · obtain ⟨I, m, ρ, s, hf, si, rs, o⟩ := z
    exact ⟨I, m, ρ, s, hf, si, rs, o.imp fun _ _ _ _ _ _ _ _ _ _ q _ => q⟩
end
theorem bad_den {cl : Nat → Addr} {G : Glo} {C : Call} {W : WX} {σ : St} {H : Hp} {Q : VK} (h : den cl G C W .bad σ H Q) : False := by
  obtain ⟨I, m, ρ, s, _, _, _, o⟩ := h
  simp only [ev] at o
  exact o
theorem bad_denT {cl : Nat → Addr} {G : Glo} {C : Call} {W : WX} {σ : St} {H : Hp} {Q : Bool → Hp → Prop} (h : denT cl G C W .bad σ H Q) : False := by
  obtain ⟨I, m, ρ, s, _, _, _, o⟩ := h
  simp only [ev] at o
  exact o
section
variable {cl : Nat → Addr} {G : Glo} {C : Call} {k : Nat}
mutual
theorem sndE : ∀ (e : E) {c : MC} {X : Cx} {W : WX}, Good cl G C k c X W → ∀ x : Expr, mE c e x = true → Snd cl G C X W e x
  | .bad, c, X, W, g, x, h => ⟨⟨fun _ _ _ _ _ _ h => (bad_den h).elim⟩, ⟨fun _ _ _ _ _ _ h => (bad_denT h).elim⟩, fun _ => ⟨fun _ _ _ _ _ _ _ h => (bad_denT h).elim⟩⟩
  | .var i, c, X, W, g, x, h => by
    simp only [mE] at h
    split at h
    · simp only [Bool.and_eq_true, decide_eq_true_eq] at h
      exact snd_of (s_var (by rw [g.N]; exact h.1.1) (g.vis _ h.1.2) h.2) (fun _ => rfl) rfl
    · cases h
  | .con t, c, X, W, g, x, h => by
    simp only [mE] at h
    split at h
    · exact snd_of (s_con h) (fun _ => rfl) rfl
    · cases h
  | .glo n, c, X, W, g, x, h => by
    simp only [mE] at h
    split at h
    · simp only [Bool.and_eq_true, decide_eq_true_eq] at h
      exact snd_of (s_glo g h.1.1 h.1.2 h.2) (fun _ => rfl) rfl
    · cases h
  | .bin op a b, c, X, W, g, x, h => by
    simp only [mE] at h
    split at h
    · simp only [Bool.and_eq_true, decide_eq_true_eq] at h
      obtain ⟨⟨⟨rfl, h1⟩, h2⟩, h3⟩ := h
      exact snd_of (s_bin h1 (sndE a g _ h2).pe (sndE b g _ h3).pe) (fun _ => rfl) rfl
    · cases h
  | .neg a, c, X, W, g, x, h => by
    simp only [mE] at h
    split at h
    · exact snd_of (s_neg (sndE a g _ h).pe) (fun _ => rfl) rfl
    · cases h
  | .not a, c, X, W, g, x, h => by
    simp only [mE] at h
    split at h
    · have q := sndE a g _ h
      exact ⟨s_not q.pe, s_notT q.pt, fun z => by cases z⟩
    · cases h
  | .and a b, c, X, W, g, x, h => by
    simp only [mE] at h
    split at h
    · rename_i xa xb rest pos
      rw [Bool.and_eq_true] at h
      have q := sndE a g _ h.1
      cases rest with
      | nil =>
        have q2 := sndE b g _ h.2
        have w := s_andT (pos := pos) q.pt (pw_and1 q2.pt)
        exact ⟨s_and q.pe (pe_one q2.pe), w.pt, fun _ => w⟩
      | cons y ys =>
        have q2 := sndE b g _ h.2
        have w := s_andT (pos := pos) q.pt (q2.pw rfl)
        exact ⟨s_and q.pe q2.pe, w.pt, fun _ => w⟩
    · cases h
  | .or a b, c, X, W, g, x, h => by
    simp only [mE] at h
    split at h
    · rename_i xa xb rest pos
      rw [Bool.and_eq_true] at h
      have q := sndE a g _ h.1
      cases rest with
      | nil =>
        have q2 := sndE b g _ h.2
        have w := s_orT (pos := pos) q.pt (pw_or1 q2.pt)
        exact ⟨s_or q.pe (pe_one q2.pe), w.pt, fun _ => w⟩
      | cons y ys =>
        have q2 := sndE b g _ h.2
        have w := s_orT (pos := pos) q.pt (q2.pw rfl)
        exact ⟨s_or q.pe q2.pe, w.pt, fun _ => w⟩
    · cases h
  | .cmp op a b, c, X, W, g, x, h => by
    simp only [mE] at h
    split at h
    · simp only [Bool.and_eq_true, decide_eq_true_eq, Bool.not_eq_true'] at h
      obtain ⟨⟨⟨rfl, h1⟩, h2⟩, h3⟩ := h
      obtain ⟨q1, q2⟩ := s_cmp (pos := _) g h1 (sndE a g _ h2).pe (sndE b g _ h3).pe
      exact ⟨q1, q2, fun z => by cases z⟩
    · cases h
  | .inR neg a b, c, X, W, g, x, h => by
    simp only [mE] at h
    split at h
    · simp only [Bool.and_eq_true, decide_eq_true_eq, Bool.not_eq_true'] at h
      obtain ⟨⟨⟨⟨rfl, h1⟩, h2⟩, h3⟩, h4⟩ := h
      obtain ⟨rfl, h5, h6⟩ := blt_of h1
      obtain ⟨q1, q2⟩ := s_inR g h5 h6 h2 (sndE a g _ h3).pe (sndE b g _ h4).pe
      exact ⟨q1, q2, fun z => by cases z⟩
    · cases h
  | .chn o1 o2 a b d, c, X, W, g, x, h => by
    simp only [mE] at h
    split at h
    · simp only [Bool.and_eq_true, decide_eq_true_eq, Bool.not_eq_true'] at h
      obtain ⟨⟨⟨⟨⟨rfl, rfl⟩, h1⟩, h2⟩, h3⟩, h4⟩ := h
      obtain ⟨q1, q2⟩ := s_chn (pos := _) g h1 (sndE a g _ h2).pe (sndE b g _ h3).pe (sndE d g _ h4).pe
      exact ⟨q1, q2, fun z => by cases z⟩
    · cases h
  | .ite q a b, c, X, W, g, x, h => by
    simp only [mE] at h
    split at h
    · simp only [Bool.and_eq_true] at h
      have q1 := sndE q g _ h.1.1
      have q2 := sndE a g _ h.1.2
      have q3 := sndE b g _ h.2
      exact ⟨s_ite q1.pt q2.pe q3.pe, s_iteT q1.pt q2.pt q3.pt, fun z => by cases z⟩
    · cases h
  | .call md f as, c, X, W, g, x, h => by
    simp only [mE] at h
    split at h
    · split at h
      · rename_i q hq
        simp only [Bool.and_eq_true, decide_eq_true_eq] at h
        obtain ⟨⟨⟨⟨⟨⟨rfl, h1⟩, h2⟩, h3⟩, h4⟩, h5⟩, h6⟩ := h
        exact snd_of (s_call g hq h1 h2 h3 h4 h5 (sndEs as g _ h6).1) (fun _ => rfl) rfl
      · cases h
    · split at h
      · rename_i q hq
        simp only [Bool.and_eq_true, decide_eq_true_eq] at h
        obtain ⟨⟨⟨⟨rfl, h1⟩, h2⟩, h3⟩, h4⟩ := h
        cases as with
        | nil => exact snd_of (s_call0 g hq h1 h2 h3) (fun _ => rfl) rfl
        | cons a as => simp [mEs] at h4
      · cases h
    · cases h
  | .prm p as, c, X, W, g, x, h => by
    simp only [mE] at h
    split at h
    · simp only [Bool.and_eq_true, decide_eq_true_eq] at h
      obtain ⟨⟨⟨⟨h1, h2⟩, h3⟩, h4⟩, h5⟩ := h
      exact snd_of (s_prm g h1 h2 h3 h4 (sndEs as g _ h5).1) (fun _ => rfl) rfl
    · simp only [Bool.and_eq_true, decide_eq_true_eq, beq_iff_eq] at h
      obtain ⟨⟨⟨⟨h1, h2⟩, h3⟩, rfl⟩, h5⟩ := h
      match as, h5 with
      | .cons a (.cons d .nil), h5 =>
        simp only [mEs, Bool.and_eq_true, Bool.not_eq_true', and_true] at h5
        exact snd_of (s_mxd g h1 h2 h3 h5.1.1 (sndE a g _ h5.1.2).pe (sndE d g _ h5.2.2).pe) (fun _ => rfl) rfl
      | .nil, h5 => simp [mEs] at h5
      | .cons a .nil, h5 => simp [mEs] at h5
      | .cons a (.cons d (.cons _ _)), h5 => simp [mEs] at h5
    · cases h
  | .meth p a es, c, X, W, g, x, h => by
    simp only [mE] at h
    split at h
    · rename_i xa nm apos xb pos
      simp only [Bool.and_eq_true, beq_iff_eq] at h
      obtain ⟨⟨⟨⟨h1, h2⟩, h3⟩, h4⟩, h5⟩ := h
      match es, h4 with
      | .cons b .nil, h4 =>
        simp only [mEs, Bool.and_eq_true, Bool.not_eq_true', and_true] at h4
        have qa := (sndE a g _ h3).pe
        have qb := (sndE b g _ h4.2).pe
        have hl : (apos.endLine == pos.line) = true := by rw [h1]; exact beq_self_eq_true _
        split at h5
        · cases eq_of_beq h5
          exact snd_of (s_join hl h4.1 h2 qa qb) (fun _ => rfl) rfl
        · cases eq_of_beq h5
          exact snd_of (s_index g hl h4.1 h2 qa qb) (fun _ => rfl) rfl
        · cases eq_of_beq h5
          exact snd_of (s_get1 g hl h4.1 h2 qa qb) (fun _ => rfl) rfl
        · cases eq_of_beq h5
          exact snd_of (s_split hl h4.1 h2 qa qb) (fun _ => rfl) rfl
        · cases eq_of_beq h5
          exact snd_of (s_count g hl h4.1 h2 qa qb) (fun _ => rfl) rfl
        · cases h5
      | .nil, h4 => simp [mEs] at h4
      | .cons b (.cons _ _), h4 => simp [mEs] at h4
    · rename_i xa nm apos xb xd pos
      simp only [Bool.and_eq_true, beq_iff_eq] at h
      obtain ⟨⟨⟨⟨h1, h2⟩, h3⟩, h4⟩, h5⟩ := h
      match es, h4 with
      | .cons b (.cons d .nil), h4 =>
        simp only [mEs, Bool.and_eq_true, Bool.not_eq_true', and_true] at h4
        have qa := (sndE a g _ h3).pe
        have qb := (sndE b g _ h4.1.2).pe
        have qd := (sndE d g _ h4.2.2).pe
        have hl : (apos.endLine == pos.line) = true := by rw [h1]; exact beq_self_eq_true _
        split at h5
        · cases eq_of_beq h5
          exact snd_of (s_get2 g hl h4.1.1 h4.2.1 h2 qa qb qd) (fun _ => rfl) rfl
        · cases h5
      | .nil, h4 => simp [mEs] at h4
      | .cons b .nil, h4 => simp [mEs] at h4
      | .cons b (.cons _ (.cons _ _)), h4 => simp [mEs] at h4
    · rename_i id p1 xa nm apos cpos pos
      simp only [Bool.and_eq_true, beq_iff_eq] at h
      obtain ⟨⟨⟨⟨⟨h1, h2⟩, h6⟩, h3⟩, h4⟩, h5⟩ := h
      obtain ⟨rfl, h7, h8⟩ := blt_of h6
      match es, h4 with
      | .nil, h4 =>
        have hl : (apos.endLine == cpos.line) = true := by rw [h1]; exact beq_self_eq_true _
        split at h5
        · cases eq_of_beq h5
          exact snd_of (s_vals g h7 h8 hl h2 (sndE a g _ h3).pe) (fun _ => rfl) rfl
        · cases h5
      | .cons _ _, h4 => simp [mEs] at h4
    · simp only [Bool.and_eq_true, decide_eq_true_eq] at h
      obtain ⟨⟨⟨⟨⟨rfl, h2⟩, h3⟩, h4⟩, h5⟩, h6⟩ := h
      cases eq_of_beq h2
      obtain ⟨w, ch, r, rfl, rfl, hw, rfl, rfl, hz⟩ := replwB_of h3
      exact snd_of (s_replw hw h4 h5 hz (sndE a g _ h6).pe) (fun _ => rfl) rfl
    · cases h
  | .dctE es, c, X, W, g, x, h => by
    simp only [mE] at h
    split at h
    · simp only [Bool.and_eq_true, decide_eq_true_eq] at h
      obtain ⟨⟨⟨⟨h1, h2⟩, h3⟩, h4⟩, h5⟩ := h
      obtain ⟨q1, q2, q3⟩ := sndEs es g _ h5
      exact snd_of (s_dctE h1 h2 h3 h4 q2 q3) (fun _ => rfl) rfl
    · cases h
  | .dctEO es, c, X, W, g, x, h => by
    simp only [mE] at h
    split at h
    · simp only [Bool.and_eq_true, decide_eq_true_eq] at h
      obtain ⟨⟨⟨⟨h1, h2⟩, h3⟩, h4⟩, h5⟩ := h
      obtain ⟨q1, q2, q3⟩ := sndEs es g _ h5
      exact snd_of (s_dctEO h1 h2 h3 h4 q2 q3) (fun _ => rfl) rfl
    · cases h
  | .revS a, c, X, W, g, x, h => by
    simp only [mE] at h
    split at h
    · simp only [Bool.and_eq_true, decide_eq_true_eq] at h
      obtain ⟨rfl, h⟩ := h
      exact snd_of (s_revS (sndE a g _ h).pe) (fun _ => rfl) rfl
    · cases h
  | .lcIO own tg src q elt, c, X, W, g, x, h => by
    simp only [mE] at h
    split at h
    · simp only [Bool.and_eq_true, decide_eq_true_eq] at h
      obtain ⟨⟨⟨⟨⟨⟨⟨rfl, h1⟩, h2⟩, h3⟩, h4⟩, h5⟩, h6⟩, h7⟩ := h
      exact snd_of (s_lcIO g h1 h2 h3 h4 (sndSrc src g _ _ h5) (fun X' W' g' => (sndE q g' _ h6).pt) fun X' W' g' => (sndE elt g' _ h7).pe) (fun _ => rfl) rfl
    · cases h
  | .len a, c, X, W, g, x, h => by
    simp only [mE] at h
    split at h
    · simp only [Bool.and_eq_true, Bool.not_eq_true'] at h
      obtain ⟨⟨h1, h2⟩, h3⟩ := h
      obtain ⟨rfl, h4, h5⟩ := blt_of h1
      exact snd_of (s_len g h4 h5 h2 (sndE a g _ h3).pe) (fun _ => rfl) rfl
    · cases h
  | .isi a ks, c, X, W, g, x, h => by
    simp only [mE] at h
    split at h
    · simp only [Bool.and_eq_true, Bool.not_eq_true'] at h
      obtain ⟨⟨⟨h1, h2⟩, h3⟩, h6⟩ := h
      obtain ⟨rfl, h4, h5⟩ := blt_of h1
      split at h6
      · simp only [Bool.and_eq_true, decide_eq_true_eq] at h6
        exact snd_of (s_isiT g h4 h5 h2 (sndE a g _ h3).pe h6.1 h6.2) (fun _ => rfl) rfl
      · split at h6
        · exact snd_of (s_isi1 g h4 h5 h2 (sndE a g _ h3).pe h6) (fun _ => rfl) rfl
        · cases h6
    · cases h
  | .idx a b, c, X, W, g, x, h => by
    simp only [mE] at h
    split at h
    · simp only [Bool.and_eq_true] at h
      exact snd_of (s_idx g h.1.1 (sndE a g _ h.1.2).pe (sndE b g _ h.2).pe) (fun _ => rfl) rfl
    · cases h
  | .cutL a lo, c, X, W, g, x, h => by
    simp only [mE] at h
    split at h
    · simp only [Bool.and_eq_true] at h
      exact snd_of (s_cutL (sndE a g _ h.1).pe (sndE lo g _ h.2).pe) (fun _ => rfl) rfl
    · cases h
  | .cutR a hi, c, X, W, g, x, h => by
    simp only [mE] at h
    split at h
    · simp only [Bool.and_eq_true] at h
      exact snd_of (s_cutR (sndE a g _ h.1).pe (sndE hi g _ h.2).pe) (fun _ => rfl) rfl
    · cases h
  | .cutB a lo hi, c, X, W, g, x, h => by
    simp only [mE] at h
    split at h
    · simp only [Bool.and_eq_true] at h
      exact snd_of (s_cutB (sndE a g _ h.1.1).pe (sndE lo g _ h.1.2).pe (sndE hi g _ h.2).pe) (fun _ => rfl) rfl
    · cases h
  | .cutN a, c, X, W, g, x, h => by
    simp only [mE] at h
    split at h
    · exact snd_of (s_cutN (sndE a g _ h).pe) (fun _ => rfl) rfl
    · cases h
  | .tupd es, c, X, W, g, x, h => by
    simp only [mE] at h
    split at h
    · simp only [Bool.and_eq_true] at h
      exact snd_of (s_tup (sndEs es g _ h.2).1) (fun _ => rfl) rfl
    · cases h
  | .lstd es, c, X, W, g, x, h => by
    simp only [mE] at h
    split at h
    · simp only [Bool.and_eq_true] at h
      exact snd_of (s_lst (sndEs es g _ h.2).1) (fun _ => rfl) rfl
    · cases h
  | .lstO es, c, X, W, g, x, h => by
    simp only [mE] at h
    split at h
    · simp only [Bool.and_eq_true] at h
      exact snd_of (s_lstO (sndEs es g _ h.2).1) (fun _ => rfl) rfl
    · cases h
  | .dctd ks es, c, X, W, g, x, h => by
    simp only [mE] at h
    split at h
    · simp only [Bool.and_eq_true, Bool.or_eq_true, decide_eq_true_eq] at h
      obtain ⟨⟨⟨⟨h1, h2⟩, h3⟩, h4⟩, h5⟩ := h
      obtain ⟨q1, q2, q3⟩ := sndEs es g _ h4
      rcases h5 with h5 | h5
      · exact snd_of (s_dctd h1 h5 h2 h3 q2 q3) (fun _ => rfl) rfl
      · obtain ⟨⟨rfl, h6⟩, rfl⟩ := h5
        cases es with
        | nil =>
          rename_i xs _
          cases xs with
          | nil => exact snd_of s_dct0d (fun _ => rfl) rfl
          | cons _ _ => simp [mKys] at h1
        | cons _ _ => cases h6
    · cases h
  | .dctO ks es, c, X, W, g, x, h => by
    simp only [mE] at h
    split at h
    · simp only [Bool.and_eq_true, Bool.or_eq_true, decide_eq_true_eq] at h
      obtain ⟨⟨⟨⟨h1, h2⟩, h3⟩, h4⟩, h5⟩ := h
      obtain ⟨q1, q2, q3⟩ := sndEs es g _ h4
      rcases h5 with h5 | h5
      · exact snd_of (s_dctO h1 h5 h2 h3 q2 q3) (fun _ => rfl) rfl
      · obtain ⟨⟨rfl, h6⟩, rfl⟩ := h5
        cases es with
        | nil =>
          rename_i xs _
          cases xs with
          | nil => exact snd_of s_dct0 (fun _ => rfl) rfl
          | cons _ _ => simp [mKys] at h1
        | cons _ _ => cases h6
    · cases h
  | .lc own tg src elt, c, X, W, g, x, h => by
    simp only [mE] at h
    split at h
    · simp only [Bool.and_eq_true, decide_eq_true_eq] at h
      obtain ⟨⟨⟨⟨⟨⟨rfl, h1⟩, h2⟩, h3⟩, h4⟩, h5⟩, h6⟩ := h
      exact snd_of (s_lc g h1 h2 h3 h4 (sndSrc src g _ _ h5) fun X' W' g' => (sndE elt g' _ h6).pe) (fun _ => rfl) rfl
    · cases h
  | .lcI own tg src q elt, c, X, W, g, x, h => by
    simp only [mE] at h
    split at h
    · simp only [Bool.and_eq_true, decide_eq_true_eq] at h
      obtain ⟨⟨⟨⟨⟨⟨⟨rfl, h1⟩, h2⟩, h3⟩, h4⟩, h5⟩, h6⟩, h7⟩ := h
      exact snd_of (s_lcI g h1 h2 h3 h4 (sndSrc src g _ _ h5) (fun X' W' g' => (sndE q g' _ h6).pt) fun X' W' g' => (sndE elt g' _ h7).pe) (fun _ => rfl) rfl
    · cases h
  | .lcO own tg src elt, c, X, W, g, x, h => by
    simp only [mE] at h
    split at h
    · simp only [Bool.and_eq_true, decide_eq_true_eq] at h
      obtain ⟨⟨⟨⟨⟨⟨rfl, h1⟩, h2⟩, h3⟩, h4⟩, h5⟩, h6⟩ := h
      exact snd_of (s_lcO g h1 h2 h3 h4 (sndSrc src g _ _ h5) fun X' W' g' => (sndE elt g' _ h6).pe) (fun _ => rfl) rfl
    · cases h
  | .newL a, c, X, W, g, x, h => by
    simp only [mE] at h
    split at h
    · simp only [Bool.and_eq_true, Bool.not_eq_true'] at h
      obtain ⟨⟨h1, h2⟩, h3⟩ := h
      obtain ⟨rfl, h4, h5⟩ := blt_of h1
      exact snd_of (s_newL g h4 h5 h2 (sndE a g _ h3).pe) (fun _ => rfl) rfl
    · cases h
  | .newD a, c, X, W, g, x, h => by
    simp only [mE] at h
    split at h
    · simp only [Bool.and_eq_true, Bool.not_eq_true'] at h
      obtain ⟨⟨h1, h2⟩, h3⟩ := h
      obtain ⟨rfl, h4, h5⟩ := blt_of h1
      exact snd_of (s_newD g h4 h5 h2 (sndE a g _ h3).pe) (fun _ => rfl) rfl
    · cases h
  | .app a b, c, X, W, g, x, h => by
    simp only [mE] at h
    split at h
    · simp only [Bool.and_eq_true, Bool.not_eq_true', beq_iff_eq] at h
      obtain ⟨⟨⟨⟨⟨rfl, h1⟩, h2⟩, h3⟩, h4⟩, h5⟩ := h
      exact snd_of (s_app (by rw [h1]; exact beq_self_eq_true _) h2 h3 (sndE a g _ h4).pe (sndE b g _ h5).pe) (fun _ => rfl) rfl
    · cases h
  | .pop0 a, c, X, W, g, x, h => by simp [mE] at h
  | .pop1 a b, c, X, W, g, x, h => by simp [mE] at h
  | .ins a b d, c, X, W, g, x, h => by simp [mE] at h
theorem sndEs : ∀ (es : Es) {c : MC} {X : Cx} {W : WX}, Good cl G C k c X W → ∀ xs : List Expr, mEs c es xs = true → PA X xs (denA cl G C W es) ∧ (esL es).length = xs.length ∧ ∀ (j : Nat) e y, (esL es)[j]? = some e → xs[j]? = some y → PE X y (den cl G C W e)
  | .nil, c, X, W, g, xs, h => by
    simp only [mEs] at h
    split at h
    · exact ⟨s_nil, rfl, fun j e y h => by simp [esL] at h⟩
    · cases h
  | .cons e es, c, X, W, g, xs, h => by
    simp only [mEs] at h
    split at h
    · simp only [Bool.and_eq_true, Bool.not_eq_true'] at h
      obtain ⟨⟨h1, h2⟩, h3⟩ := h
      have q := sndE e g _ h2
      obtain ⟨q1, q2, q3⟩ := sndEs es g _ h3
      refine ⟨s_cons h1 q.pe q1, by simp only [esL, List.length_cons, q2], fun j e' y h4 h5 => ?_⟩
      cases j with
      | zero =>
        simp only [esL, List.getElem?_cons_zero, Option.some.injEq] at h4 h5
        subst h4 h5
        exact q.pe
      | succ j =>
        simp only [esL, List.getElem?_cons_succ] at h4 h5
        exact q3 j e' y h4 h5
    · cases h
theorem sndSrc : ∀ (src : Src) {c : MC} {X : Cx} {W : WX}, Good cl G C k c X W → ∀ t x : Expr, mSrc c src t x = true → PI X t x (denI X cl G C W src)
  | .it e, c, X, W, g, t, x, h => by
    simp only [mSrc] at h
    exact s_it (sndE e g _ h).pe
  | .rng1 a, c, X, W, g, t, x, h => by
    simp only [mSrc] at h
    split at h
    · simp only [Bool.and_eq_true, Bool.not_eq_true'] at h
      obtain ⟨⟨h1, h2⟩, h3⟩ := h
      obtain ⟨rfl, h4, h5⟩ := blt_of h1
      exact s_rng1 g h4 h5 h2 (sndE a g _ h3).pe
    · cases h
  | .rng2 a b, c, X, W, g, t, x, h => by
    simp only [mSrc] at h
    split at h
    · simp only [Bool.and_eq_true, Bool.not_eq_true'] at h
      obtain ⟨⟨⟨⟨h1, h2⟩, h3⟩, h6⟩, h7⟩ := h
      obtain ⟨rfl, h4, h5⟩ := blt_of h1
      exact s_rng2 g h4 h5 h2 h3 (sndE a g _ h6).pe (sndE b g _ h7).pe
    · cases h
  | .rng3 a b d, c, X, W, g, t, x, h => by simp [mSrc] at h
  | .items a, c, X, W, g, t, x, h => by
    simp only [mSrc] at h
    split at h
    · simp only [Bool.and_eq_true, beq_iff_eq] at h
      obtain ⟨⟨⟨rfl, h1⟩, h2⟩, h3⟩ := h
      exact s_items (by rw [h1]; exact beq_self_eq_true _) h2 (sndE a g _ h3).pe
    · cases h
  | .values a, c, X, W, g, t, x, h => by
    simp only [mSrc] at h
    split at h
    · simp only [Bool.and_eq_true, beq_iff_eq] at h
      obtain ⟨⟨⟨rfl, h1⟩, h2⟩, h3⟩ := h
      exact s_values (by rw [h1]; exact beq_self_eq_true _) h2 (sndE a g _ h3).pe
    · cases h
  | .enm a, c, X, W, g, t, x, h => by simp [mSrc] at h
  | .rev a, c, X, W, g, t, x, h => by simp [mSrc] at h
end
end
end Cab

set_option Elab.async false
set_option linter.all false
set_option maxRecDepth 100000
set_option maxHeartbeats 4000000
namespace Cab
open PySem PySem.Spec PyProof.Rows L2
/-! ### statements -/
def OutS (cl : Nat → Addr) (W : WX) (D : Ends) (I : Hp) (m : List Addr) (H : Hp) (r : RS) : Prop := match r with
  | .nx ρ s => ∀ I' m' H' σ, HF H' → Ext I m H I' m' H' → Sim cl I' m' s H' → RelS I' m' ρ σ → D.nx σ H'
  | .rt u s => ∀ I' m' H' x, HF H' → Ext I m H I' m' H' → Sim cl I' m' s H' → RelU I' m' u x → D.rt x H'
  | .bk ρ s => ∀ I' m' H' σ, HF H' → Ext I m H I' m' H' → Sim cl I' m' s H' → RelS I' m' ρ σ → D.bk σ H'
  | .ct ρ s => ∀ I' m' H' σ, HF H' → Ext I m H I' m' H' → Sim cl I' m' s H' → RelS I' m' ρ σ → D.ct σ H'
  | .exc x ρ s => ∀ I' m' H' σ c d, HF H' → Ext I m H I' m' H' → Sim cl I' m' s H' → RelS I' m' ρ σ → ExRel cl I' x c d H' → W c d σ H'
  | .bad => False
def denS (cl : Nat → Addr) (W : WX) (run : Env → Store → RS) : TS := fun D σ H => ∃ I m ρ s, HF H ∧ Sim cl I m s H ∧ RelS I m ρ σ ∧ OutS cl W D I m H (run ρ s)
theorem OutS.mono {cl : Nat → Addr} {W : WX} {D : Ends} {I I1 : Hp} {m m1 : List Addr} {H H1 : Hp} {r : RS} (h : OutS cl W D I m H r) (e : Ext I m H I1 m1 H1) : OutS cl W D I1 m1 H1 r := by
  cases r with
  | nx ρ s => exact fun I' m' H' σ hf e' => h I' m' H' σ hf (e.trans e')
  | rt u s => exact fun I' m' H' x hf e' => h I' m' H' x hf (e.trans e')
  | bk ρ s => exact fun I' m' H' σ hf e' => h I' m' H' σ hf (e.trans e')
  | ct ρ s => exact fun I' m' H' σ hf e' => h I' m' H' σ hf (e.trans e')
  | exc x ρ s => exact fun I' m' H' σ c d hf e' => h I' m' H' σ c d hf (e.trans e')
  | bad => exact h
/-- the first part of a statement: an expression -/
theorem OutS.expr {cl : Nat → Addr} {W : WX} {D : Ends} {I : Hp} {m : List Addr} {H : Hp} {ρ : Env} {σ : St} {r : R U} {f : U → Store → RS} {K : U → Store → Hp → List Addr → Hp → V → Prop} (rs : RelS I m ρ σ) (h : OutS cl W D I m H (r.toS ρ f))
    (k : ∀ u s' I' m' H' x, HF H' → Ext I m H I' m' H' → Sim cl I' m' s' H' → RelU I' m' u x → OutS cl W D I' m' H' (f u s') → K u s' I' m' H' x) : OutR cl RelU W σ I m H r K := by
  cases r with
  | ok u s => exact fun I' m' H' x hf e' si re => k u s I' m' H' x hf e' si re (OutS.mono h e')
  | exc x s => exact fun I' m' H' c d hf e' si re => h I' m' H' σ c d hf e' si (rs.mono e') re
  | bad => exact h
def hfE (D : Ends) : Ends := ⟨fun σ H => HF H → D.nx σ H, fun v H => HF H → D.rt v H, fun σ H => HF H → D.bk σ H, fun σ H => HF H → D.ct σ H⟩
section
variable {X : Cx}
theorem ps_w {st : Stmt} {t t' : TS} (h : PS X st t) (q : ∀ D σ H, t' D σ H → t (hfE D) σ H) : PS X st t' := by
  refine ⟨fun pins s σ H D J z => thn (h.run pins s σ H (hfE D) J (q D σ H z)) fun f s1 sp => ?_⟩
  cases f with
  | next =>
    obtain ⟨σ', H', J', n⟩ := sp
    exact ⟨σ', H', J', n (inv_hf J')⟩
  | brk =>
    obtain ⟨σ', H', J', n⟩ := sp
    exact ⟨σ', H', J', n (inv_hf J')⟩
  | cont =>
    obtain ⟨σ', H', J', n⟩ := sp
    exact ⟨σ', H', J', n (inv_hf J')⟩
  | ret u =>
    obtain ⟨v, σ', H', J', r, n⟩ := sp
    exact ⟨v, σ', H', J', r, n (inv_hf J')⟩
def ulE (X : Cx) (D : Ends) : Ends := ⟨fun σ H => ∃ H2, Ul X H H2 ∧ D.nx σ H2, fun v H => ∃ H2, Ul X H H2 ∧ D.rt v H2, fun σ H => ∃ H2, Ul X H H2 ∧ D.bk σ H2, fun σ H => ∃ H2, Ul X H H2 ∧ D.ct σ H2⟩
theorem Ul.inv {pins : List (Addr × Obj)} {σ : St} {H H2 : Hp} {s : Shared} (l : Ul X H H2) (J : Inv X pins σ H s) : Inv X pins σ H2 s := by
  rcases l with rfl | ⟨d, od, kvs, e1, rfl, nz⟩
  · exact J
  · exact J.unlock e1 nz
theorem ps_ul {st : Stmt} {t : TS} (h : PS X st t) : PS X st (fun D => t (ulE X D)) := by
  refine ⟨fun pins s σ H D J z => thn (h.run pins s σ H (ulE X D) J z) fun f s1 sp => ?_⟩
  cases f with
  | next =>
    obtain ⟨σ', H', J', H2, l, n⟩ := sp
    exact ⟨σ', H2, l.inv J', n⟩
  | brk =>
    obtain ⟨σ', H', J', H2, l, n⟩ := sp
    exact ⟨σ', H2, l.inv J', n⟩
  | cont =>
    obtain ⟨σ', H', J', H2, l, n⟩ := sp
    exact ⟨σ', H2, l.inv J', n⟩
  | ret u =>
    obtain ⟨v, σ', H', J', r, H2, l, n⟩ := sp
    exact ⟨v, σ', H2, l.inv J', r, n⟩
/-- an exception may leave a walk over a locked dict -/
def ulW (X : Cx) (W : WX) : WX := fun c d σ H => ∃ H2, Ul X H H2 ∧ W c d σ H2
theorem takes_ul {W : WX} (t : Takes X W) : Takes X (ulW X W) := by
  rintro u s' ⟨a, B, sI, pins, σ, H, cls, d, e, J, nb, up, sky, na, os, ag, H2, l, w⟩
  refine t u s' ⟨a, B, sI, pins, σ, H2, cls, d, e, l.inv J, nb, up, sky, ?_, os, ag, w⟩
  rcases l with rfl | ⟨b, od, kvs, e1, rfl, nz⟩
  · exact na
  · rw [upd_ne (fun z => by rw [z, e1] at na; cases na)]
    exact na
end
section
variable {cl : Nat → Addr} {G : Glo} {C : Call} {k : Nat} {c : MC} {X : Cx} {W : WX} {Wf : Nat}
theorem Good.ul (g : Good cl G C k c X W) : Good cl G C k c X (ulW X W) := { g with tk := takes_ul g.tk }
/-! ### what a store of an item does -/
def rSet : V → V → V → Hp → (Hp → Prop) → Prop := fun o i v H Q => rSetL o i v H Q ∨ ∃ a H2, o = .ref a ∧ DPut H a i v H2 ∧ Q H2
theorem set_any (hu : X.A.units + 1 < cLine) : PSet X rSet := by
  intro pins s σ H o i v ov iv u Q J ro ri rv h
  rcases h with h | ⟨a, H2, rfl, p, q⟩
  · exact set_list pins s σ H o i v ov iv u Q J ro ri rv h
  · cases (show ov = Value.ref a from ro)
    exact d_setItem hu J p ri rv fun s4 J4 => ⟨H2, J4, q⟩
theorem relUs_set {I : Hp} {m : List Addr} {w : U} {v : V} (r : RelU I m w v) : ∀ {us : List U} {vs : List V} (j : Nat), RelUs I m us vs → RelUs I m (us.set j w) (vs.set j v)
  | [], _, j, h => by
    cases (show _ = [] from h)
    exact h
  | _ :: _, _, 0, h => by
    obtain ⟨x, rs, rfl, h1, h2⟩ := h
    exact ⟨v, rs, rfl, r, h2⟩
  | _ :: us, _, j + 1, h => by
    obtain ⟨x, rs, rfl, h1, h2⟩ := h
    exact ⟨x, rs.set j v, rfl, h1, relUs_set r j h2⟩
theorem sub_ok {I : Hp} {m : List Addr} {s s' : Store} {H : Hp} {Q : Hp → Prop} (hf : HF H) (si : Sim cl I m s H) {o q w : U} {x y v : V} (ro : RelU I m o x) (rk : RelU I m q y) (rw_ : RelU I m w v) (e : subU s o q w = some s')
    (fin : ∀ H', Ext I m H I m H' → Sim cl I m s' H' → Q H') : rSet x y v H Q := by
  cases o with
  | ref i =>
    cases q with
    | v q =>
      simp only [subU] at e
      cases es : s[i]? with
      | none =>
        rw [es] at e
        cases q <;> simp at e
      | some ob =>
        rw [es] at e
        obtain ⟨a, ho, rfl, e2, e3, e4⟩ := si.at ro es
        cases ob with
        | lst us =>
          cases q <;> simp only [reduceCtorEq] at e
          rename_i j
          obtain ⟨vs, rfl, h2⟩ := e4
          have hl := relUs_len h2
          have key : ∀ jj, ixN vs.length j = some jj → s' = s.set i (.lst (us.set jj w)) → rSet (.ref a) y v H Q := by
            intro jj hj es'
            subst es'
            obtain ⟨si3, e3'⟩ := sim_set (o' := .lst (us.set jj w)) (ho := .lst (vs.set jj v)) si e2 ⟨_, rfl, relUs_set rw_ jj h2⟩
            exact .inl ⟨a, vs, j, jj, rfl, rk, e3, hj, fin _ e3' si3⟩
          split at e
          · rename_i h0
            split at e
            · rename_i h1
              refine key j.toNat ?_ (Option.some.inj e).symm
              unfold ixN
              rw [if_pos h0, if_pos (by rw [← hl]; exact h1)]
            · cases e
          · rename_i h0
            split at e
            · rename_i h1
              refine key (j + us.length).toNat ?_ (Option.some.inj e).symm
              unfold ixN
              rw [if_neg h0, if_pos (by rw [← hl]; exact h1), hl]
            · cases e
        | dct kvs =>
          obtain ⟨ws, rfl, h2⟩ := e4
          simp only at e
          cases ek : tKy q with
          | none =>
            rw [ek] at e
            cases e
          | some kk =>
            rw [ek] at e
            simp only at e
            split at e
            · rename_i hz
              obtain ⟨h3, h4⟩ := tKy_I ek rk
              have nd := (hf.k a ws (.inl e3)).2
              obtain ⟨si3, e3'⟩ := sim_set (o' := .dct (kput kk w kvs)) (ho := .dK (putK ws (kyK kk) v)) si e2 ⟨_, rfl, relUK_put h4 rw_ nd h2⟩
              cases e
              exact .inr ⟨a, _, rfl, .inl ⟨ws, kyK kk, e3, h3, by rw [← relUK_len h2, line_LIM]; exact hz, rfl⟩, fin _ e3' si3⟩
            · cases e
        | ins q2 fs => cases q <;> simp at e
    | _ => simp [subU] at e
  | v t => simp [subU] at e
  | tup us => simp [subU] at e
/-! ### augmented assignments -/
def rAug : Operator → V → V → Hp → VK → Prop := fun op x y H Q => (op = .Add ∧ ∃ i j, x = .int i ∧ y = .int j ∧ Q (.int (i + j)) H) ∨ (op = .Sub ∧ ∃ i j, x = .int i ∧ y = .int j ∧ Q (.int (i - j)) H) ∨ (op = .Add ∧ ∃ i j : Str, x = .str i ∧ y = .str j ∧ i.length + j.length ≤ sizeLine ∧ Q (.str (i ++ j)) H)
theorem aug_any (op : Operator) : PIp X op (rAug op) := by
  intro pins s σ H x y v u Q J rx ry h
  rcases h with ⟨rfl, h⟩ | ⟨rfl, h⟩ | ⟨rfl, h⟩
  · exact ip_add pins s σ H x y v u Q J rx ry h
  · exact ip_sub pins s σ H x y v u Q J rx ry h
  · exact iop_add_str pins s σ H x y v u Q J rx ry h
/-! ### one statement after another -/
theorem t_never {st : Stmt} {run : Env → Store → RS} (h : ∀ ρ s, run ρ s = .bad) : PS X st (denS cl W run) := by
  refine ps_w ps_never fun D σ H ⟨I, m, ρ, s, hf, si, rs, o⟩ => ?_
  rw [h] at o
  exact o.elim
theorem t_nx {st : Stmt} {run : Env → Store → RS} (hp : PS X st tNext) (h : ∀ ρ s, run ρ s = .nx ρ s) : PS X st (denS cl W run) := by
  refine ps_w hp fun D σ H ⟨I, m, ρ, s, hf, si, rs, o⟩ => ?_
  rw [h] at o
  exact fun hf => o I m H σ hf Ext.refl si rs
theorem t_brk {pos : Pos} : PS X (.Break pos) (denS cl W (exS G C Wf .brk)) := by
  refine ps_w ps_break fun D σ H ⟨I, m, ρ, s, hf, si, rs, o⟩ => ?_
  simp only [exS] at o
  exact fun hf => o I m H σ hf Ext.refl si rs
theorem t_cnt {pos : Pos} : PS X (.Continue pos) (denS cl W (exS G C Wf .cnt)) := by
  refine ps_w ps_continue fun D σ H ⟨I, m, ρ, s, hf, si, rs, o⟩ => ?_
  simp only [exS] at o
  exact fun hf => o I m H σ hf Ext.refl si rs
theorem t_retN {pos : Pos} : PS X (.Return none pos) (denS cl W (exS G C Wf .retN)) := by
  refine ps_w ps_retN fun D σ H ⟨I, m, ρ, s, hf, si, rs, o⟩ => ?_
  simp only [exS] at o
  exact fun hf => o I m H _ hf Ext.refl si rfl
theorem t_ret {e : E} {x : Expr} {pos : Pos} (h : PE X x (den cl G C W e)) : PS X (.Return (some x) pos) (denS cl W (exS G C Wf (.ret e))) := by
  refine ps_w (ps_ret h) fun D σ H ⟨I, m, ρ, s, hf, si, rs, o⟩ => ?_
  simp only [exS] at o
  exact ⟨I, m, ρ, s, hf, si, rs, OutS.expr rs o fun u s1 I1 m1 H1 y hf1 e1 si1 r1 o1 hf => o1 I1 m1 H1 y hf Ext.refl si1 r1⟩
/-- a comprehension's value is not to be dropped -/
def notComp : Expr → Bool
  | .ListComp _ _ _ _ => false
  | .SetComp _ _ _ _ => false
  | .DictComp _ _ _ _ _ => false
  | _ => true
theorem sw_plain {x : Expr} {t : Option Expr} {l : Nat} {env : PySem.Env} (h : notComp x = true) : swapsWith x t l env = pure false := by
  cases x <;> first | (simp [notComp] at h; done) | rfl
theorem t_ex {e : E} {x : Expr} {pos : Pos} (hc : notComp x = true) (h : PE X x (den cl G C W e)) : PS X (.Expr x pos) (denS cl W (exS G C Wf (.ex e))) := by
  refine ps_w (ps_expr h (sw_plain hc)) fun D σ H ⟨I, m, ρ, s, hf, si, rs, o⟩ => ?_
  simp only [exS] at o
  exact ⟨I, m, ρ, s, hf, si, rs, OutS.expr rs o fun u s1 I1 m1 H1 y hf1 e1 si1 r1 o1 hf => o1 I1 m1 H1 σ hf Ext.refl si1 (rs.mono e1)⟩
/-- a comprehension into a name on another line -/
def offLine (c : MC) (id : Str) : Expr → Pos → Bool
  | .ListComp _ _ _ q, p => !(p.line == q.line) || cellB c.sc id
  | x, _ => notComp x
theorem sw_off {c : MC} {x : Expr} {id : Str} {p : Pos} {l : Nat} {env : PySem.Env} (hc : cellB c.sc id = true → env.scope.names.lookup id = some .cell) (h : offLine c id x p = true) : swapsWith x (some (.Name id p)) l env = pure false := by
  unfold offLine at h
  split at h
  · rename_i q
    rw [Bool.or_eq_true] at h
    rcases h with h | h
    · simp only [Bool.not_eq_true'] at h
      unfold swapsWith
      simp only [Expr.pos, h, Bool.and_false, Bool.false_and]
    · have ky : env.kindOf id = some .cell := hc h
      unfold swapsWith
      have e : (some NameKind.cell == some NameKind.local) = false := by decide
      simp only [ky, e, Bool.and_false, Bool.false_and]
  · exact sw_plain h
theorem t_set (g : Good cl G C k c X W) {i : Nat} {id : Str} {p pos : Pos} {e : E} {x : Expr} (hi : stB c i id = true) (hl : offLine c id x p = true) (h : PE X x (den cl G C W e)) : PS X (.Assign [.Name id p] x pos) (denS cl W (exS G C Wf (.set i e))) := by
  obtain ⟨h1, h2, h3⟩ := st_loc g hi
  refine ps_w (ps_set g.ndX h1 h2 h (sw_off (fun z => (g.cell _ z).1) hl) h3) fun D σ H ⟨I, m, ρ, s, hf, si, rs, o⟩ => ?_
  simp only [exS] at o
  exact ⟨I, m, ρ, s, hf, si, rs, OutS.expr rs o fun u s1 I1 m1 H1 y hf1 e1 si1 r1 o1 hf => o1 I1 m1 H1 _ hf Ext.refl si1 ((rs.mono e1).set r1)⟩
def notTup : Expr → Bool
  | .Tuple _ _ _ => false
  | x => notComp x
theorem t_setT (g : Good cl G C k c X W) {is : List Nat} {e : E} {x : Expr} {xs : List Expr} {j : Nat} {p pos : Pos} (ht : mTgs c is xs = true) (hx : notTup x = true) (h : PE X x (den cl G C W e)) : PS X (.Assign [.Tuple xs j p] x pos) (denS cl W (exS G C Wf (.setT is e))) := by
  obtain ⟨h1, h2, h3⟩ := s_tgs g ht
  have hc : notComp x = true := by
    cases x <;> first | exact hx | (simp [notTup] at hx; done)
  have hw : swappedStores [.Tuple xs j p] x X.env = pure none := by
    cases x <;> first | (simp [notTup] at hx; done) | rfl
  refine ps_w (ps_asg (g := tgG X.K (.many is)) h (pg_tup g.calm h1 h2 h3) (show swapsWithSole [.Tuple xs j p] x pos.line X.env = pure false by simp only [swapsWithSole]; exact sw_plain hc) hw (by simp [assignEach])) fun D σ H ⟨I, m, ρ, s, hf, si, rs, o⟩ => ?_
  simp only [exS] at o
  refine ⟨I, m, ρ, s, hf, si, rs, OutS.expr rs o fun u s1 I1 m1 H1 y hf1 e1 si1 r1 o1 => ?_⟩
  cases eb : bindT (.many is) u ρ with
  | none =>
    rw [eb] at o1
    exact o1.elim
  | some ρ' =>
    rw [eb] at o1
    exact tg_ok (K := X.K) si1 (rs.mono e1) r1 eb fun σ' rs' _ _ hf => o1 I1 m1 H1 σ' hf Ext.refl si1 rs'
theorem t_aug (g : Good cl G C k c X W) {i : Nat} {id : Str} {p pos : Pos} {op : Bop} {e : E} {x : Expr} (hi : stB c i id = true) (h : PE X x (den cl G C W e)) : PS X (.AugAssign (.Name id p) (opK op) x pos) (denS cl W (exS G C Wf (.aug i op e))) := by
  obtain ⟨h1, h2, h3⟩ := st_loc g hi
  refine ps_w (ps_aug g.ndX h1 h2 h (aug_any (opK op)) h3) fun D σ H ⟨I, m, ρ, s, hf, si, rs, o⟩ => ?_
  simp only [exS] at o
  cases ei : ρ[i]? with
  | none =>
    rw [ei] at o
    exact o.elim
  | some ou =>
    rw [ei] at o
    cases ou with
    | none => exact o.elim
    | some u =>
      obtain ⟨v, e1, r1⟩ := rs.2 i u ei
      refine ⟨v, e1, I, m, ρ, s, hf, si, rs, OutS.expr rs o fun w s1 I1 m1 H1 y hf1 e1 si1 r2 o1 => ?_⟩
      have r1 := RelU.mono e1.i e1.mm r1
      have fin : ∀ {z : U} {zv : V}, RelU I1 m1 z zv → OutS cl W D I1 m1 H1 (.nx (ρ.set i (some z)) s1) → (hfE D).nx (σ.set i (some zv)) H1 := fun rz o2 hf => o2 I1 m1 H1 _ hf Ext.refl si1 ((rs.mono e1).set rz)
      cases u with
      | v t =>
        cases w with
        | v t' =>
          cases op <;> cases t <;> cases t' <;> first | exact o1.elim | skip
          · exact .inl ⟨rfl, _, _, r1, r2, fin (z := .v (.int _)) rfl o1⟩
          · simp only at o1
            split at o1
            · rename_i hz
              refine .inr (.inr ⟨rfl, mkS _, mkS _, r1.1, r2.1, by rw [mkS_len, mkS_len, line_LIM]; exact hz, ?_⟩)
              rw [mkS_app]
              exact fin (z := .v (.str _)) ⟨rfl, by rw [List.length_append]; exact hz⟩ o1
            · exact o1.elim
          · exact .inr (.inl ⟨rfl, _, _, r1, r2, fin (z := .v (.int _)) rfl o1⟩)
        | _ => cases op <;> cases t <;> exact o1.elim
      | _ => cases op <;> exact o1.elim
theorem sw_sub {x a b : Expr} {p : Pos} {l : Nat} {env : PySem.Env} : swapsWith x (some (.Subscript a b p)) l env = pure false := by
  cases x <;> rfl
theorem t_sub (g : Good cl G C k c X W) {o q e : E} {xo xq x : Expr} {p pos : Pos} (hs : noSlice xq = true) (ho : PE X xo (den cl G C W o)) (hq : PE X xq (den cl G C W q)) (h : PE X x (den cl G C W e)) :
    PS X (.Assign [.Subscript xo xq p] x pos) (denS cl W (exS G C Wf (.sub o q e))) := by
  have ha : ∀ v, assign (.Subscript xo xq p) X.env v = (do
      let ov ← holding [v] (eval xo X.env)
      let iv ← holding [v, ov] (eval xq X.env)
      standAt p
      holding [v, ov, iv] (setItem ov iv v)
      release [v, ov, iv] []) := by
    intro v
    cases xq <;> first | (simp [noSlice] at hs; done) | rfl
  have hw : swappedStores [.Subscript xo xq p] x X.env = pure none := by rfl
  refine ps_w (ps_asg h (pg_sub ho hq (set_any g.hu1) ha) (show swapsWithSole [.Subscript xo xq p] x pos.line X.env = pure false by simp only [swapsWithSole]; exact sw_sub) hw (by simp [assignEach])) fun D σ H ⟨I, m, ρ, s, hf, si, rs, o⟩ => ?_
  simp only [exS] at o
  refine ⟨I, m, ρ, s, hf, si, rs, OutS.expr rs o fun w s1 I1 m1 H1 v hf1 e1 si1 r1 o1 => ?_⟩
  refine ⟨I1, m1, ρ, s1, hf1, si1, rs.mono e1, OutS.expr (rs.mono e1) o1 fun u s2 I2 m2 H2 x hf2 e2 si2 r2 o2 => ?_⟩
  refine ⟨I2, m2, ρ, s2, hf2, si2, (rs.mono e1).mono e2, OutS.expr ((rs.mono e1).mono e2) o2 fun z s3 I3 m3 H3 y hf3 e3 si3 r3 o3 => ?_⟩
  cases es : subU s3 u z w with
  | none =>
    rw [es] at o3
    exact o3.elim
  | some s4 =>
    rw [es] at o3
    exact sub_ok hf3 si3 (RelU.mono e3.i e3.mm r2) r3 (RelU.mono e3.i e3.mm (RelU.mono e2.i e2.mm r1)) es fun H4 e4 si4 hf4 => o3 I3 m3 H4 σ hf4 e4 si4 ((((rs.mono e1).mono e2).mono e3).mono e4)
end
end Cab

set_option Elab.async false
set_option linter.all false
set_option maxRecDepth 100000
set_option maxHeartbeats 4000000
namespace Cab
open PySem PySem.Spec PyProof.Rows L2
section
variable {cl : Nat → Addr} {G : Glo} {C : Call} {k : Nat} {c : MC} {X : Cx} {W : WX} {Wf : Nat}
theorem pss_w {st : List Stmt} {t t' : TS} (h : PSs X st t) (q : ∀ D σ H, t' D σ H → t (hfE D) σ H) : PSs X st t' := by
  refine ⟨fun pins s σ H D J z => thn (h.run pins s σ H (hfE D) J (q D σ H z)) fun f s1 sp => ?_⟩
  cases f with
  | next =>
    obtain ⟨σ', H', J', n⟩ := sp
    exact ⟨σ', H', J', n (inv_hf J')⟩
  | brk =>
    obtain ⟨σ', H', J', n⟩ := sp
    exact ⟨σ', H', J', n (inv_hf J')⟩
  | cont =>
    obtain ⟨σ', H', J', n⟩ := sp
    exact ⟨σ', H', J', n (inv_hf J')⟩
  | ret u =>
    obtain ⟨v, σ', H', J', r, n⟩ := sp
    exact ⟨v, σ', H', J', r, n (inv_hf J')⟩
theorem OutS.imp {D D' : Ends} {I : Hp} {m : List Addr} {H : Hp} {r : RS} (h : OutS cl W D I m H r) (q1 : ∀ σ H, HF H → D.nx σ H → D'.nx σ H) (q2 : ∀ v H, HF H → D.rt v H → D'.rt v H) (q3 : ∀ σ H, HF H → D.bk σ H → D'.bk σ H) (q4 : ∀ σ H, HF H → D.ct σ H → D'.ct σ H) : OutS cl W D' I m H r := by
  cases r with
  | nx ρ s => exact fun I' m' H' σ hf e si rs => q1 _ _ hf (h I' m' H' σ hf e si rs)
  | rt u s => exact fun I' m' H' x hf e si rs => q2 _ _ hf (h I' m' H' x hf e si rs)
  | bk ρ s => exact fun I' m' H' σ hf e si rs => q3 _ _ hf (h I' m' H' σ hf e si rs)
  | ct ρ s => exact fun I' m' H' σ hf e si rs => q4 _ _ hf (h I' m' H' σ hf e si rs)
  | exc x ρ s => exact h
  | bad => exact h
theorem OutS.hf {D : Ends} {I : Hp} {m : List Addr} {H : Hp} {r : RS} (h : OutS cl W D I m H r) : OutS cl W (hfE D) I m H r := h.imp (fun _ _ _ q _ => q) (fun _ _ _ q _ => q) (fun _ _ _ q _ => q) fun _ _ _ q _ => q
/-! ### blocks -/
theorem t_nil : PSs X [] (denS cl W (exB G C Wf .nil)) := by
  refine pss_w pss_nil fun D σ H ⟨I, m, ρ, s, hf, si, rs, o⟩ => ?_
  simp only [exB] at o
  exact fun hf => o I m H σ hf Ext.refl si rs
theorem t_cons {st : S} {b : B} {x : Stmt} {xs : List Stmt} (h1 : PS X x (denS cl W (exS G C Wf st))) (h2 : PSs X xs (denS cl W (exB G C Wf b))) : PSs X (x :: xs) (denS cl W (exB G C Wf (.cons st b))) := by
  refine pss_w (pss_cons h1 h2) fun D σ H ⟨I, m, ρ, s, hf, si, rs, o⟩ => ?_
  simp only [exB] at o
  refine ⟨I, m, ρ, s, hf, si, rs, ?_⟩
  cases er : exS G C Wf st ρ s with
  | nx ρ' s' =>
    rw [er] at o
    exact fun I' m' H' σ' hf' e' si' rs' => ⟨I', m', ρ', s', hf', si', rs', (o.mono e').hf⟩
  | rt u s' =>
    rw [er] at o
    exact fun I' m' H' x hf' e' si' r' _ => o I' m' H' x hf' e' si' r'
  | bk ρ' s' =>
    rw [er] at o
    exact fun I' m' H' σ' hf' e' si' rs' _ => o I' m' H' σ' hf' e' si' rs'
  | ct ρ' s' =>
    rw [er] at o
    exact fun I' m' H' σ' hf' e' si' rs' _ => o I' m' H' σ' hf' e' si' rs'
  | exc x ρ' s' =>
    rw [er] at o
    exact o
  | bad =>
    rw [er] at o
    exact o
theorem t_if {q : E} {a b : B} {xq : Expr} {xa xb : List Stmt} {pos : Pos} (hq : PT X xq (denT cl G C W q)) (ha : PSs X xa (denS cl W (exB G C Wf a))) (hb : PSs X xb (denS cl W (exB G C Wf b))) : PS X (.If xq xa xb pos) (denS cl W (exS G C Wf (.if q a b))) := by
  refine ps_w (ps_if hq ha hb) fun D σ H ⟨I, m, ρ, s, hf, si, rs, o⟩ => ?_
  simp only [exS] at o
  refine ⟨I, m, ρ, s, hf, si, rs, OutS.expr rs o fun u s1 I1 m1 H1 y hf1 e1 si1 r1 o1 => ?_⟩
  cases et : truth s1 u with
  | none =>
    rw [et] at o1
    exact o1.elim
  | some d =>
    rw [et] at o1
    refine ⟨d, et, ?_⟩
    cases d with
    | true =>
      rw [if_pos rfl]
      exact ⟨I1, m1, ρ, s1, hf1, si1, rs.mono e1, OutS.hf o1⟩
    | false =>
      rw [if_neg Bool.false_ne_true]
      exact ⟨I1, m1, ρ, s1, hf1, si1, rs.mono e1, OutS.hf o1⟩
/-! ### while -/
theorem t_whl (g : Good cl G C k c X W) {q : E} {b : B} {xq : Expr} {xb : List Stmt} {pos : Pos} (hq : PT X xq (denT cl G C W q)) (hb : PSs X xb (denS cl W (exB G C Wf b))) : PS X (.While xq xb [] pos) (denS cl W (exS G C Wf (.whl q b))) := by
  refine ps_w (ps_while g.own hq hb) fun D σ H ⟨I, m, ρ, s, hf, si, rs, o⟩ => ?_
  simp only [exS] at o
  refine ⟨fun n σ H => ∃ I m ρ s, HF H ∧ Sim cl I m s H ∧ RelS I m ρ σ ∧ OutS cl W (hfE D) I m H (whGo (fun ρ s => ev G C q ρ s) (fun ρ s => exB G C Wf b ρ s) n ρ s), ⟨Wf, I, m, ρ, s, hf, si, rs, OutS.hf o⟩, ?_⟩
  rintro n σ H ⟨I, m, ρ, s, hf, si, rs, o⟩
  cases n with
  | zero => exact o.elim
  | succ n =>
    unfold whGo at o
    refine ⟨I, m, ρ, s, hf, si, rs, OutS.expr rs o fun u s1 I1 m1 H1 y hf1 e1 si1 r1 o1 => ?_⟩
    cases et : truth s1 u with
    | none =>
      rw [et] at o1
      exact o1.elim
    | some d =>
      rw [et] at o1
      refine ⟨d, et, ?_⟩
      cases d with
      | false =>
        rw [if_neg Bool.false_ne_true]
        exact o1 I1 m1 H1 σ hf1 Ext.refl si1 (rs.mono e1)
      | true =>
        rw [if_pos rfl]
        refine ⟨fun σ' H' => ∃ I m ρ s, HF H' ∧ Sim cl I m s H' ∧ RelS I m ρ σ' ∧ OutS cl W (hfE D) I m H' (whGo (fun ρ s => ev G C q ρ s) (fun ρ s => exB G C Wf b ρ s) n ρ s), fun σ' H' h => ⟨n, Nat.lt_succ_self n, h⟩, ?_⟩
        refine ⟨I1, m1, ρ, s1, hf1, si1, rs.mono e1, ?_⟩
        simp only at o1
        cases eb : exB G C Wf b ρ s1 with
        | nx ρ' s' =>
          rw [eb] at o1
          exact fun I' m' H' σ' hf' e' si' rs' => ⟨I', m', ρ', s', hf', si', rs', OutS.mono o1 e'⟩
        | ct ρ' s' =>
          rw [eb] at o1
          exact fun I' m' H' σ' hf' e' si' rs' => ⟨I', m', ρ', s', hf', si', rs', OutS.mono o1 e'⟩
        | bk ρ' s' =>
          rw [eb] at o1
          exact fun I' m' H' σ' hf' e' si' rs' => o1 I' m' H' σ' hf' e' si' rs'
        | rt u s' =>
          rw [eb] at o1
          exact fun I' m' H' x hf' e' si' r' => o1 I' m' H' x hf' e' si' r'
        | exc x ρ' s' =>
          rw [eb] at o1
          exact o1
        | bad =>
          rw [eb] at o1
          exact o1.elim
/-! ### for -/
theorem t_for (g : Good cl G C k c X W) {tg : Tgt} {src : Src} {b : B} {xt xi : Expr} {xb : List Stmt} {pos : Pos} (hs : noSet xi = true) (ht : mTg c tg xt = true) (hi : PI X xt xi (denI X cl G C W src)) (hb : PSs X xb (denS cl (ulW X W) (exB G C Wf b))) :
    PS X (.For xt xi xb [] pos) (denS cl W (exS G C Wf (.for tg src b))) := by
  refine ps_w (ps_ul (ps_for g.own g.calm hi (s_tg g ht) hb (noSet_ok hs))) fun D σ H ⟨I, m, ρ, s, hf, si, rs, o⟩ => ?_
  simp only [exS] at o
  refine ⟨I, m, ρ, s, hf, si, rs, ?_⟩
  cases es : evSrc G C src ρ s with
  | exc x s' =>
    rw [es] at o
    exact fun I' m' H' c d hf' e' si' ex => o I' m' H' σ c d hf' e' si' (rs.mono e') ex
  | bad =>
    rw [es] at o
    exact o.elim
  | ok w s1 =>
    rw [es] at o
    intro I1 m1 H1 J hf1 e1 si1 _ HL lk it
    have o := OutS.mono o e1
    have hfL := lk.hf hf1
    have siL := lk.sim si1
    refine ⟨fun i n σ H => ∃ I m ρ s, HF H ∧ Ext I1 m1 HL I m H ∧ Sim cl I m s H ∧ RelS I m ρ σ ∧ OutS cl W D I1 m1 H1 (forGo (fun x ρ s => (match bindT tg x ρ with
      | some ρ' => exB G C Wf b ρ' s
      | none => .bad)) w n i ρ s), ⟨wkLen w s1, I1, m1, ρ, s1, hfL, Ext.refl, siL, rs.mono e1, o⟩, ?_⟩
    rintro i n σ H ⟨I, m, ρ, s, hf2, e2, si2, rs2, o2⟩
    have iti := it I m s H hf2 e2 si2 i
    cases ew : wkAt w s i with
    | none =>
      cases n with
      | zero =>
        unfold forGo at o2
        rw [ew] at o2
        exact o2.elim
      | succ n =>
        unfold forGo at o2
        rw [ew] at o2
        exact o2.elim
    | some o0 =>
      have iti := iti o0 ew
      cases o0 with
      | some x0 =>
        obtain ⟨go, yl⟩ := iti.1 _ rfl
        cases n with
        | zero =>
          unfold forGo at o2
          rw [ew] at o2
          exact o2.elim
        | succ n =>
        unfold forGo at o2
        rw [ew] at o2
        simp only at o2
        refine .inr ⟨go, fun σ' H' => ∃ I m ρ s, HF H' ∧ Ext I1 m1 HL I m H' ∧ Sim cl I m s H' ∧ RelS I m ρ σ' ∧ OutS cl W D I1 m1 H1 (forGo (fun x ρ s => (match bindT tg x ρ with
          | some ρ' => exB G C Wf b ρ' s
          | none => .bad)) w n (i + 1) ρ s), ?_, ?_⟩
        · rintro σ' H' ⟨I', m', ρ', s', h2⟩
          exact ⟨n, Nat.lt_succ_self _, I', m', ρ', s', h2⟩
        · intro x H' y
          obtain ⟨I2, hf3, e3, si3, r3⟩ := yl x H' y
          cases eb : bindT tg x0 ρ with
          | none =>
            rw [eb] at o2
            exact o2.elim
          | some ρ' =>
            rw [eb] at o2
            simp only at o2
            refine tg_ok (K := X.K) si3 (rs2.mono e3) r3 eb fun σ' rs' _ _ => ?_
            refine ⟨I2, m, ρ', s, hf3, si3, rs', ?_⟩
            cases ex : exB G C Wf b ρ' s with
            | nx ρ2 s2 =>
              rw [ex] at o2
              exact fun I4 m4 H4 σ4 hf4 e4 si4 rs4 => ⟨I4, m4, ρ2, s2, hf4, (e2.trans e3).trans e4, si4, rs4, o2⟩
            | ct ρ2 s2 =>
              rw [ex] at o2
              exact fun I4 m4 H4 σ4 hf4 e4 si4 rs4 => ⟨I4, m4, ρ2, s2, hf4, (e2.trans e3).trans e4, si4, rs4, o2⟩
            | bk ρ2 s2 =>
              rw [ex] at o2
              intro I4 m4 H4 σ4 hf4 e4 si4 rs4
              obtain ⟨H5, ul, e5, si5, hf5, xd⟩ := lk.back ((e2.trans e3).trans e4) si4 hf4
              exact ⟨H5, ul, fun _ => o2 I4 m4 H5 σ4 hf5 e5 si5 rs4⟩
            | rt u s2 =>
              rw [ex] at o2
              intro I4 m4 H4 v4 hf4 e4 si4 rv4
              obtain ⟨H5, ul, e5, si5, hf5, xd⟩ := lk.back ((e2.trans e3).trans e4) si4 hf4
              exact ⟨H5, ul, fun _ => o2 I4 m4 H5 v4 hf5 e5 si5 rv4⟩
            | exc q ρ2 s2 =>
              rw [ex] at o2
              intro I4 m4 H4 σ4 cv dv hf4 e4 si4 rs4 er4
              obtain ⟨H5, ul, e5, si5, hf5, xd⟩ := lk.back ((e2.trans e3).trans e4) si4 hf4
              refine ⟨H5, ul, o2 I4 m4 H5 σ4 cv dv hf5 e5 si5 rs4 ⟨er4.1, ?_⟩⟩
              have er := er4.2
              cases ef : q.fs with
              | nil =>
                rw [ef] at er
                exact er
              | cons p fs =>
                rw [ef] at er
                obtain ⟨dx, gs, z1, z2, z3⟩ := er
                exact ⟨dx, gs, z1, xd dx gs z2, z3⟩
            | bad =>
              rw [ex] at o2
              exact o2.elim
      | none =>
        refine .inl ⟨iti.2 rfl, ?_⟩
        have o3 : OutS cl W D I1 m1 H1 (.nx ρ s) := by
          cases n with
          | zero =>
            unfold forGo at o2
            rw [ew] at o2
            exact o2
          | succ n =>
            unfold forGo at o2
            rw [ew] at o2
            exact o2
        obtain ⟨H5, ul, e5, si5, hf5, xd⟩ := lk.back e2 si2 hf2
        exact ⟨H5, ul, fun _ => o3 I m H5 σ hf5 e5 si5 rs2⟩
/-! ### a comprehension into a name on its own line -/
theorem t_setLc (g : Good cl G C k c X W) {i : Nat} {id : Str} {p pos q : Pos} {e : E} {xe xt xi : Expr} {xq : List Expr} {scope : Scope} {own : List (Str × Nat)} {wi : TI} {gt : TG} {tt : TT} {te : TE} (hi : stB c i id = true) (hl : locB c.sc id = true) (hp : (p.line == q.line) = true)
    (hsc : (scope.names.any fun (n, k) => n == id && (k == .local || k == .cell)) = false) (hw : PI X xt xi wi) (ok : blkC c.N c.sc scope own = true)
    (hg : ∀ (s : Shared) (H : Hp) (Ca : Addr) (cls : List (Str × Addr)) (fp : List Addr), PG (X.blk s H scope (compEnvC scope cls Ca X.env) fp) xt gt) (ht : ∀ (s : Shared) (H : Hp) (Ca : Addr) (cls : List (Str × Addr)) (fp : List Addr), PTs (X.blk s H scope (compEnvC scope cls Ca X.env) fp) xq tt)
    (he : ∀ (s : Shared) (H : Hp) (Ca : Addr) (cls : List (Str × Addr)) (fp : List Addr), PE (X.blk s H scope (compEnvC scope cls Ca X.env) fp) xe te) (hs : noSet xi = true)
    (hd : ∀ σ H Q, den cl G C W e σ H Q → tLc wi gt tt te (own.map (·.2)) σ H fun v H' => ∃ H2, Ul X H' H2 ∧ Q v H2) :
    PS X (.Assign [.Name id p] (.ListComp xe [⟨xt, xi, xq, 0⟩] scope q) pos) (denS cl W (exS G C Wf (.set i e))) := by
  obtain ⟨h1, h2, h3⟩ := st_loc g hi
  have hloc := g.loc id hl
  refine ps_w (ps_ul (ps_setLc g.calm g.ndX h1 hloc (sw_true g.kind hloc hp hsc) hw (g.blkOk ok) hg ht he (noSet_ok hs))) fun D σ H ⟨I, m, ρ, s, hf, si, rs, o⟩ => ?_
  simp only [exS] at o
  exact hd σ H (fun x H2 => HF H2 → D.nx (σ.set i (some x)) H2) ⟨I, m, ρ, s, hf, si, rs, OutS.expr rs o fun u s1 I1 m1 H1 y hf1 e1 si1 r1 o1 hf => o1 I1 m1 H1 _ hf Ext.refl si1 ((rs.mono e1).set r1)⟩
end
end Cab

set_option Elab.async false
set_option linter.all false
set_option maxRecDepth 100000
set_option maxHeartbeats 4000000
namespace Cab
open PySem PySem.Spec PyProof.Rows L2
def isLc : E → Bool
  | .lc _ _ _ _ => true
  | .lcI _ _ _ _ _ => true
  | .lcO _ _ _ _ => true
  | .lcIO _ _ _ _ _ => true
  | _ => false
/-- a comprehension stored into a name on its line -/
def swB (c : MC) (id : Str) (p : Pos) (e : E) : Expr → Bool
  | .ListComp _ _ scope q => isLc e && locB c.sc id && (p.line == q.line) && !(scope.names.any fun (n, k) => n == id && (k == .local || k == .cell))
  | _ => false
mutual
def mS (c : MC) : S → Stmt → Bool
  | .never, _ => true
  | .pass, st => (match st with
    | .Pass _ => true
    | .Expr (.Constant (.str _) _ _) _ => true
    | _ => false)
  | .brk, st => (match st with
    | .Break _ => true
    | _ => false)
  | .cnt, st => (match st with
    | .Continue _ => true
    | _ => false)
  | .ex e, st => (match st with
    | .Expr x _ => notComp x && mE c e x
    | _ => false)
  | .ret e, st => (match st with
    | .Return (some x) _ => mE c e x
    | _ => false)
  | .retN, st => (match st with
    | .Return none _ => true
    | _ => false)
  | .set i e, st => (match st with
    | .Assign [.Name id p] x _ => stB c i id && mE c e x && (offLine c id x p || swB c id p e x)
    | _ => false)
  | .setT is e, st => (match st with
    | .Assign [.Tuple xs _ _] x _ => mTgs c is xs && notTup x && mE c e x
    | _ => false)
  | .par _ _, _ => false
  | .aug i op e, st => (match st with
    | .AugAssign (.Name id _) xo x _ => stB c i id && decide (xo = opK op) && mE c e x
    | _ => false)
  | .sub o q e, st => (match st with
    | .Assign [.Subscript xo xq _] x _ => noSlice xq && mE c o xo && mE c q xq && mE c e x
    | _ => false)
  | .if q a b, st => (match st with
    | .If xq xa xb _ => mE c q xq && mB c a xa && mB c b xb
    | _ => false)
  | .for tg src b, st => (match st with
    | .For xt xi xb [] _ => noSet xi && mTg c tg xt && mSrc c src xt xi && mB c b xb
    | _ => false)
  | .whl q b, st => (match st with
    | .While xq xb [] _ => mE c q xq && mB c b xb
    | _ => false)
def mB (c : MC) : B → List Stmt → Bool
  | .nil, xs => (match xs with
    | [] => true
    | _ => false)
  | .cons st b, xs => (match xs with
    | x :: xs => mS c st x && mB c b xs
    | _ => false)
end
section
variable {cl : Nat → Addr} {G : Glo} {C : Call} {k : Nat} {Wf : Nat}
theorem t_setAny {c : MC} {X : Cx} {W : WX} (g : Good cl G C k c X W) {i : Nat} {id : Str} {p pos : Pos} {e : E} {x : Expr} (hi : stB c i id = true) (hm : mE c e x = true) (hl : (offLine c id x p || swB c id p e x) = true) : PS X (.Assign [.Name id p] x pos) (denS cl W (exS G C Wf (.set i e))) := by
  rw [Bool.or_eq_true] at hl
  rcases hl with hl | hl
  · exact t_set g hi hl (sndE e g _ hm).pe
  · unfold swB at hl
    split at hl
    · simp only [Bool.and_eq_true, Bool.not_eq_true'] at hl
      obtain ⟨⟨⟨h1, h2⟩, h3⟩, h4⟩ := hl
      cases e <;> first | (simp [isLc] at h1; done) | skip
      · rename_i own tg src elt
        simp only [mE] at hm
        split at hm
        · rename_i e1
          cases e1
          simp only [Bool.and_eq_true, decide_eq_true_eq] at hm
          obtain ⟨⟨⟨⟨⟨⟨rfl, m1⟩, m2⟩, m3⟩, m4⟩, m5⟩, m6⟩ := hm
          obtain ⟨o1, o2⟩ := own_of m1
          refine t_setLc (gt := tgG X.K tg) (tt := tYes) (te := den cl G C (fun _ _ _ _ => False) elt) g hi h2 h3 h4 (sndSrc src g _ _ m5) m2 (fun s H Ca cls fp => s_tg (g.blk m2 s H Ca cls fp) m4) (fun _ _ _ _ _ => pts_nil) (fun s H Ca cls fp => (sndE elt (g.blk m2 s H Ca cls fp) _ m6).pe) m3 ?_
          rw [o1]
          exact lc_src (e := .lc own tg src elt) (own := own) (fin := fun us s => if us.length ≤ LIM then okO ((optAll unV us).map fun ts => U.v (.lst ts)) s else .bad) (step := fun ρ x s => (match bindT tg x (wipeE ρ own) with
            | some ρ' => (ev G C elt ρ' s).bind fun u s => .ok (some u) s
            | none => .bad)) (fun ρ σ => lcB_plain o2) (fun ρ s => by simp only [ev]; all_goals rfl) (fun us s => by
              by_cases hz : us.length ≤ LIM
              · exact .inl hz
              · exact .inr (if_neg hz)) (fun us s' I1 m1 H1 I m H D vs σ Q => fin_lst)
        · cases hm
      · rename_i own tg src q elt
        simp only [mE] at hm
        split at hm
        · rename_i e1
          cases e1
          simp only [Bool.and_eq_true, decide_eq_true_eq] at hm
          obtain ⟨⟨⟨⟨⟨⟨⟨rfl, m1⟩, m2⟩, m3⟩, m4⟩, m5⟩, m6⟩, m7⟩ := hm
          obtain ⟨o1, o2⟩ := own_of m1
          refine t_setLc (gt := tgG X.K tg) (tt := denT cl G C (fun _ _ _ _ => False) q) (te := den cl G C (fun _ _ _ _ => False) elt) g hi h2 h3 h4 (sndSrc src g _ _ m5) m2 (fun s H Ca cls fp => s_tg (g.blk m2 s H Ca cls fp) m4) (fun s H Ca cls fp => pts_one (sndE q (g.blk m2 s H Ca cls fp) _ m6).pt) (fun s H Ca cls fp => (sndE elt (g.blk m2 s H Ca cls fp) _ m7).pe) m3 ?_
          rw [o1]
          exact lc_src (e := .lcI own tg src q elt) (own := own) (fin := fun us s => if us.length ≤ LIM then okO ((optAll unV us).map fun ts => U.v (.lst ts)) s else .bad) (step := fun ρ x s => (match bindT tg x (wipeE ρ own) with
            | some ρ' => (ev G C q ρ' s).bind fun b s => (match truth s b with
              | some true => (ev G C elt ρ' s).bind fun u s => .ok (some u) s
              | some false => .ok none s
              | none => .bad)
            | none => .bad)) (fun ρ σ => lcB_if o2) (fun ρ s => by simp only [ev]; all_goals rfl) (fun us s => by
              by_cases hz : us.length ≤ LIM
              · exact .inl hz
              · exact .inr (if_neg hz)) (fun us s' I1 m1 H1 I m H D vs σ Q => fin_lst)
        · cases hm
      · rename_i own tg src elt
        simp only [mE] at hm
        split at hm
        · rename_i e1
          cases e1
          simp only [Bool.and_eq_true, decide_eq_true_eq] at hm
          obtain ⟨⟨⟨⟨⟨⟨rfl, m1⟩, m2⟩, m3⟩, m4⟩, m5⟩, m6⟩ := hm
          obtain ⟨o1, o2⟩ := own_of m1
          refine t_setLc (gt := tgG X.K tg) (tt := tYes) (te := den cl G C (fun _ _ _ _ => False) elt) g hi h2 h3 h4 (sndSrc src g _ _ m5) m2 (fun s H Ca cls fp => s_tg (g.blk m2 s H Ca cls fp) m4) (fun _ _ _ _ _ => pts_nil) (fun s H Ca cls fp => (sndE elt (g.blk m2 s H Ca cls fp) _ m6).pe) m3 ?_
          rw [o1]
          exact lc_src (e := .lcO own tg src elt) (own := own) (fin := fun us s => if us.length ≤ LIM then .ok (.ref s.length) (s ++ [.lst us]) else .bad) (step := fun ρ x s => (match bindT tg x (wipeE ρ own) with
            | some ρ' => (ev G C elt ρ' s).bind fun u s => .ok (some u) s
            | none => .bad)) (fun ρ σ => lcB_plain o2) (fun ρ s => by simp only [ev]; all_goals rfl) (fun us s => by
              by_cases hz : us.length ≤ LIM
              · exact .inl hz
              · exact .inr (if_neg hz)) (fun us s' I1 m1 H1 I m H D vs σ Q => fin_lstO)
        · cases hm
      · rename_i own tg src q elt
        simp only [mE] at hm
        split at hm
        · rename_i e1
          cases e1
          simp only [Bool.and_eq_true, decide_eq_true_eq] at hm
          obtain ⟨⟨⟨⟨⟨⟨⟨rfl, m1⟩, m2⟩, m3⟩, m4⟩, m5⟩, m6⟩, m7⟩ := hm
          obtain ⟨o1, o2⟩ := own_of m1
          refine t_setLc (gt := tgG X.K tg) (tt := denT cl G C (fun _ _ _ _ => False) q) (te := den cl G C (fun _ _ _ _ => False) elt) g hi h2 h3 h4 (sndSrc src g _ _ m5) m2 (fun s H Ca cls fp => s_tg (g.blk m2 s H Ca cls fp) m4) (fun s H Ca cls fp => pts_one (sndE q (g.blk m2 s H Ca cls fp) _ m6).pt) (fun s H Ca cls fp => (sndE elt (g.blk m2 s H Ca cls fp) _ m7).pe) m3 ?_
          rw [o1]
          exact lc_src (e := .lcIO own tg src q elt) (own := own) (fin := fun us s => if us.length ≤ LIM then .ok (.ref s.length) (s ++ [.lst us]) else .bad) (step := fun ρ x s => (match bindT tg x (wipeE ρ own) with
            | some ρ' => (ev G C q ρ' s).bind fun b s => (match truth s b with
              | some true => (ev G C elt ρ' s).bind fun u s => .ok (some u) s
              | some false => .ok none s
              | none => .bad)
            | none => .bad)) (fun ρ σ => lcB_if o2) (fun ρ s => by simp only [ev]; all_goals rfl) (fun us s => by
              by_cases hz : us.length ≤ LIM
              · exact .inl hz
              · exact .inr (if_neg hz)) (fun us s' I1 m1 H1 I m H D vs σ Q => fin_lstO)
        · cases hm
    · cases hl
mutual
theorem sndS : ∀ (st : S) {c : MC} {X : Cx} {W : WX}, Good cl G C k c X W → ∀ x : Stmt, mS c st x = true → PS X x (denS cl W (exS G C Wf st))
  | .never, c, X, W, g, x, h => t_never fun ρ s => by simp only [exS]
  | .pass, c, X, W, g, x, h => by
    simp only [mS] at h
    split at h
    · exact t_nx ps_pass fun ρ s => by simp only [exS]
    · exact t_nx ps_doc fun ρ s => by simp only [exS]
    · cases h
  | .brk, c, X, W, g, x, h => by
    simp only [mS] at h
    split at h
    · exact t_brk
    · cases h
  | .cnt, c, X, W, g, x, h => by
    simp only [mS] at h
    split at h
    · exact t_cnt
    · cases h
  | .ex e, c, X, W, g, x, h => by
    simp only [mS] at h
    split at h
    · simp only [Bool.and_eq_true] at h
      exact t_ex h.1 (sndE e g _ h.2).pe
    · cases h
  | .ret e, c, X, W, g, x, h => by
    simp only [mS] at h
    split at h
    · exact t_ret (sndE e g _ h).pe
    · cases h
  | .retN, c, X, W, g, x, h => by
    simp only [mS] at h
    split at h
    · exact t_retN
    · cases h
  | .set i e, c, X, W, g, x, h => by
    simp only [mS] at h
    split at h
    · rw [Bool.and_eq_true, Bool.and_eq_true] at h
      exact t_setAny g h.1.1 h.1.2 h.2
    · cases h
  | .setT is e, c, X, W, g, x, h => by
    simp only [mS] at h
    split at h
    · simp only [Bool.and_eq_true] at h
      exact t_setT g h.1.1 h.1.2 (sndE e g _ h.2).pe
    · cases h
  | .par is es, c, X, W, g, x, h => by simp [mS] at h
  | .aug i op e, c, X, W, g, x, h => by
    simp only [mS] at h
    split at h
    · simp only [Bool.and_eq_true, decide_eq_true_eq] at h
      obtain ⟨⟨h1, rfl⟩, h2⟩ := h
      exact t_aug g h1 (sndE e g _ h2).pe
    · cases h
  | .sub o q e, c, X, W, g, x, h => by
    simp only [mS] at h
    split at h
    · simp only [Bool.and_eq_true] at h
      obtain ⟨⟨⟨h1, h3⟩, h4⟩, h5⟩ := h
      exact t_sub g h1 (sndE o g _ h3).pe (sndE q g _ h4).pe (sndE e g _ h5).pe
    · cases h
  | .if q a b, c, X, W, g, x, h => by
    simp only [mS] at h
    split at h
    · simp only [Bool.and_eq_true] at h
      exact t_if (sndE q g _ h.1.1).pt (sndB a g _ h.1.2) (sndB b g _ h.2)
    · cases h
  | .for tg src b, c, X, W, g, x, h => by
    simp only [mS] at h
    split at h
    · simp only [Bool.and_eq_true] at h
      exact t_for g h.1.1.1 h.1.1.2 (sndSrc src g _ _ h.1.2) (sndB b g.ul _ h.2)
    · cases h
  | .whl q b, c, X, W, g, x, h => by
    simp only [mS] at h
    split at h
    · simp only [Bool.and_eq_true] at h
      exact t_whl g (sndE q g _ h.1).pt (sndB b g _ h.2)
    · cases h
theorem sndB : ∀ (b : B) {c : MC} {X : Cx} {W : WX}, Good cl G C k c X W → ∀ xs : List Stmt, mB c b xs = true → PSs X xs (denS cl W (exB G C Wf b))
  | .nil, c, X, W, g, xs, h => by
    simp only [mB] at h
    split at h
    · exact t_nil
    · cases h
  | .cons st b, c, X, W, g, xs, h => by
    simp only [mB] at h
    split at h
    · simp only [Bool.and_eq_true] at h
      exact t_cons (sndS st g _ h.1) (sndB b g _ h.2)
    · cases h
end
end
end Cab

set_option Elab.async false
set_option linter.all false
set_option maxRecDepth 100000
set_option maxHeartbeats 4000000
namespace Cab
open PySem PySem.Spec PyProof.Rows L2
section
variable {β : Type}
theorem lookup_zip {n : Str} : ∀ {names : List Str} {us : List β} {i : Nat}, names.Nodup → names[i]? = some n → (names.zip us).lookup n = us[i]?
  | [], _, i, _, h => by simp at h
  | a :: names, [], i, _, h => by simp
  | a :: names, u :: us, i, nd, h => by
    have nd' := List.nodup_cons.mp nd
    rw [List.zip_cons_cons, List.lookup_cons]
    cases i with
    | zero =>
      simp only [List.getElem?_cons_zero, Option.some.injEq] at h
      subst h
      simp
    | succ i =>
      simp only [List.getElem?_cons_succ] at h
      have : (n == a) = false := beq_eq_false_iff_ne.mpr fun e => nd'.1 (e ▸ List.mem_of_getElem? h)
      rw [this]
      simp only [List.getElem?_cons_succ]
      exact lookup_zip nd'.2 h
def addNew (s : List (Str × β)) (x : Str × β) : List (Str × β) := if (s.lookup x.1).isNone = true then s ++ [(x.1, x.2)] else s
theorem lookup_app {n : Str} : ∀ {s t : List (Str × β)}, (s ++ t).lookup n = (s.lookup n).or (t.lookup n)
  | [], t => by simp
  | p :: s, t => by
    rw [List.cons_append, List.lookup_cons, List.lookup_cons]
    cases n == p.1 with
    | true => rfl
    | false => exact lookup_app
theorem addNew_lookup {n : Str} : ∀ {l s : List (Str × β)}, (l.map (·.1)).Nodup → (l.foldl addNew s).lookup n = (s.lookup n).or (l.lookup n)
  | [], s, _ => by simp
  | p :: l, s, nd => by
    have nd' : p.1 ∉ l.map (·.1) ∧ (l.map (·.1)).Nodup := List.nodup_cons.mp nd
    rw [List.foldl_cons, addNew_lookup nd'.2]
    unfold addNew
    rw [List.lookup_cons]
    split
    · rename_i h
      rw [lookup_app]
      by_cases e : n = p.1
      · subst e
        have : (s.lookup p.1) = none := Option.isNone_iff_eq_none.mp h
        rw [this]
        simp
      · have e2 : (n == p.1) = false := beq_eq_false_iff_ne.mpr e
        rw [List.lookup_cons, e2]
        simp
    · rename_i h
      by_cases e : n = p.1
      · subst e
        cases es : s.lookup p.1 with
        | none => rw [es] at h; exact absurd rfl h
        | some v => rfl
      · have e2 : (n == p.1) = false := beq_eq_false_iff_ne.mpr e
        rw [e2]
theorem forIn_add : ∀ (l s : List (Str × β)), (forIn l s fun x __s => if (List.lookup x.1 __s).isNone = true then pure (ForInStep.yield (__s ++ [(x.1, x.2)])) else (pure (ForInStep.yield __s) : Sem (ForInStep (List (Str × β))))) = pure (l.foldl addNew s)
  | [], s => by simp
  | p :: l, s => by
    rw [List.forIn_cons, List.foldl_cons]
    unfold addNew
    split
    · rw [pure_bind]
      exact forIn_add l _
    · rw [pure_bind]
      exact forIn_add l _
theorem filterMap_zip {g : Str → Option β} : ∀ {names : List Str} {vals : List β}, vals.length = names.length → (∀ (i : Nat) n, names[i]? = some n → g n = vals[i]?) → names.filterMap (fun n => (g n).map fun x => (n, x)) = names.zip vals
  | [], [], _, _ => rfl
  | [], _ :: _, h, _ => by cases h
  | _ :: _, [], h, _ => by cases h
  | n :: names, v :: vals, hl, h => by
    have h0 := h 0 n rfl
    simp only [List.getElem?_cons_zero] at h0
    rw [List.filterMap_cons, h0]
    show (n, v) :: _ = (n, v) :: _
    rw [filterMap_zip (Nat.succ.inj hl) fun i m hm => by have := h (i + 1) m hm; simpa using this]
    rfl
theorem bind_gen {fd : FuncData} {us : List Value} (h1 : fd.params.posonlyargs = []) (h2 : fd.params.kwonlyargs = []) (h3 : fd.params.vararg = none) (h4 : fd.params.kwarg = none) {names : List Str} (hn : fd.params.args.map (·.arg) = names) (nd : names.Nodup) :
  ∃ k, bindArgs fd ⟨us, []⟩ = seqItems? fd.defaults >>= k ∧ k none = k (some #[]) ∧ ∀ dl : List Value, us.length ≤ names.length → names.length ≤ us.length + dl.length → dl.length ≤ names.length → k (some dl.toArray) = pure (names.zip (us ++ dl.drop (dl.length - (names.length - us.length)))) := by
  unfold bindArgs
  simp only [h1, h2, h3, h4, hn, List.map_nil, List.nil_append, List.append_nil, List.forIn_nil, pure_bind]
  refine ⟨_, rfl, rfl, fun dl a1 a2 a3 => ?_⟩
  simp only [Option.getD_some]
  have e0 : dl.length - names.length = 0 := by omega
  rw [if_neg (by simp; omega), e0, List.drop_zero]
  have e1 : (List.filter (fun n => (List.lookup n (names.zip us)).isNone) (List.take (names.length - dl.length) names)) = [] := by
    refine List.filter_eq_nil_iff.mpr fun n hn => ?_
    obtain ⟨i, hi, rfl⟩ := List.mem_iff_getElem.mp hn
    rw [List.length_take] at hi
    have hi2 : i < names.length := by omega
    have hi3 : i < us.length := by omega
    rw [List.getElem_take, lookup_zip nd (List.getElem?_eq_getElem hi2), List.getElem?_eq_getElem hi3]
    simp
  rw [e1]
  simp only [List.isEmpty_nil, Bool.not_true, Bool.false_eq_true, if_false]
  rw [forIn_add, pure_bind]
  congr 1
  refine filterMap_zip (by rw [List.length_append, List.length_drop]; omega) fun i n hi => ?_
  have hil : i < names.length := (List.getElem?_eq_some_iff.mp hi).1
  have ndl : (((List.drop (names.length - dl.length) names).zip dl).map (·.1)).Nodup := by
    have : ∀ {a : List Str} {b : List Value}, a.Nodup → ((a.zip b).map (·.1)).Nodup := by
      intro a
      induction a with
      | nil => intro b _; simp
      | cons x a ih =>
        intro b hb
        cases b with
        | nil => simp
        | cons y b =>
          have hb' := List.nodup_cons.mp hb
          rw [List.zip_cons_cons, List.map_cons]
          refine List.nodup_cons.mpr ⟨fun z => hb'.1 ?_, ih hb'.2⟩
          obtain ⟨p, hp, e⟩ := List.mem_map.mp z
          have := (List.of_mem_zip hp).1
          rw [e] at this
          exact this
    exact this (nd.sublist (List.drop_sublist _ _))
  rw [addNew_lookup ndl, lookup_zip nd hi]
  by_cases hu : i < us.length
  · rw [List.getElem?_eq_getElem hu, List.getElem?_append_left hu, List.getElem?_eq_getElem hu]
    rfl
  · rw [List.getElem?_eq_none (by omega)]
    have hF : (List.drop (names.length - dl.length) names)[i - (names.length - dl.length)]? = some n := by
      rw [List.getElem?_drop, ← hi]
      congr 1
      omega
    rw [lookup_zip (nd.sublist (List.drop_sublist _ _)) hF, List.getElem?_append_right (by omega), List.getElem?_drop]
    show dl[_]? = dl[_]?
    congr 1
    omega
end
/-! ### a law's text: its defs, the names that it leaves alone, its constants -/
structure PF where
  id : Nat
  ix : Nat
  name : Str
  N : List Str
  F : Fn
structure LawT where
  prs : List PF
  blt : List Str
  csts : List (Str × Nat)
  gl : List (Nat × T)
def LawT.tbl (L : LawT) : Tbl := fun i => (L.prs.find? fun p => p.id == i).map (·.F)
def LawT.glo (L : LawT) : Glo := fun i => L.gl.lookup i
def LawT.fns (L : LawT) : List (Str × (Nat × Nat × Nat)) := L.prs.map fun p => (p.name, (p.id, p.F.n, p.F.dfl.length))
def LawT.mc (L : LawT) (N : List Str) (sc : Scope) : MC := ⟨N, sc, L.fns, L.blt, L.csts⟩
def dvB : List T → List He.Dv → Bool
  | [], [] => true
  | .non :: ts, .non :: ds => dvB ts ds
  | .bl a :: ts, .bl b :: ds => a == b && dvB ts ds
  | .int a :: ts, .int b :: ds => a == b && dvB ts ds
  | .str x :: ts, .str y :: ds => y == mkS x && decide (x.length ≤ LIM) && dvB ts ds
  | _, _ => false
theorem dvB_rel {K : PySem.W.Frag} {I : Hp} : ∀ {ts : List T} {ds : List He.Dv}, dvB ts ds = true → RelL I ts (ds.map (He.Dv.v K))
  | [], [], _ => rfl
  | .non :: ts, .non :: ds, h => ⟨_, _, rfl, rfl, dvB_rel h⟩
  | .bl a :: ts, .bl b :: ds, h => by
    simp only [dvB, Bool.and_eq_true, beq_iff_eq] at h
    obtain ⟨rfl, h⟩ := h
    exact ⟨_, _, rfl, rfl, dvB_rel h⟩
  | .int a :: ts, .int b :: ds, h => by
    simp only [dvB, Bool.and_eq_true, beq_iff_eq] at h
    obtain ⟨rfl, h⟩ := h
    exact ⟨_, _, rfl, rfl, dvB_rel h⟩
  | .str x :: ts, .str y :: ds, h => by
    simp only [dvB, Bool.and_eq_true, beq_iff_eq, decide_eq_true_eq] at h
    obtain ⟨⟨rfl, h1⟩, h⟩ := h
    exact ⟨_, _, rfl, ⟨rfl, h1⟩, dvB_rel h⟩
  | [], _ :: _, h => by simp [dvB] at h
  | .non :: _, [], h => by simp [dvB] at h
  | .bl _ :: _, [], h => by simp [dvB] at h
  | .int _ :: _, [], h => by simp [dvB] at h
  | .str _ :: _, [], h => by simp [dvB] at h
  | .lst _ :: _, _, h => by simp [dvB] at h
  | .tup _ :: _, _, h => by simp [dvB] at h
  | .dct _ :: _, _, h => by simp [dvB] at h
  | .non :: _, .bl _ :: _, h => by simp [dvB] at h
  | .non :: _, .int _ :: _, h => by simp [dvB] at h
  | .non :: _, .str _ :: _, h => by simp [dvB] at h
  | .non :: _, .byt _ :: _, h => by simp [dvB] at h
  | .non :: _, .flt _ :: _, h => by simp [dvB] at h
  | .non :: _, .ty _ :: _, h => by simp [dvB] at h
  | .non :: _, .glo _ :: _, h => by simp [dvB] at h
  | .non :: _, .adr _ :: _, h => by simp [dvB] at h
  | .bl _ :: _, .non :: _, h => by simp [dvB] at h
  | .bl _ :: _, .int _ :: _, h => by simp [dvB] at h
  | .bl _ :: _, .str _ :: _, h => by simp [dvB] at h
  | .bl _ :: _, .byt _ :: _, h => by simp [dvB] at h
  | .bl _ :: _, .flt _ :: _, h => by simp [dvB] at h
  | .bl _ :: _, .ty _ :: _, h => by simp [dvB] at h
  | .bl _ :: _, .glo _ :: _, h => by simp [dvB] at h
  | .bl _ :: _, .adr _ :: _, h => by simp [dvB] at h
  | .int _ :: _, .non :: _, h => by simp [dvB] at h
  | .int _ :: _, .bl _ :: _, h => by simp [dvB] at h
  | .int _ :: _, .str _ :: _, h => by simp [dvB] at h
  | .int _ :: _, .byt _ :: _, h => by simp [dvB] at h
  | .int _ :: _, .flt _ :: _, h => by simp [dvB] at h
  | .int _ :: _, .ty _ :: _, h => by simp [dvB] at h
  | .int _ :: _, .glo _ :: _, h => by simp [dvB] at h
  | .int _ :: _, .adr _ :: _, h => by simp [dvB] at h
  | .str _ :: _, .non :: _, h => by simp [dvB] at h
  | .str _ :: _, .bl _ :: _, h => by simp [dvB] at h
  | .str _ :: _, .int _ :: _, h => by simp [dvB] at h
  | .str _ :: _, .byt _ :: _, h => by simp [dvB] at h
  | .str _ :: _, .flt _ :: _, h => by simp [dvB] at h
  | .str _ :: _, .ty _ :: _, h => by simp [dvB] at h
  | .str _ :: _, .glo _ :: _, h => by simp [dvB] at h
  | .str _ :: _, .adr _ :: _, h => by simp [dvB] at h
def scB (N ps : List Str) (sc : Scope) : Bool := (match sc.kind with
    | .function => true
    | _ => false) && !sc.isCoroutine && !sc.isGenerator && decide N.Nodup && decide (N.take ps.length = ps) && (ps.all fun x => locB sc x || cellB sc x) && (sc.names.all fun y => match y.2 with
    | .free => false
    | _ => true)
theorem scB_ok {N ps : List Str} {sc : Scope} (h : scB N ps sc = true) : FnScope N ps sc := by
  unfold scB at h
  simp only [Bool.and_eq_true, Bool.not_eq_true', decide_eq_true_eq, List.all_eq_true] at h
  obtain ⟨⟨⟨⟨⟨⟨h1, h2⟩, h3⟩, h4⟩, h5⟩, h6⟩, h7⟩ := h
  refine ⟨?_, h2, h3, h4, h5, fun x hx => ?_, fun y hy e => ?_⟩
  · split at h1
    · assumption
    · cases h1
  · have := h6 x hx
    rw [Bool.or_eq_true] at this
    rcases this with z | z
    · left
      unfold locB at z
      split at z
      · assumption
      · cases z
    · right
      unfold cellB at z
      split at z
      · assumption
      · cases z
  · have := h7 y hy
    rw [e] at this
    cases this
def LawT.one (L : LawT) (p : PF) (d : He.DefD) : Bool := decide (d.at_ = (p.name, none)) && decide (d.name = p.name) && d.kwd.isEmpty && d.params.posonlyargs.isEmpty && d.params.kwonlyargs.isEmpty && d.params.vararg.isNone && d.params.kwarg.isNone &&
  decide (d.params.args.map (·.arg) = p.N.take p.F.n) && decide (p.F.n ≤ p.N.length) && decide (p.F.slots = p.N.length) && dvB p.F.dfl d.dfl && decide (p.F.dfl.length ≤ p.F.n) && scB p.N (p.N.take p.F.n) d.scope && mB (L.mc p.N d.scope) p.F.body d.body
def LawT.good (L : LawT) (ds : List He.DefD) : Bool := (L.prs.all fun p => match ds[p.ix]? with
    | some d => L.one p d
    | none => false) && decide (L.prs.map (·.id)).Nodup && L.csts.all fun q => match L.gl.lookup q.2 with
      | some (.int _) => true
      | some (.str x) => decide (x.length ≤ LIM)
      | _ => false
/-- what the head is asked for -/
def LawT.fa (L : LawT) : List He.Fa := (L.prs.map fun p => .glo p.name) ++ (L.blt.map fun x => .free x) ++ L.csts.map fun q => match L.gl.lookup q.2 with
  | some (.int i) => .int q.1 i
  | some (.str x) => .str q.1 (mkS x)
  | _ => .free q.1
theorem find_id {prs : List PF} {p : PF} (nd : (prs.map (·.id)).Nodup) (h : p ∈ prs) : (prs.find? fun q => q.id == p.id) = some p := by
  induction prs with
  | nil => cases h
  | cons q r ih =>
    have nd' : q.id ∉ r.map (·.id) ∧ (r.map (·.id)).Nodup := List.nodup_cons.mp nd
    rw [List.find?_cons]
    rcases List.mem_cons.mp h with rfl | h
    · simp
    · have : (q.id == p.id) = false := beq_eq_false_iff_ne.mpr fun e => nd'.1 (List.mem_map.mpr ⟨p, h, e.symm⟩)
      rw [this]
      exact ih nd'.2 h
theorem lookup_map_mem {α β γ : Type} [BEq α] [LawfulBEq α] {f : γ → α} {g : γ → β} {x : α} {y : β} : ∀ {l : List γ}, (l.map fun p => (f p, g p)).lookup x = some y → ∃ p ∈ l, f p = x ∧ g p = y
  | [], h => by simp at h
  | p :: l, h => by
    rw [List.map_cons, List.lookup_cons] at h
    cases e : x == f p with
    | true =>
      rw [e] at h
      exact ⟨p, List.mem_cons_self, (eq_of_beq e).symm, Option.some.inj h⟩
    | false =>
      rw [e] at h
      obtain ⟨q, h1, h2⟩ := lookup_map_mem h
      exact ⟨q, List.mem_cons_of_mem _ h1, h2⟩
theorem lookup_mem {α β : Type} [BEq α] [LawfulBEq α] {x : α} {y : β} : ∀ {l : List (α × β)}, l.lookup x = some y → (x, y) ∈ l
  | [], h => by simp at h
  | (a, b) :: l, h => by
    rw [List.lookup_cons] at h
    cases e : x == a with
    | true =>
      rw [e] at h
      have e1 := eq_of_beq e
      cases h
      subst e1
      exact List.mem_cons_self
    | false =>
      rw [e] at h
      exact List.mem_cons_of_mem _ (lookup_mem h)
theorem hok_hf {P : Program} {w : World} {H : Hp} {h : Heap} (J : HOk P w H h) : HF H where
  l := fun a xs r => (r.ok J).1
  t := fun a xs r => (r.ok J).1
  k := fun a kvs r => by
    obtain ⟨z, _, vs, kv, d⟩ := r.ok J
    obtain ⟨o, es, ep, _, _, _, _, _, nd⟩ := d
    exact ⟨z, nd_of_kv kv nd⟩
/-! ### a def's start -/
theorem relUs_start {I : Hp} {m : List Addr} : ∀ {us : List U} {vs : List V}, RelUs I m us vs → ∀ (i : Nat) u, (us.map some)[i]? = some (some u) → ∃ v, (vs.map some)[i]? = some (some v) ∧ RelU I m u v := by
  intro us vs r i u h
  rw [List.getElem?_map] at h
  obtain ⟨u', h1, h2⟩ := Option.map_eq_some_iff.mp h
  cases h2
  obtain ⟨v, h3, h4⟩ := relUs_at r h1
  exact ⟨v, by rw [List.getElem?_map, h3]; rfl, h4⟩
theorem relS_start {I : Hp} {m : List Addr} {us : List U} {vs : List V} {F : Fn} {N : List Str} (r : RelUs I m us vs) (hl : us.length = F.n) (hs : F.slots = N.length) : RelS I m (startE F us) (L2.start N vs) := by
  have e := relUs_len r
  unfold startE L2.start
  refine ⟨by rw [List.length_append, List.length_append, List.length_map, List.length_map, List.length_replicate, List.length_replicate, e, hs, ← hl, e], fun i u h => ?_⟩
  by_cases hi : i < us.length
  · rw [List.getElem?_append_left (by rw [List.length_map]; exact hi)] at h
    obtain ⟨v, h1, h2⟩ := relUs_start r i u h
    exact ⟨v, by rw [List.getElem?_append_left (by rw [List.length_map, ← e]; exact hi)]; exact h1, h2⟩
  · rw [List.getElem?_append_right (by rw [List.length_map]; omega), List.getElem?_replicate] at h
    split at h <;> cases h
section
variable {cl : Nat → Addr} {P : Program} {w : World} {K : PySem.W.Frag} {mg : Str → Option Value} {base : Heap} {L : LawT} {ds : List He.DefD} {Wf : Nat}
theorem bind_none {x qual : Str} {params : Arguments} {body : List Stmt} {scope : Scope} {ps : List Str} {kV doc pm : Value} {an : Option Addr} {cdv ct : Value} {us : List Value} (h1 : params.posonlyargs = []) (h2 : params.kwonlyargs = []) (h3 : params.vararg = none) (h4 : params.kwarg = none) (hn : params.args.map (·.arg) = ps)
    (nd : ps.Nodup) (hl : us.length = ps.length) : bindArgs (PySem.W.fnOf x qual params body scope .none kV doc pm an cdv ct) ⟨us, []⟩ = pure (ps.zip us) := by
  obtain ⟨q, e1, e2, e3⟩ := bind_gen (fd := PySem.W.fnOf x qual params body scope .none kV doc pm an cdv ct) (us := us) h1 h2 h3 h4 hn nd
  rw [e1]
  show (pure none >>= q) = _
  rw [pure_bind, e2]
  have := e3 [] (by omega) (by simp only [List.length_nil]; omega) (Nat.zero_le _)
  simpa using this
theorem binds_of {x qual : Str} {params : Arguments} {body : List Stmt} {scope : Scope} {dvs : List V} {f : Addr} {fd : FuncData} {ps : List Str} (F : FunD K x qual params body scope dvs [] f fd) (h1 : params.posonlyargs = []) (h2 : params.kwonlyargs = []) (h3 : params.vararg = none) (h4 : params.kwarg = none) (hn : params.args.map (·.arg) = ps)
    (nd : ps.Nodup) (hd : dvs.length ≤ ps.length) (j : Nat) (a1 : j ≤ ps.length) (a2 : ps.length ≤ j + dvs.length) : ∃ dd, Vals (dvs.drop (dvs.length - (ps.length - j))) dd ∧ Binds K fd ps dd := by
  cases hdv : dvs with
  | nil =>
    subst hdv
    refine ⟨[], by rw [List.drop_nil]; exact .nil, F.bindsN fun kV doc pm an cdv ct us hl => ?_⟩
    obtain ⟨q, e1, e2, e3⟩ := bind_gen (fd := PySem.W.fnOf x qual params body scope .none kV doc pm an cdv ct) (us := us) h1 h2 h3 h4 hn nd
    rw [e1]
    show (pure none >>= q) = _
    rw [pure_bind, e2]
    have := e3 [] (by omega) (by simp only [List.length_nil]; omega) (Nat.zero_le _)
    simpa using this
  | cons v r =>
    rw [← hdv]
    refine F.binds1 j (dvs.length - (ps.length - j)) (by rw [hdv]; simp) (by omega) fun T kV doc pm an cdv ct us its hl hi => ?_
    obtain ⟨q, e1, e2, e3⟩ := bind_gen (fd := PySem.W.fnOf x qual params body scope (.ref T) kV doc pm an cdv ct) (us := us) h1 h2 h3 h4 hn nd
    refine ⟨q, e1, ?_⟩
    have := e3 its (by omega) (by omega) (by omega)
    rw [hl, hi] at this
    exact this
theorem lk_of {x qual : Str} {params : Arguments} {body : List Stmt} {scope : Scope} {dvs : List V} {kws : List (Str × V)} {f : Addr} {fd : FuncData} (F : FunD K x qual params body scope dvs kws f fd) : ∃ oc od osl, K.lookup f = some ⟨oc, od, .func fd, osl⟩ := by
  obtain ⟨oc, od, dV, kV, doc, pm, an, cdv, ct, osl, rfl, lk, _⟩ := F.ex
  exact ⟨oc, od, osl, lk⟩
theorem lawT_fa1 {p : PF} (hp : p ∈ L.prs) : He.Fa.glo p.name ∈ L.fa := List.mem_append_left _ (List.mem_append_left _ (List.mem_map.mpr ⟨p, hp, rfl⟩))
theorem lawT_fa2 {x : Str} (hx : x ∈ L.blt) : He.Fa.free x ∈ L.fa := List.mem_append_left _ (List.mem_append_right _ (List.mem_map.mpr ⟨x, hx, rfl⟩))
/-- THE SOUNDNESS: each def of the text keeps the promise that its running makes -/
theorem fn_ok (chk : L.good ds = true) (KI : K.In base) (NS : base.Ns mainGlobals mg) (c : He.SaysD L.fa ds K) : ∀ (k : Nat) (p : PF), p ∈ L.prs → ∃ (fd : FuncData), (∃ oc od osl, K.lookup (He.ga K p.name) = some ⟨oc, od, .func fd, osl⟩) ∧ mg p.name = some (.ref (He.ga K p.name)) ∧ PySem.W.keepIn K (.ref (He.ga K p.name)) = true ∧
    FnOk P w K mg base (L2.CX P w) k (He.ga K p.name) fd (p.N.take p.F.n) (spC cl (callF L.glo L.tbl Wf k) p.F.n p.id) ∧
    (∀ j, j ≤ p.F.n → p.F.n ≤ j + p.F.dfl.length → ∃ dvs dd, Vals dvs dd ∧ Binds K fd (p.N.take p.F.n) dd ∧ ∀ I : Hp, RelL I (p.F.dfl.drop (p.F.dfl.length - (p.F.n - j))) dvs) ∧ (p.F.dfl = [] → ∀ (s : Shared) (us : List Value), us.length = p.F.n → BindsTo s fd ⟨us, []⟩ ((p.N.take p.F.n).zip us)) := by
  have chk0 := chk
  unfold LawT.good at chk
  simp only [Bool.and_eq_true, decide_eq_true_eq, List.all_eq_true] at chk
  obtain ⟨⟨chk, nid⟩, ccs⟩ := chk
  have base_ : ∀ p ∈ L.prs, ∃ (d : He.DefD) (fd : FuncData), mg p.name = some (.ref (He.ga K p.name)) ∧ FunD K p.name d.qual d.params d.body d.scope (d.dvs K) [] (He.ga K p.name) fd ∧ scB p.N (p.N.take p.F.n) d.scope = true ∧ mB (L.mc p.N d.scope) p.F.body d.body = true ∧ p.F.slots = p.N.length ∧ (p.N.take p.F.n).length = p.F.n ∧
      (∀ j, j ≤ p.F.n → p.F.n ≤ j + p.F.dfl.length → ∃ dvs dd, Vals dvs dd ∧ Binds K fd (p.N.take p.F.n) dd ∧ ∀ I : Hp, RelL I (p.F.dfl.drop (p.F.dfl.length - (p.F.n - j))) dvs) ∧ (p.F.dfl = [] → ∀ (s : Shared) (us : List Value), us.length = p.F.n → BindsTo s fd ⟨us, []⟩ ((p.N.take p.F.n).zip us)) := by
    intro p hp
    have h := chk p hp
    cases ed : ds[p.ix]? with
    | none =>
      rw [ed] at h
      cases h
    | some d =>
      rw [ed] at h
      simp only [LawT.one, Bool.and_eq_true, decide_eq_true_eq, List.isEmpty_iff, Option.isNone_iff_eq_none] at h
      obtain ⟨⟨⟨⟨⟨⟨⟨⟨⟨⟨⟨⟨⟨c1, c2⟩, c3⟩, c4⟩, c5⟩, c6⟩, c7⟩, c8⟩, c9⟩, c10⟩, c11⟩, c12⟩, c13⟩, c14⟩ := h
      obtain ⟨fd, F⟩ := c.def_ p.ix ed
      have ek : d.kws K = [] := by
        show d.kwd.map _ = []
        rw [c3]
        rfl
      rw [ek, c1, c2] at F
      have gm := He.glo_ok KI NS (He.SaysD.facts c (lawT_fa1 hp))
      have hl : (p.N.take p.F.n).length = p.F.n := by rw [List.length_take]; omega
      have dl : (d.dvs K).length = p.F.dfl.length := (relL_len (dvB_rel (K := K) (I := fun _ => none) c11)).symm
      refine ⟨d, fd, gm, F, c13, c14, c10, hl, fun j a1 a2 => ?_, fun hz s us hu => ?_⟩
      rotate_left
      · have ez : d.dvs K = [] := List.eq_nil_of_length_eq_zero (by rw [dl, hz]; rfl)
        rw [ez] at F
        exact FunD.bindsA F (fun kV doc pm an cdv ct us hl2 => bind_none c4 c5 c6 c7 c8 ((scB_ok c13).nd.sublist (List.take_sublist _ _)) hl2) s us (by rw [hl]; exact hu)
      obtain ⟨dd, b1, b2⟩ := binds_of F c4 c5 c6 c7 c8 ((scB_ok c13).nd.sublist (List.take_sublist _ _)) (by rw [hl, dl]; exact c12) j (by rw [hl]; exact a1) (by rw [hl, dl]; exact a2)
      refine ⟨_, dd, b1, b2, fun I => ?_⟩
      rw [dl, hl]
      exact relL_drop _ (dvB_rel c11)
  have tblE : ∀ p ∈ L.prs, L.tbl p.id = some p.F := fun p hp => by
    unfold LawT.tbl
    rw [find_id nid hp]
    rfl
  intro k
  induction k with
  | zero =>
    intro p hp
    obtain ⟨d, fd, b1, F, b3, b4, b5, b6, b7, b8⟩ := base_ p hp
    refine ⟨fd, lk_of F, b1, F.kp, ⟨fun vs H Q E h => by rw [b6]; exact h.1, fun A outer s H args us vs Q E hr e0 hb hv h => ?_⟩, b7, b8⟩
    obtain ⟨_, I, m, us2, s2, _, _, _, o⟩ := h
    exact o.elim
  | succ k ih =>
    intro p hp
    obtain ⟨d, fd, b1, F, b3, b4, b5, b6, b7, b8⟩ := base_ p hp
    have S := scB_ok b3
    refine ⟨fd, lk_of F, b1, F.kp, F.ok S (fun vs H Q E h => by rw [b6]; exact h.1) fun cdv A outer s H vs Q E hr h => ?_, b7, b8⟩
    obtain ⟨hl, I, m, us, st, hf, si, rus, o⟩ := h
    refine ⟨denS cl (fun c d _ H => E c d H) (exB L.glo (callF L.glo L.tbl Wf k) Wf p.F.body), ?_, ?_⟩
    · refine sndB (k := k) (c := L.mc p.N d.scope) p.F.body ?_ d.body b4
      refine ⟨rfl, S.nd, fun x hx => ?_, fun x hx => ?_, fun x hx => ?_, fun x hx => ?_, fun x hx => ?_, S.kind, rfl, takes_of rfl rfl rfl rfl, hr, passes_of rfl, fun x hx => He.free_ok KI NS (He.SaysD.facts c (lawT_fa2 hx)), fun x q hq => ?_, fun x n hx => ?_⟩
      · show d.scope.names.lookup x = _ ∨ _
        unfold visB at hx
        simp only [LawT.mc] at hx
        split at hx
        · rename_i e
          exact .inl e
        · rename_i e
          exact .inr (.inl e)
        · rename_i e
          exact .inr (.inr e)
        · cases hx
      · show d.scope.names.lookup x = _
        unfold glB at hx
        simp only [LawT.mc] at hx
        split at hx
        · assumption
        · cases hx
      · show d.scope.names.lookup x = _
        unfold locB at hx
        simp only [LawT.mc] at hx
        split at hx
        · assumption
        · cases hx
      · refine ⟨?_, rfl⟩
        show d.scope.names.lookup x = _
        unfold cellB at hx
        simp only [LawT.mc] at hx
        split at hx
        · assumption
        · cases hx
      · show d.scope.names.lookup x = _ ∨ d.scope.names.lookup x = _
        unfold cfB at hx
        simp only [LawT.mc] at hx
        split at hx
        · rename_i e
          exact .inl e
        · rename_i e
          exact .inr e
        · cases hx
      · obtain ⟨p', hp', rfl, rfl⟩ := lookup_map_mem (show (L.prs.map fun p => (p.name, (p.id, p.F.n, p.F.dfl.length))).lookup x = some q from hq)
        obtain ⟨fd', _, i1, i2, i3, i4, _⟩ := ih p' hp'
        refine ⟨p'.F.dfl, _, fd', _, i1, i2, i3, rfl, fun us s h1 h2 => ?_, i4⟩
        cases k with
        | zero => rfl
        | succ k =>
          simp only [callF, tblE p' hp']
          have e1 : fill p'.F (us ++ (p'.F.dfl.drop (p'.F.dfl.length - (p'.F.n - us.length))).map .v) = fill p'.F us := by
            have e2 : (us ++ (p'.F.dfl.drop (p'.F.dfl.length - (p'.F.n - us.length))).map U.v).length = p'.F.n := by
              rw [List.length_append, List.length_map, List.length_drop]
              simp only at h1 h2
              omega
            unfold fill
            rw [e2, Nat.sub_self, Nat.sub_zero, List.drop_length]
            simp
          rw [e1]
      · have := ccs (x, n) (lookup_mem (show L.csts.lookup x = some n from hx))
        have hfa : (match L.gl.lookup n with
          | some (.int i) => He.Fa.int x i
          | some (.str z) => .str x (mkS z)
          | _ => .free x) ∈ L.fa := List.mem_append_right _ (List.mem_map.mpr ⟨(x, n), lookup_mem (show L.csts.lookup x = some n from hx), rfl⟩)
        have fk := He.SaysD.facts c hfa
        simp only at this
        cases el : L.gl.lookup n with
        | none =>
          rw [el] at this
          cases this
        | some t =>
          rw [el] at this fk
          cases t <;> simp only [reduceCtorEq, Bool.false_eq_true] at this
          · obtain ⟨tk, e⟩ := He.int_ok KI NS fk
            exact ⟨_, _, .int _, el, e, ⟨tk, rfl⟩, fun _ => rfl⟩
          · obtain ⟨tk, e⟩ := He.str_ok KI NS fk
            exact ⟨_, _, .str (mkS _), el, e, ⟨tk, rfl⟩, fun _ => ⟨rfl, of_decide_eq_true this⟩⟩
    · have hul : us.length = p.F.n := by rw [relUs_len rus]; exact hl
      have hfill : fill p.F us = us := by
        unfold fill
        rw [hul, Nat.sub_self, Nat.sub_zero, List.drop_length]
        simp
      refine ⟨I, m, startE p.F us, st, hf, si, relS_start rus hul b5, ?_⟩
      simp only [callF, tblE p hp, hfill, hul, if_true] at o
      cases er : exB L.glo (callF L.glo L.tbl Wf k) Wf p.F.body (startE p.F us) st with
      | nx ρ s' =>
        rw [er] at o
        exact fun I' m' H' σ hf' e' si' _ => o I' m' H' .non hf' e' si' rfl
      | rt u s' =>
        rw [er] at o
        exact fun I' m' H' x hf' e' si' r' => o I' m' H' x hf' e' si' r'
      | exc x ρ s' =>
        rw [er] at o
        exact fun I' m' H' σ cv dv hf' e' si' _ ex => o I' m' H' cv dv hf' e' si' ex
      | bk ρ s' =>
        rw [er] at o
        exact o.elim
      | ct ρ s' =>
        rw [er] at o
        exact o.elim
      | bad =>
        rw [er] at o
        exact o.elim
/-! ### the law itself -/
/-- what its running must show -/
def LawT.Runs (L : LawT) (f : Nat) : Prop := ∀ ns : List Int, ns.length ≤ 63 → ∃ Wf k s, k ≤ 230 ∧ callF L.glo L.tbl Wf k f [.v (.lst (ns.map .int))] [] = .ok (.v (.bl true)) s
def noLst (K : PySem.W.Frag) : Bool := K.all fun p => !(p.2.cls == .type "list")
theorem noLst_rd {K : PySem.W.Frag} {H : Hp} {a : Addr} {xs : List V} (h : noLst K = true) (q : SqL K H a xs) : Rd H a (.lst xs) := by
  rcases q with q | ⟨o, its, n, e, c, _⟩
  · exact q
  · have := List.all_eq_true.mp h _ (lookup_mem e)
    rw [c] at this
    simp at this
def spLaw (cl : Nat → Addr) (L : LawT) (f : Nat) : Sp := fun vs H Q E => vs.length = 1 ∧ (HF H → ∃ Wf k, k ≤ 230 ∧ spC cl (callF L.glo L.tbl Wf k) 1 f vs H Q E)
theorem law_ok (chk : L.good ds = true) (KI : K.In base) (NS : base.Ns mainGlobals mg) (c : He.SaysD L.fa ds K) {p : PF} (hp : p ∈ L.prs) (h1 : p.F.n = 1) (h2 : (p.N.take 1).length = 1) {fd : FuncData} (hfd : ∃ oc od osl, K.lookup (He.ga K p.name) = some ⟨oc, od, .func fd, osl⟩) : FnOk P w K mg base (L2.CX P w) 230 (He.ga K p.name) fd (p.N.take 1) (spLaw cl L p.id) := by
  refine ⟨fun vs H Q E h => by rw [h2]; exact h.1, fun A outer s H args us vs Q E hr e0 hb hv h => ?_⟩
  obtain ⟨Wf, k, hk, q⟩ := h.2 (hok_hf e0.hok)
  obtain ⟨fd', ⟨oc', od', osl', l'⟩, b1, b2, b3, b4, _⟩ := fn_ok (cl := cl) (P := P) (w := w) (Wf := Wf) chk KI NS c k p hp
  obtain ⟨oc, od, osl, l⟩ := hfd
  rw [l] at l'
  cases l'
  rw [h1] at b3
  exact (b3.mono hk).run A outer s H args us vs Q E hr e0 hb hv q
/-- the script, as a thing -/
theorem rel_ints {I : Hp} : ∀ ns : List Int, RelL I (ns.map T.int) (ns.map V.int)
  | [] => rfl
  | n :: ns => ⟨.int n, ns.map V.int, rfl, rfl, rel_ints ns⟩
theorem sp_law {f : Nat} (h : L.Runs f) {H : Hp} {a : Addr} {ns : List Int} (hl : ns.length ≤ 63) (hS : Rd H a (.lst (ns.map V.int))) : spLaw cl L f [.ref a] H (fun v _ => v = .bl true) fun _ _ _ => False := by
  refine ⟨rfl, fun hf => ?_⟩
  obtain ⟨Wf, k, s, hk, e⟩ := h ns hl
  refine ⟨Wf, k, hk, rfl, fun b => if b = a then some (.lst (ns.map V.int)) else none, [], [.v (.lst (ns.map .int))], [], hf, ⟨fun b o hb => ?_, rfl, fun i b o h _ => (by simp at h), fun b hb => (by cases hb), List.nodup_nil, fun b o u hb => ?_⟩, ⟨.ref a, [], rfl, ⟨a, _, rfl, if_pos rfl, rel_ints ns⟩, rfl⟩, ?_⟩
  · by_cases z : b = a
    · subst z
      rw [if_pos rfl] at hb
      cases hb
      exact hS
    · rw [if_neg z] at hb
      cases hb
  · by_cases z : b = a
    · rw [if_pos z] at hb
      cases hb
    · rw [if_neg z] at hb
      cases hb
  · rw [e]
    exact fun I' m' H' x _ _ _ r => r
end
/-! ### the head -/
def hookC (n : Nat) (fa : List He.Fa) (fn : List He.DefD) : PySem.W.Hook where
  α := He.AlD × Bool
  obs := fun s => (He.obsDG n fa fn s.heap.get?, noLst (He.frG s.heap.get? (He.asD s.heap.get? n)))
  val := fun _ => (He.valD fn, true)
  says := fun _ h => ∃ K : PySem.W.Frag, K.In h ∧ He.SaysD fa fn K ∧ noLst K = true
  of := fun _ _ e => ⟨_, He.frG_in, congrArg Prod.fst e, congrArg Prod.snd e⟩
  keeps := fun _ _ _ ⟨K, hK, c, d⟩ k => ⟨K, PySem.W.Frag.In.keeps hK k, c, d⟩
def obC (n : Nat) (fa : List He.Fa) (fn : List He.DefD) (g : Addr → Option Obj) : He.AlD × Bool := (He.obsDG n fa fn g, noLst (He.frG g (He.asD g n)))
theorem obC_eq {n : Nat} {fa : List He.Fa} {fn : List He.DefD} {g : Addr → Option Obj} {s : Shared} (h : ∀ a, g a = s.heap.get? a) : obC n fa fn g = (hookC n fa fn).obs s := by
  have e : g = s.heap.get? := funext h
  rw [e]
  rfl
/-- the law's walk, from its running -/
theorem law_walk {l : PySem.W.OpenLaw} {n : Nat} {q : Program} {loose : List Str} {XP : (Str → Option Value) → Heap → Prop} {d : DefRec} {L : LawT} {ds : List He.DefD} {p : PF} (hn : l.most = some n) (hn2 : n ≤ 63) (hdf : d.params.defaults = []) (chk : L.good ds = true) (hp : p ∈ L.prs) (h1 : p.F.n = 1) (hd : p.F.dfl = []) (h2 : ∃ x, p.N.take 1 = [x]) (hnm : d.name = p.name) (run : L.Runs p.id) :
    PySem.W.WalkO q loose XP (hookC 5 L.fa ds).says l.row.toRowW d [] (fun f vs => PySem.call f vs) := by
  obtain ⟨x, hx⟩ := h2
  refine Att.attach_call hn hdf fun w s0 s1 mg mb fa o pm cd doc a vs ns g Y ho hod hcd hmg hobj hints hlen hg => ?_
  obtain ⟨K, KX, c, nl⟩ := Y
  obtain ⟨fd, lk, b1, b2, b3, b4, b5⟩ := fn_ok (cl := fun _ => 0) (P := l.prog) (w := w) (Wf := 0) chk KX g.T.g c 0 p hp
  rw [hnm, b1] at hmg
  cases hmg
  have hx1 : (p.N.take 1).length = 1 := by rw [hx]; rfl
  refine law_call (fd := fd) (k := 230) (x := x) (CX := L2.CX l.prog w) (sp := spLaw (fun _ => 0) L p.id) KX g.T.g g.T.b g.T.builtins g.T.nolimit hg hobj hints (Nat.le_trans hlen (Nat.le_trans hn2 (by rw [line_LIM]; decide))) ⟨rfl, by decide, by decide⟩ (fun base KI NS => ?_) (fun s u => ?_) (fun H hO hS => sp_law run (Nat.le_trans hlen hn2) (noLst_rd nl hS)) fun H e s' h => ?_
  · have := law_ok (cl := fun _ => 0) (P := l.prog) (w := w) chk KI NS c hp h1 hx1 lk
    rw [hx] at this
    exact this
  · have := b5 hd s [u] (by rw [h1]; rfl)
    rw [h1, hx] at this
    exact this
  · obtain ⟨_, _, _, _, _, _, _, _, _, _, _, _, h⟩ := h
    exact h
end Cab

set_option linter.all false
set_option maxRecDepth 100000
namespace Cab
/-! Plain reasoning about the small language. -/
/-- a def's answer upon data -/
def Ans (C : Call) (f : Nat) (ts : List T) (t : T) : Prop := ∃ u s, C f (ts.map .v) [] = .ok u s ∧ view 64 s u = some t
theorem view_v1 (s : Store) (n : Nat) (t : T) : view (n + 1) s (.v t) = some t := by unfold view; rfl
theorem view_v (s : Store) (n : Nat) : ∀ ts : List T, optAll (view (n + 1) s) (ts.map U.v) = some ts
  | [] => rfl
  | t :: ts => by
    simp only [List.map_cons, optAll, view_v1, view_v s n ts]
theorem unV_v : ∀ ts : List T, optAll unV (ts.map U.v) = some ts
  | [] => rfl
  | t :: ts => by simp [optAll, unV, unV_v ts]
theorem isV_v : ∀ ts : List T, (ts.map U.v).all isV = true
  | [] => rfl
  | t :: ts => by simp [isV, isV_v ts]
theorem callV {C : Call} {f : Nat} {ts : List T} {t : T} (s : Store) (h : Ans C f ts t) : callM C .v f (ts.map U.v) s = .ok (.v t) s := by
  obtain ⟨u, s', e, hv⟩ := h
  simp only [callM, view_v, e, hv, isV_v, Bool.true_or, if_true]
theorem callV1 {C : Call} {f : Nat} {a t : T} (s : Store) (h : Ans C f [a] t) : callM C .v f [.v a] s = .ok (.v t) s := callV s h
theorem callV2 {C : Call} {f : Nat} {a b t : T} (s : Store) (h : Ans C f [a, b] t) : callM C .v f [.v a, .v b] s = .ok (.v t) s := callV s h
theorem callV3 {C : Call} {f : Nat} {a b c t : T} (s : Store) (h : Ans C f [a, b, c] t) : callM C .v f [.v a, .v b, .v c] s = .ok (.v t) s := callV s h
theorem callV4 {C : Call} {f : Nat} {a b c d t : T} (s : Store) (h : Ans C f [a, b, c, d] t) : callM C .v f [.v a, .v b, .v c, .v d] s = .ok (.v t) s := callV s h

/-- what a statement's running ends in -/
def WS (r : RS) (N : Env → Store → Prop) (Q : U → Store → Prop) (B C : Env → Store → Prop) : Prop := match r with
  | .nx ρ s => N ρ s
  | .rt u s => Q u s
  | .bk ρ s => B ρ s
  | .ct ρ s => C ρ s
  | _ => False
theorem WS.mono {r : RS} {N N' B B' C C' : Env → Store → Prop} {Q Q' : U → Store → Prop} (h : WS r N Q B C) (hn : ∀ ρ s, N ρ s → N' ρ s) (hq : ∀ u s, Q u s → Q' u s) (hb : ∀ ρ s, B ρ s → B' ρ s) (hc : ∀ ρ s, C ρ s → C' ρ s) : WS r N' Q' B' C' := by
  cases r <;> simp only [WS] at h ⊢
  · exact hn _ _ h
  · exact hq _ _ h
  · exact hb _ _ h
  · exact hc _ _ h
/-- a block's answer: the whole body of a def -/
def NO : Env → Store → Prop := fun _ _ => False
section
variable {G : Glo} {C : Call} {W : Nat} {N B K : Env → Store → Prop} {Q : U → Store → Prop} {ρ : Env} {s : Store}
theorem ws_nil (h : N ρ s) : WS (exB G C W .nil ρ s) N Q B K := by simpa only [exB, WS] using h
theorem ws_cons {st : S} {b : Cab.B} (h : WS (exS G C W st ρ s) (fun ρ s => WS (exB G C W b ρ s) N Q B K) Q B K) : WS (exB G C W (.cons st b) ρ s) N Q B K := by
  simp only [exB]
  cases e : exS G C W st ρ s <;> rw [e] at h <;> simpa only [WS] using h
theorem ws_set {i : Nat} {e : E} {u : U} {s' : Store} (h : ev G C e ρ s = .ok u s') (k : N (ρ.set i (some u)) s') : WS (exS G C W (.set i e) ρ s) N Q B K := by
  simp only [exS, h, R.toS, WS]
  exact k
theorem ws_ex {e : E} {u : U} {s' : Store} (h : ev G C e ρ s = .ok u s') (k : N ρ s') : WS (exS G C W (.ex e) ρ s) N Q B K := by
  simp only [exS, h, R.toS, WS]
  exact k
theorem ws_ret {e : E} {u : U} {s' : Store} (h : ev G C e ρ s = .ok u s') (k : Q u s') : WS (exS G C W (.ret e) ρ s) N Q B K := by
  simp only [exS, h, R.toS, WS]
  exact k
theorem ws_if {c : E} {a b : Cab.B} {u : U} {s' : Store} (t : Bool) (h : ev G C c ρ s = .ok u s') (ht : truth s' u = some t) (k1 : t = true → WS (exB G C W a ρ s') N Q B K) (k2 : t = false → WS (exB G C W b ρ s') N Q B K) : WS (exS G C W (.if c a b) ρ s) N Q B K := by
  simp only [exS, h, R.toS, ht]
  cases t
  · exact k2 rfl
  · exact k1 rfl
theorem forGo_nil {step : U → Env → Store → RS} {w : Wk} {f k : Nat} (h : wkAt w s k = some none) : forGo step w f k ρ s = .nx ρ s := by
  cases f <;> simp only [forGo, h]
theorem forGo_cons {step : U → Env → Store → RS} {w : Wk} {f k : Nat} {x : U} (h : wkAt w s k = some (some x)) : forGo step w (f + 1) k ρ s = (match step x ρ s with
      | .nx ρ' s' => forGo step w f (k + 1) ρ' s'
      | .ct ρ' s' => forGo step w f (k + 1) ρ' s'
      | .bk ρ' s' => .nx ρ' s'
      | r => r) := by
  simp only [forGo, h] <;> cases step x ρ s <;> rfl
/-- over things at hand -/
theorem ws_forGo {step : U → Env → Store → RS} (P : Nat → Env → Store → Prop) {xs : List U} (hs : ∀ i (h : i < xs.length) ρ s, P i ρ s → WS (step xs[i] ρ s) (P (i + 1)) Q N (P (i + 1))) (hN : ∀ ρ s, P xs.length ρ s → N ρ s) : ∀ (f k : Nat) {ρ : Env} {s : Store}, f + k = xs.length → P k ρ s → WS (forGo step (.xs xs) f k ρ s) N Q B K
  | 0, k, ρ, s, e, h => by
    have e : k = xs.length := by omega
    subst e
    rw [forGo_nil (by simp [wkAt])]
    exact hN ρ s h
  | f + 1, k, ρ, s, e, h => by
    have hk : k < xs.length := by omega
    rw [forGo_cons (x := xs[k]) (by simp [wkAt, hk])]
    have h0 := hs k hk ρ s h
    have ih : ∀ {ρ : Env} {s : Store}, P (k + 1) ρ s → WS (forGo step (.xs xs) f (k + 1) ρ s) N Q B K := fun h => ws_forGo P hs hN f (k + 1) (by omega) h
    cases e : step xs[k] ρ s <;> rw [e] at h0 <;> simp only [WS] at h0 ⊢
    · exact ih h0
    · exact h0
    · exact h0
    · exact ih h0
theorem ws_for {tg : Tgt} {src : Src} {b : Cab.B} {xs : List U} {s' : Store} (P : Nat → Env → Store → Prop) (h : evSrc G C src ρ s = .ok (.xs xs) s') (h0 : P 0 ρ s') (hs : ∀ i (hi : i < xs.length) ρ s, P i ρ s → ∃ ρ', bindT tg xs[i] ρ = some ρ' ∧ WS (exB G C W b ρ' s) (P (i + 1)) Q N (P (i + 1))) (hN : ∀ ρ s, P xs.length ρ s → N ρ s) : WS (exS G C W (.for tg src b) ρ s) N Q B K := by
  simp only [exS, h]
  refine ws_forGo P (fun i hi ρ s hp => ?_) hN (wkLen (.xs xs) s') 0 rfl h0
  obtain ⟨ρ', e, k⟩ := hs i hi ρ s hp
  simp only [e]
  exact k
/-- over a list of the store that stays as it is -/
theorem ws_forR {tg : Tgt} {src : Src} {b : Cab.B} {j : Nat} {xs : List U} {s' : Store} (P : Nat → Env → Store → Prop) (h : evSrc G C src ρ s = .ok (.at j) s') (h0 : P 0 ρ s') (hl : ∀ i ρ s, P i ρ s → s[j]? = some (.lst xs)) (hs : ∀ i (hi : i < xs.length) ρ s, P i ρ s → ∃ ρ', bindT tg xs[i] ρ = some ρ' ∧ WS (exB G C W b ρ' s) (P (i + 1)) Q N (P (i + 1))) (hN : ∀ ρ s, P xs.length ρ s → N ρ s) : WS (exS G C W (.for tg src b) ρ s) N Q B K := by
  have go : ∀ (f k : Nat) {ρ : Env} {s : Store}, f + k = xs.length → P k ρ s → WS (forGo (fun x ρ s => (match bindT tg x ρ with
      | some ρ' => exB G C W b ρ' s
      | none => .bad)) (.at j) f k ρ s) N Q B K := by
    intro f
    induction f with
    | zero =>
      intro k ρ s e h
      have e : k = xs.length := by omega
      subst e
      rw [forGo_nil (by simp [wkAt, hl _ _ _ h])]
      exact hN ρ s h
    | succ f ih =>
      intro k ρ s e h
      have hk : k < xs.length := by omega
      rw [forGo_cons (x := xs[k]) (by simp [wkAt, hl _ _ _ h, hk])]
      obtain ⟨ρ', e1, h0⟩ := hs k hk ρ s h
      simp only [e1]
      cases e2 : exB G C W b ρ' s <;> rw [e2] at h0 <;> simp only [WS] at h0 ⊢
      · exact ih (k + 1) (by omega) h0
      · exact h0
      · exact h0
      · exact ih (k + 1) (by omega) h0
  simp only [exS, h]
  refine go _ 0 ?_ h0
  simp only [wkLen, hl _ _ _ h0, Nat.add_zero]
/-- a while: as long as the measure falls -/
theorem ws_whGo {c : Env → Store → R U} {b : Env → Store → RS} (P : Env → Store → Nat → Prop) (hs : ∀ ρ s n, P ρ s n → ∃ u s' t, c ρ s = .ok u s' ∧ truth s' u = some t ∧ (t = false → N ρ s') ∧ (t = true → 0 < n ∧ WS (b ρ s') (fun ρ s => P ρ s (n - 1)) Q N (fun ρ s => P ρ s (n - 1)))) : ∀ (W : Nat) {ρ : Env} {s : Store} {n : Nat}, n < W → P ρ s n → WS (whGo c b W ρ s) N Q B K
  | 0, _, _, _, h, _ => by omega
  | W + 1, ρ, s, n, hW, h => by
    obtain ⟨u, s', t, e, ht, k1, k2⟩ := hs ρ s n h
    simp only [whGo, e, R.toS, ht]
    cases t
    · simp only [WS]
      exact k1 rfl
    · obtain ⟨hn, k⟩ := k2 rfl
      have ih : ∀ {ρ : Env} {s : Store}, P ρ s (n - 1) → WS (whGo c b W ρ s) N Q B K := fun h => ws_whGo P hs W (by omega) h
      simp only
      cases e : b ρ s' <;> rw [e] at k <;> simp only [WS] at k ⊢
      · exact ih k
      · exact k
      · exact k
      · exact ih k
theorem ws_whl {c : E} {b : Cab.B} (P : Env → Store → Nat → Prop) {n : Nat} (hW : n < W) (h0 : P ρ s n) (hs : ∀ ρ s n, P ρ s n → ∃ u s' t, ev G C c ρ s = .ok u s' ∧ truth s' u = some t ∧ (t = false → N ρ s') ∧ (t = true → 0 < n ∧ WS (exB G C W b ρ s') (fun ρ s => P ρ s (n - 1)) Q N (fun ρ s => P ρ s (n - 1)))) : WS (exS G C W (.whl c b) ρ s) N Q B K := by
  simp only [exS]
  exact ws_whGo P hs W hW h0
end
theorem rangeL_len : ∀ (n : Nat) (a : Int), (rangeL a n).length = n
  | 0, _ => rfl
  | n + 1, a => by simp [rangeL, rangeL_len n]
theorem rangeL_at : ∀ (n : Nat) (a : Int) (i : Nat) (h : i < (rangeL a n).length), (rangeL a n)[i] = .v (.int (a + i))
  | 0, _, _, h => by simp [rangeL] at h
  | n + 1, a, 0, _ => by simp [rangeL]
  | n + 1, a, i + 1, h => by
    simp only [rangeL, List.getElem_cons_succ]
    rw [rangeL_at n (a + 1) i]
    congr 2
    omega
/-- the turns of a comprehension over plain things -/
theorem lcGo_nil {step : U → Store → R (Option U)} {w : Wk} {f k : Nat} {acc : List U} {s : Store} (h : wkAt w s k = some none) : lcGo step w f k acc s = .ok acc s := by
  cases f <;> simp only [lcGo, h]
theorem lcGo_sel {step : U → Store → R (Option U)} {s : Store} {w : Wk} {xs : List U} (hw : ∀ k, wkAt w s k = some xs[k]?) (p : U → Bool) (g : U → U) (h : ∀ x ∈ xs, step x s = .ok (if p x then some (g x) else none) s) : ∀ (f k : Nat) (acc : List U), f + k = xs.length → lcGo step w f k acc s = .ok (acc ++ ((xs.drop k).filter p).map g) s
  | 0, k, acc, e => by
    have e : k = xs.length := by omega
    subst e
    rw [lcGo_nil (by rw [hw]; simp)]
    simp
  | f + 1, k, acc, e => by
    have hk : k < xs.length := by omega
    have e1 : wkAt w s k = some (some xs[k]) := by rw [hw]; simp [hk]
    have ih := fun acc => lcGo_sel hw p g h f (k + 1) acc (by omega)
    simp only [lcGo, e1, h _ (List.getElem_mem hk)]
    rw [List.drop_eq_getElem_cons hk]
    generalize xs.drop (k + 1) = r at ih
    cases e2 : p xs[k] <;> simp [ih, e2]
theorem lcGo_all {step : U → Store → R (Option U)} {s : Store} {w : Wk} {xs : List U} (hw : ∀ k, wkAt w s k = some xs[k]?) (g : U → U) (h : ∀ x ∈ xs, step x s = .ok (some (g x)) s) (f : Nat) (e : f = xs.length) : lcGo step w f 0 [] s = .ok (xs.map g) s := by
  rw [lcGo_sel hw (fun _ => true) g (fun x hx => by simpa using h x hx) f 0 [] (by omega)]
  rw [List.filter_eq_self.mpr fun _ _ => rfl]
  simp
/-- a def's answer, by its body -/
theorem ans_fn {G : Glo} {D : Tbl} {W n f : Nat} {F : Fn} {ts : List T} {t : T} (ρ : Env) (hD : D f = some F) (hl : (fill F (ts.map .v)).length = F.n) (he : startE F (fill F (ts.map .v)) = ρ) (h : WS (exB G (callF G D W n) W F.body ρ []) NO (fun u s => view 64 s u = some t) NO NO) : Ans (callF G D W (n + 1)) f ts t := by
  subst he
  unfold Ans
  simp only [callF, hD, hl, if_true]
  cases e : exB G (callF G D W n) W F.body (startE F (fill F (ts.map .v))) [] <;> rw [e] at h <;> simp only [WS, NO] at h
  exact ⟨_, _, rfl, h⟩
theorem ans_ex {G : Glo} {D : Tbl} {W n f : Nat} {F : Fn} {ts : List T} {P : T → Prop} (ρ : Env) (hD : D f = some F) (hl : (fill F (ts.map .v)).length = F.n) (he : startE F (fill F (ts.map .v)) = ρ) (h : WS (exB G (callF G D W n) W F.body ρ []) NO (fun u s => ∃ t, view 64 s u = some t ∧ P t) NO NO) : ∃ t, P t ∧ Ans (callF G D W (n + 1)) f ts t := by
  subst he
  unfold Ans
  simp only [callF, hD, hl, if_true]
  cases e : exB G (callF G D W n) W F.body (startE F (fill F (ts.map .v))) [] <;> rw [e] at h <;> simp only [WS, NO] at h
  obtain ⟨t, h1, h2⟩ := h
  exact ⟨t, h2, _, _, rfl, h1⟩
theorem view_bl {n : Nat} {s : Store} {u : U} {b : Bool} (h : view n s u = some (.bl b)) : u = .v (.bl b) := by
  cases n with
  | zero => cases u <;> simp [view] at h
  | succ n =>
    cases u with
    | v t =>
      rw [view_v1] at h
      rw [Option.some.inj h]
    | ref i =>
      simp only [view] at h
      split at h
      · cases e : optAll (view n s) _ <;> rw [e] at h <;> cases h
      · rename_i kvs _
        cases e : optAll (fun p : Ky × U => (view n s p.2).map fun t => (p.1, t)) kvs <;> rw [e] at h <;> cases h
      · cases h
    | tup us =>
      simp only [view] at h
      cases e : optAll (view n s) us <;> rw [e] at h <;> cases h
theorem ans_bl {C : Call} {f : Nat} {ts : List T} {b : Bool} (h : Ans C f ts (.bl b)) : ∃ s, C f (ts.map .v) [] = .ok (.v (.bl b)) s := by
  obtain ⟨u, s, e, hv⟩ := h
  rw [view_bl hv] at e
  exact ⟨s, e⟩
end Cab

set_option linter.all false
set_option maxRecDepth 100000
namespace Cab
/-! Equations for the running of expressions, as rules of simp. -/
section
variable {α β : Type} {G : Glo} {C : Call} {ρ : Env} {s : Store}
@[simp] theorem bind_ok (a : α) (s : Store) (f : α → Store → R β) : (R.ok a s).bind f = f a s := rfl
@[simp] theorem okO_some (a : α) (s : Store) : okO (some a) s = .ok a s := rfl
@[simp] theorem lift1_v (f : T → Option T) (s : Store) (t : T) : lift1 f s (.v t) = okO ((f t).map .v) s := rfl
@[simp] theorem lift2_v (f : T → T → Option T) (s : Store) (t t' : T) : lift2 f s (.v t) (.v t') = okO ((f t t').map .v) s := rfl
@[simp] theorem ev_var (i : Nat) : ev G C (.var i) ρ s = (match ρ[i]? with
    | some (some u) => .ok u s
    | _ => .bad) := by
  simp only [ev]
  all_goals rfl
@[simp] theorem ev_con (t : T) : ev G C (.con t) ρ s = .ok (.v t) s := by simp only [ev]
@[simp] theorem ev_bin (op : Bop) (a b : E) : ev G C (.bin op a b) ρ s = (ev G C a ρ s).bind fun u s => (ev G C b ρ s).bind fun w s => lift2 (binT op) s u w := by simp only [ev]
@[simp] theorem ev_cmp (op : Cop) (a b : E) : ev G C (.cmp op a b) ρ s = (ev G C a ρ s).bind fun u s => (ev G C b ρ s).bind fun w s => okO ((cmpU op s u w).map fun b => .v (.bl b)) s := by simp only [ev]
@[simp] theorem ev_call (md : Md) (f : Nat) (as : Es) : ev G C (.call md f as) ρ s = (evs G C as ρ s).bind fun us s => callM C md f us s := by simp only [ev]
@[simp] theorem ev_prm (p : Prm) (as : Es) : ev G C (.prm p as) ρ s = (evs G C as ρ s).bind fun us s => (match optAll (asT s) us with
    | some ts => okO ((primT p ts).map .v) s
    | none => .bad) := by
  simp only [ev]
  all_goals rfl
@[simp] theorem ev_len (a : E) : ev G C (.len a) ρ s = (ev G C a ρ s).bind fun u s => okO ((lenU s u).map fun (n : Nat) => .v (.int n)) s := by simp only [ev]
@[simp] theorem ev_isi (a : E) (ks : List Kd) : ev G C (.isi a ks) ρ s = (ev G C a ρ s).bind fun u s => okO ((kdU s u).map fun f => .v (.bl (ks.any f))) s := by simp only [ev]
@[simp] theorem ev_idx (a b : E) : ev G C (.idx a b) ρ s = (ev G C a ρ s).bind fun u s => (ev G C b ρ s).bind fun w s => okO (idxU s u w) s := by simp only [ev]
@[simp] theorem ev_lstd (es : Es) : ev G C (.lstd es) ρ s = (evs G C es ρ s).bind fun us s => if us.length ≤ LIM then okO ((optAll unV us).map fun ts => .v (.lst ts)) s else .bad := by simp only [ev]
@[simp] theorem ev_lstO (es : Es) : ev G C (.lstO es) ρ s = (evs G C es ρ s).bind fun us s => if us.length ≤ LIM then .ok (.ref s.length) (s ++ [.lst us]) else .bad := by simp only [ev]
@[simp] theorem ev_not (a : E) : ev G C (.not a) ρ s = (ev G C a ρ s).bind fun u s => (match asBl u with
    | some b => .ok (.v (.bl !b)) s
    | none => .bad) := by
  simp only [ev]
  all_goals rfl
@[simp] theorem ev_and (a b : E) : ev G C (.and a b) ρ s = (ev G C a ρ s).bind fun u s => (match asBl u with
    | some true => ev G C b ρ s
    | some false => .ok (.v (.bl false)) s
    | none => .bad) := by
  simp only [ev]
  all_goals rfl
@[simp] theorem ev_or (a b : E) : ev G C (.or a b) ρ s = (ev G C a ρ s).bind fun u s => (match asBl u with
    | some true => .ok (.v (.bl true)) s
    | some false => ev G C b ρ s
    | none => .bad) := by
  simp only [ev]
  all_goals rfl
@[simp] theorem evs_nil : evs G C .nil ρ s = .ok [] s := by simp only [evs]
@[simp] theorem evs_cons (e : E) (es : Es) : evs G C (.cons e es) ρ s = (ev G C e ρ s).bind fun u s => (evs G C es ρ s).bind fun us s => .ok (u :: us) s := by simp only [evs]
@[simp] theorem binT_add (i j : Int) : binT .add (.int i) (.int j) = some (.int (i + j)) := rfl
@[simp] theorem binT_sub (i j : Int) : binT .sub (.int i) (.int j) = some (.int (i - j)) := rfl
@[simp] theorem binT_mod (i j : Int) : binT .mod (.int i) (.int j) = if 0 < j then some (.int (i % j)) else none := rfl
@[simp] theorem binT_fdiv (i j : Int) : binT .fdiv (.int i) (.int j) = if 0 < j ∧ j < 1073741824 then some (.int (i / j)) else none := rfl
@[simp] theorem binT_mul (i j : Int) : binT .mul (.int i) (.int j) = if small64 i || small64 j then some (.int (i * j)) else none := rfl
@[simp] theorem lenU_lst (xs : List T) : lenU s (.v (.lst xs)) = some xs.length := rfl
@[simp] theorem lenU_tup (xs : List T) : lenU s (.v (.tup xs)) = some xs.length := rfl
@[simp] theorem idxU_v (t k : T) : idxU s (.v t) (.v k) = (idxT t k).map .v := rfl
@[simp] theorem idxT_lst (xs : List T) (i : Int) : idxT (.lst xs) (.int i) = atI xs i := rfl
@[simp] theorem idxT_tup (xs : List T) (i : Int) : idxT (.tup xs) (.int i) = atI xs i := rfl
@[simp] theorem asBl_bl (b : Bool) : asBl (.v (.bl b)) = some b := rfl
@[simp] theorem truth_bl (b : Bool) : truth s (.v (.bl b)) = some b := rfl
@[simp] theorem optAll_nil (f : α → Option β) : optAll f [] = some [] := rfl
@[simp] theorem optAll_cons (f : α → Option β) (a : α) (r : List α) : optAll f (a :: r) = match f a with
    | some b => (match optAll f r with
      | some bs => some (b :: bs)
      | none => none)
    | none => none := rfl
@[simp] theorem asT_v (t : T) : asT s (.v t) = some t := rfl
@[simp] theorem unV_t (t : T) : unV (.v t) = some t := rfl
@[simp] theorem kdU_v (t : T) : kdU s (.v t) = some (isKd t) := rfl
@[simp] theorem cmpU_lt (t t' : T) : cmpU .lt s (.v t) (.v t') = cmpT .lt t t' := rfl
@[simp] theorem cmpU_le (t t' : T) : cmpU .le s (.v t) (.v t') = cmpT .le t t' := rfl
@[simp] theorem cmpU_gt (t t' : T) : cmpU .gt s (.v t) (.v t') = cmpT .gt t t' := rfl
@[simp] theorem cmpU_ge (t t' : T) : cmpU .ge s (.v t) (.v t') = cmpT .ge t t' := rfl
@[simp] theorem cmpU_is (t t' : T) : cmpU .is s (.v t) (.v t') = cmpT .is t t' := rfl
@[simp] theorem cmpU_isn (t t' : T) : cmpU .isn s (.v t) (.v t') = cmpT .isn t t' := rfl
@[simp] theorem cmpU_eq (t t' : T) : cmpU .eq s (.v t) (.v t') = cmpT .eq t t' := by simp only [cmpU, view_v1]
@[simp] theorem cmpU_ne (t t' : T) : cmpU .ne s (.v t) (.v t') = cmpT .ne t t' := by simp only [cmpU, view_v1]
/-- what is walked, and how many -/
def Walks (w : Wk) (s : Store) (xs : List U) : Prop := (∀ k, wkAt w s k = some xs[k]?) ∧ wkLen w s = xs.length
theorem walks_xs (xs : List U) : Walks (.xs xs) s xs := ⟨fun _ => rfl, rfl⟩
theorem walks_at {j : Nat} {xs : List U} (h : s[j]? = some (.lst xs)) : Walks (.at j) s xs := ⟨fun _ => by simp [wkAt, h], by simp [wkLen, h]⟩
theorem ev_lc {own : List Nat} {tg : Tgt} {src : Src} {elt : E} {w : Wk} {s' : Store} {xs : List U} (g : U → T) (h : evSrc G C src ρ s = .ok w s') (hw : Walks w s' xs) (hl : xs.length ≤ LIM) (hs : ∀ x ∈ xs, ∃ ρ', bindT tg x (wipeE ρ own) = some ρ' ∧ ev G C elt ρ' s' = .ok (.v (g x)) s') : ev G C (.lc own tg src elt) ρ s = .ok (.v (.lst (xs.map g))) s' := by
  simp only [ev, h, bind_ok]
  rw [lcGo_all hw.1 (fun u => .v (g u)) (fun x hx => ?_) _ hw.2]
  · have e : optAll unV (xs.map fun u => U.v (g u)) = some (xs.map g) := by
      have := unV_v (xs.map g)
      rwa [List.map_map] at this
    simp only [bind_ok, List.length_map, hl, if_true, e, Option.map_some, okO_some]
  · obtain ⟨ρ', e1, e2⟩ := hs x hx
    simp only [e1, e2, bind_ok]
theorem ev_lcI {own : List Nat} {tg : Tgt} {src : Src} {q elt : E} {w : Wk} {s' : Store} {xs : List U} (p : U → Bool) (g : U → T) (h : evSrc G C src ρ s = .ok w s') (hw : Walks w s' xs) (hl : xs.length ≤ LIM) (hs : ∀ x ∈ xs, ∃ ρ' u, bindT tg x (wipeE ρ own) = some ρ' ∧ ev G C q ρ' s' = .ok u s' ∧ truth s' u = some (p x) ∧ (p x = true → ev G C elt ρ' s' = .ok (.v (g x)) s')) : ev G C (.lcI own tg src q elt) ρ s = .ok (.v (.lst ((xs.filter p).map g))) s' := by
  simp only [ev, h, bind_ok]
  rw [lcGo_sel hw.1 p (fun u => .v (g u)) (fun x hx => ?_) _ 0 [] (by rw [hw.2]; rfl)]
  · have e : optAll unV (((xs.drop 0).filter p).map fun u => U.v (g u)) = some ((xs.filter p).map g) := by
      have := unV_v ((xs.filter p).map g)
      rwa [List.map_map] at this
    have hl2 : ((xs.drop 0).filter p).length ≤ LIM := Nat.le_trans (List.length_filter_le _ _) (by simpa using hl)
    simp only [bind_ok, List.nil_append, List.length_map, hl2, if_true, e, Option.map_some, okO_some]
  · obtain ⟨ρ', u, e1, e2, e3, e4⟩ := hs x hx
    simp only [e1, e2, bind_ok, e3]
    cases e : p x
    · simp
    · simp [e4 e]
theorem ev_lc_v {own : List Nat} {tg : Tgt} {src : Src} {elt : E} (ts : List T) (f : T → T) (h : evSrc G C src ρ s = .ok (.xs (ts.map .v)) s) (hl : ts.length ≤ LIM) (hs : ∀ t ∈ ts, ∃ ρ', bindT tg (.v t) (wipeE ρ own) = some ρ' ∧ ev G C elt ρ' s = .ok (.v (f t)) s) : ev G C (.lc own tg src elt) ρ s = .ok (.v (.lst (ts.map f))) s := by
  let g : U → T := fun u => match u with
    | .v t => f t
    | _ => .non
  have := ev_lc (tg := tg) (own := own) (elt := elt) g h (walks_xs _) (by simpa using hl) fun x hx => by
    obtain ⟨t, ht, rfl⟩ := List.mem_map.mp hx
    exact hs t ht
  rw [this, List.map_map]
  rfl
theorem allBl_map (f : α → Bool) : ∀ xs : List α, allBl (xs.map fun x => .bl (f x)) = some (xs.map f)
  | [] => rfl
  | x :: xs => by
    have ih := allBl_map f xs
    unfold allBl at ih ⊢
    simp only [List.map_cons, optAll_cons, ih]
@[simp] theorem evSrc_it (e : E) : evSrc G C (.it e) ρ s = (ev G C e ρ s).bind fun u s => okO (wkU s u) s := by simp only [evSrc]
@[simp] theorem evSrc_rng1 (a : E) : evSrc G C (.rng1 a) ρ s = (ev G C a ρ s).bind fun u s => (match u with
    | .v (.int j) => if inRng j then .ok (.xs (rangeL 0 j.toNat)) s else .bad
    | _ => .bad) := by
  simp only [evSrc]
  all_goals rfl
theorem inRng_n (n : Nat) (hn : n < 1000000000) : inRng n = true := by
  have r1 : (-4611686018427387904 : Int) ≤ (n : Int) := by omega
  have r2 : (n : Int) < 4611686018427387904 := by omega
  unfold inRng
  rw [decide_eq_true r1, decide_eq_true r2]
  rfl
theorem src_rng1 {a : E} {s' : Store} (n : Nat) (h : ev G C a ρ s = .ok (.v (.int (n : Int))) s') (hn : n < 1000000000) : evSrc G C (.rng1 a) ρ s = .ok (.xs (rangeL 0 n)) s' := by
  rw [evSrc_rng1, h, bind_ok]
  exact (if_pos (inRng_n n hn))
@[simp] theorem wkU_lst (xs : List T) : wkU s (.v (.lst xs)) = some (.xs (xs.map .v)) := rfl
@[simp] theorem wkU_tup (xs : List T) : wkU s (.v (.tup xs)) = some (.xs (xs.map .v)) := rfl
@[simp] theorem wkU_dct (kvs : List (Ky × T)) : wkU s (.v (.dct kvs)) = some (.xs (kvs.map fun p => .v (kyT p.1))) := rfl
@[simp] theorem wkU_str (x : List Nat) : wkU s (.v (.str x)) = some (.xs (x.map fun c => .v (.str [c]))) := rfl
@[simp] theorem ev_app (a b : E) : ev G C (.app a b) ρ s = (ev G C a ρ s).bind fun u s => (match lstAt s u with
    | some _ => (ev G C b ρ s).bind fun w s => (match lstAt s u with
      | some (i, us) => if us.length < LIM then .ok (.v .non) (s.set i (.lst (us ++ [w]))) else .bad
      | none => .bad)
    | none => .bad) := by
  simp only [ev]
  all_goals rfl
@[simp] theorem ev_tupd (es : Es) : ev G C (.tupd es) ρ s = (evs G C es ρ s).bind fun us s => if us.length ≤ LIM then (match optAll unV us with
    | some ts => .ok (.v (.tup ts)) s
    | none => .ok (.tup us) s) else .bad := by
  simp only [ev]
  all_goals rfl
@[simp] theorem ev_cutR (a hi : E) : ev G C (.cutR a hi) ρ s = (ev G C a ρ s).bind fun u s => (ev G C hi ρ s).bind fun w s => (match w with
    | .v (.int i) => lift1 (cutT none (some i)) s u
    | _ => .bad) := by
  simp only [ev]
  all_goals rfl
theorem inRng_nat (n : Int) (h : 0 ≤ n) (h2 : n < 1000000000) : inRng n = true := by
  unfold inRng
  simp only [Bool.and_eq_true, decide_eq_true_eq]
  omega
theorem atI_ex (xs : List α) (i : Int) (h : 0 ≤ i) (h2 : i < xs.length) : ∃ t ∈ xs, atI xs i = some t := by
  have h3 : i.toNat < xs.length := by omega
  refine ⟨xs[i.toNat], List.getElem_mem h3, ?_⟩
  unfold atI
  rw [if_pos h, List.getElem?_eq_getElem h3]
@[simp] theorem cmp_eqi (i j : Int) : cmpT .eq (.int i) (.int j) = some (decide (i = j)) := by
  rw [cmpT, if_pos (by simp [eqOk]), pyEq]
  rfl
@[simp] theorem cmp_nei (i j : Int) : cmpT .ne (.int i) (.int j) = some (!decide (i = j)) := by
  rw [cmpT, if_pos (by simp [neOk]), pyEq]
  rfl
@[simp] theorem cmp_lti (i j : Int) : cmpT .lt (.int i) (.int j) = some (decide (i < j)) := rfl
@[simp] theorem cmp_lei (i j : Int) : cmpT .le (.int i) (.int j) = some (decide (i ≤ j)) := rfl
@[simp] theorem cmp_gti (i j : Int) : cmpT .gt (.int i) (.int j) = some (decide (j < i)) := rfl
@[simp] theorem cmp_gei (i j : Int) : cmpT .ge (.int i) (.int j) = some (decide (j ≤ i)) := rfl
@[simp] theorem cmp_eqs (x y : List Nat) : cmpT .eq (.str x) (.str y) = some (decide (x = y)) := by
  rw [cmpT, if_pos (by simp [eqOk]), pyEq]
  congr 1
  rw [Bool.eq_iff_iff]
  simp
@[simp] theorem cmp_nes (x y : List Nat) : cmpT .ne (.str x) (.str y) = some (!decide (x = y)) := by
  rw [cmpT, if_pos (by simp [neOk]), pyEq]
  congr 1
  rw [Bool.eq_iff_iff]
  simp
@[simp] theorem cmp_eqb (x y : Bool) : cmpT .eq (.bl x) (.bl y) = some (x == y) := by
  rw [cmpT, if_pos (by simp [eqOk]), pyEq]
@[simp] theorem cmp_neb (x y : Bool) : cmpT .ne (.bl x) (.bl y) = some (!(x == y)) := by
  rw [cmpT, if_pos (by simp [neOk]), pyEq]
@[simp] theorem cmp_isb (x y : Bool) : cmpT .is (.bl x) (.bl y) = some (x == y) := rfl
@[simp] theorem primT_min (a b : Nat) : primT .min [.int a, .int b] = some (.int ((min a b : Nat) : Int)) := by
  have e : (if (b : Int) < a then (b : Int) else a) = ((min a b : Nat) : Int) := by
    split <;> omega
  simp only [primT, e]
theorem atI_mapL {α β : Type} (f : α → β) (xs : List α) (i : Int) : atI (xs.map f) i = (atI xs i).map f := by
  unfold atI
  rw [List.length_map]
  split
  · rw [List.getElem?_map]
  · split
    · rw [List.getElem?_map]
    · rfl
theorem atI_nat (xs : List α) (i : Int) (n : Nat) (h : i = n) : atI xs i = xs[n]? := by
  subst h
  unfold atI
  rw [if_pos (Int.natCast_nonneg _)]
  rfl
end
end Cab

set_option linter.all false
set_option maxRecDepth 100000
namespace Cab
def F_1 : Fn := ⟨2, 3, [], (.cons (.set 2 (.bin .mul (.var 1) (.con (.int 7919)))) (.cons (.if (.cmp .ne (.var 0) (.lstd .nil)) (.cons (.set 2 (.bin .add (.var 2) (.bin .mul (.bin .fdiv (.var 1) (.len (.var 0))) (.con (.int 104729))))) (.cons (.set 2 (.bin .mod (.bin .add (.var 2) (.bin .mul (.idx (.var 0) (.bin .mod (.var 1) (.len (.var 0)))) (.con (.int 48271)))) (.con (.int 1000003)))) .nil)) .nil) (.cons (.ret (.bin .mod (.bin .add (.bin .fdiv (.bin .mul (.var 2) (.var 2)) (.con (.int 11))) (.bin .mul (.con (.int 13)) (.var 2))) (.con (.int 1000003)))) .nil)))⟩
def cellM (ns : List Int) (k : Int) : Int := if ns = [] then k * 7919 else (k * 7919 + k / ns.length * 104729 + ns[(k % ns.length).toNat]?.getD 0 * 48271) % 1000003
/-- the number that the script gives at k -/
def cell (ns : List Int) (k : Int) : Int := (cellM ns k * cellM ns k / 11 + 13 * cellM ns k) % 1000003
theorem cell_nonneg (ns : List Int) (k : Int) : 0 ≤ cell ns k := Int.emod_nonneg _ (by decide)
theorem cell_lt (ns : List Int) (k : Int) : cell ns k < 1000003 := Int.emod_lt_of_pos _ (by decide)
theorem cellM_small (ns : List Int) (k : Int) (h : 0 ≤ k) (h2 : k < 1099511627776) : small64 (cellM ns k) = true := by
  unfold cellM small64
  split
  · simp only [Bool.and_eq_true, decide_eq_true_eq]
    omega
  · have h1 := Int.emod_nonneg (k * 7919 + k / ns.length * 104729 + ns[(k % ns.length).toNat]?.getD 0 * 48271) (b := 1000003) (by decide)
    have h2 := Int.emod_lt_of_pos (k * 7919 + k / ns.length * 104729 + ns[(k % ns.length).toNat]?.getD 0 * 48271) (b := 1000003) (by decide)
    simp only [Bool.and_eq_true, decide_eq_true_eq]
    omega
theorem s64_7919 : small64 7919 = true := by decide
theorem s64_104729 : small64 104729 = true := by decide
theorem s64_48271 : small64 48271 = true := by decide
theorem s64_13 : small64 13 = true := by decide
theorem neOk_lst_nil (xs : List T) : cmpT .ne (.lst xs) (.lst []) = some (!xs.isEmpty) := by
  cases xs <;> simp [cmpT, neOk, pyEq, eqL]
theorem ans_cell {G : Glo} {D : Tbl} {W n : Nat} (hD : D 1 = some F_1) {ns : List Int} {k : Int} (hn : ns.length ≤ 63) (h : 0 ≤ k) (h2 : k < 1099511627776) : Ans (callF G D W (n + 1)) 1 [.lst (ns.map .int), .int k] (.int (cell ns k)) := by
  have hm := cellM_small ns k h h2
  refine ans_fn [some (.v (.lst (ns.map .int))), some (.v (.int k)), none] hD rfl rfl ?_
  refine ws_cons (ws_set (u := .v (.int (k * 7919))) (s' := []) (by simp [s64_7919]) ?_)
  refine ws_cons (WS.mono (N := fun ρ s => ∃ m, ρ = [some (.v (.lst (ns.map .int))), some (.v (.int k)), some (.v (.int m))] ∧ s = [] ∧ m = cellM ns k) (Q := fun _ _ => False) (B := NO) (C := NO) ?_ ?_ (fun _ _ h => h.elim) (fun _ _ h => h) (fun _ _ h => h))
  · refine ws_if (!ns.isEmpty) (u := .v (.bl (!ns.isEmpty))) (s' := []) (by simp [neOk_lst_nil]) rfl (fun e => ?_) fun e => ?_
    · have e : ns ≠ [] := by simpa using e
      have l0 : 0 < (ns.length : Int) := by have := List.length_pos_iff.mpr e; omega
      have ln : 0 < ns.length := List.length_pos_iff.mpr e
      have l1 : (ns.length : Int) < 1073741824 := by omega
      refine ws_cons (ws_set (u := .v (.int (k * 7919 + k / ns.length * 104729))) (s' := []) (by simp [s64_104729, l0, l1, ln]) ?_)
      have hi : (k % ns.length).toNat < ns.length := by
        have := Int.emod_lt_of_pos k l0
        have := Int.emod_nonneg k (by omega : (ns.length : Int) ≠ 0)
        omega
      have at_ : atI (ns.map T.int) (k % ns.length) = some (.int (ns[(k % ns.length).toNat]?.getD 0)) := by
        rw [atI_nat _ _ (k % ns.length).toNat (by have := Int.emod_nonneg k (by omega : (ns.length : Int) ≠ 0); omega), List.getElem?_map, List.getElem?_eq_getElem hi]
        simp
      refine ws_cons (ws_set (u := .v (.int (cellM ns k))) (s' := []) ?_ ?_)
      · simp only [cellM, if_neg e]
        simp [s64_48271, l0, at_, ln]
      · refine ws_nil ⟨_, by simp, rfl, rfl⟩
    · have e : ns = [] := by simpa using e
      refine ws_nil ⟨k * 7919, by simp, rfl, ?_⟩
      simp [cellM, e]
  · rintro ρ s ⟨m, rfl, rfl, rfl⟩
    refine ws_cons (ws_ret (u := .v (.int (cell ns k))) (s' := []) ?_ ?_)
    · simp [hm, s64_13, cell]
    · exact view_v1 _ _ _
end Cab

set_option linter.all false
set_option maxRecDepth 100000
set_option maxHeartbeats 1000000
namespace Cab
/-! What values a text may give: sets of data, told by kind and bounds. -/
/-- bounds of a thing: numbers, signs of a text, things of a row, names of a record -/
structure Pm where
  lo : Int
  hi : Int
  m : Nat
  l : Nat
  k : Nat
mutual
inductive A where
  | bot
  | or (a b : A)
  | scr
  | non
  | bl (b : Bool)
  | int (lo hi : Int)
  | str (lo hi : Nat)
  | lst (lo hi : Nat) (a : A)
  | tup (as : AT)
  | dct (s : Bool) (lo hi : Nat) (a : A)
  | any (d : Nat) (p : Pm)
inductive AT where
  | nil
  | cons (a : A) (as : AT)
end
def Pm.eq (p q : Pm) : Bool := decide (p.lo = q.lo) && decide (p.hi = q.hi) && p.m == q.m && p.l == q.l && p.k == q.k
theorem Pm.eq_ok {p q : Pm} (h : Pm.eq p q = true) : p = q := by
  cases p
  cases q
  simp only [Pm.eq, Bool.and_eq_true, beq_iff_eq, decide_eq_true_eq] at h
  simp only [Pm.mk.injEq]
  exact ⟨h.1.1.1.1, h.1.1.1.2, h.1.1.2, h.1.2, h.2⟩
mutual
def A.eq : A → A → Bool
  | .bot, .bot => true
  | .or a b, .or c d => A.eq a c && A.eq b d
  | .scr, .scr => true
  | .non, .non => true
  | .bl a, .bl b => a == b
  | .int a b, .int c d => decide (a = c) && decide (b = d)
  | .str a b, .str c d => a == c && b == d
  | .lst a b x, .lst c d y => a == c && b == d && A.eq x y
  | .tup xs, .tup ys => AT.eq xs ys
  | .dct s a b x, .dct t c d y => s == t && a == c && b == d && A.eq x y
  | .any d p, .any e q => d == e && Pm.eq p q
  | _, _ => false
def AT.eq : AT → AT → Bool
  | .nil, .nil => true
  | .cons a as, .cons b bs => A.eq a b && AT.eq as bs
  | _, _ => false
end
mutual
theorem A.eq_ok : ∀ {a b : A}, A.eq a b = true → a = b := by
  intro a b h
  cases a <;> cases b <;> simp only [A.eq, Bool.and_eq_true, beq_iff_eq, decide_eq_true_eq, Bool.false_eq_true] at h
  · rfl
  · rw [A.eq_ok h.1, A.eq_ok h.2]
  · rfl
  · rfl
  · rw [h]
  · rw [h.1, h.2]
  · rw [h.1, h.2]
  · rw [h.1.1, h.1.2, A.eq_ok h.2]
  · rw [AT.eq_ok h]
  · rw [h.1.1.1, h.1.1.2, h.1.2, A.eq_ok h.2]
  · rw [h.1, Pm.eq_ok h.2]
theorem AT.eq_ok : ∀ {a b : AT}, AT.eq a b = true → a = b := by
  intro a b h
  cases a <;> cases b <;> simp only [AT.eq, Bool.and_eq_true, Bool.false_eq_true] at h
  · rfl
  · rw [A.eq_ok h.1, AT.eq_ok h.2]
end
/-- the greatest length of a name in a record -/
abbrev KW : Nat := 100000
def KeyIn (s : Bool) (k : Ky) : Prop := match k with
  | .s x => x.length ≤ KW
  | .i _ => s = false
/-- a thing within bounds, so deep at most -/
def Dp (p : Pm) : Nat → T → Prop
  | _, .non => True
  | _, .bl _ => True
  | _, .int i => p.lo ≤ i ∧ i ≤ p.hi
  | _, .str x => x.length ≤ p.m
  | _, .tup _ => False
  | 0, .lst _ => False
  | 0, .dct _ => False
  | d + 1, .lst xs => xs.length ≤ p.l ∧ ∀ x ∈ xs, Dp p d x
  | d + 1, .dct kvs => kvs.length ≤ p.k ∧ (kvs.map (·.1)).Nodup ∧ ∀ q ∈ kvs, KeyIn true q.1 ∧ Dp p d q.2
def Pm.Le (p q : Pm) : Prop := q.lo ≤ p.lo ∧ p.hi ≤ q.hi ∧ p.m ≤ q.m ∧ p.l ≤ q.l ∧ p.k ≤ q.k
def Pm.max (p q : Pm) : Pm := ⟨if p.lo ≤ q.lo then p.lo else q.lo, if p.hi ≤ q.hi then q.hi else p.hi, Nat.max p.m q.m, Nat.max p.l q.l, Nat.max p.k q.k⟩
theorem Pm.le_l (p q : Pm) : p.Le (p.max q) := by
  refine ⟨?_, ?_, Nat.le_max_left _ _, Nat.le_max_left _ _, Nat.le_max_left _ _⟩ <;> simp only [Pm.max] <;> split <;> omega
theorem Pm.le_r (p q : Pm) : q.Le (p.max q) := by
  refine ⟨?_, ?_, Nat.le_max_right _ _, Nat.le_max_right _ _, Nat.le_max_right _ _⟩ <;> simp only [Pm.max] <;> split <;> omega
theorem Dp.mono {p q : Pm} (h : p.Le q) : ∀ {d e : Nat} {t : T}, d ≤ e → Dp p d t → Dp q e t
  | d, e, .non, _, _ => by cases e <;> trivial
  | d, e, .bl _, _, _ => by cases e <;> trivial
  | d, e, .int i, _, g => by
    obtain ⟨h1, h2, _⟩ := h
    have g : p.lo ≤ i ∧ i ≤ p.hi := by cases d <;> exact g
    have : q.lo ≤ i ∧ i ≤ q.hi := by omega
    cases e <;> exact this
  | d, e, .str x, _, g => by
    obtain ⟨_, _, h3, _⟩ := h
    have g : x.length ≤ p.m := by cases d <;> exact g
    have : x.length ≤ q.m := by omega
    cases e <;> exact this
  | d, e, .tup _, _, g => by cases d <;> exact g.elim
  | 0, e, .lst _, _, g => g.elim
  | 0, e, .dct _, _, g => g.elim
  | d + 1, 0, .lst xs, l, g => by omega
  | d + 1, 0, .dct xs, l, g => by omega
  | d + 1, e + 1, .lst xs, l, g => ⟨Nat.le_trans g.1 h.2.2.2.1, fun x hx => Dp.mono h (by omega) (g.2 x hx)⟩
  | d + 1, e + 1, .dct xs, l, g => ⟨Nat.le_trans g.1 h.2.2.2.2, g.2.1, fun x hx => ⟨(g.2.2 x hx).1, Dp.mono h (by omega) (g.2.2 x hx).2⟩⟩
section
variable (ns : List Int)
mutual
def γ : A → T → Prop
  | .bot, _ => False
  | .or a b, t => γ a t ∨ γ b t
  | .scr, t => t = .lst (ns.map .int)
  | .non, t => t = .non
  | .bl b, t => t = .bl b
  | .int lo hi, t => ∃ i, t = .int i ∧ lo ≤ i ∧ i ≤ hi
  | .str lo hi, t => ∃ x, t = .str x ∧ lo ≤ x.length ∧ x.length ≤ hi
  | .lst lo hi a, t => ∃ xs, t = .lst xs ∧ lo ≤ xs.length ∧ xs.length ≤ hi ∧ ∀ x ∈ xs, γ a x
  | .tup as, t => ∃ xs, t = .tup xs ∧ γt as xs
  | .dct s lo hi a, t => ∃ kvs : List (Ky × T), t = .dct kvs ∧ lo ≤ kvs.length ∧ kvs.length ≤ hi ∧ (kvs.map (·.1)).Nodup ∧ ∀ p ∈ kvs, KeyIn s p.1 ∧ γ a p.2
  | .any d p, t => Dp p d t
def γt : AT → List T → Prop
  | .nil, ts => ts = []
  | .cons a as, ts => ∃ t r, ts = t :: r ∧ γ a t ∧ γt as r
end
end
/-- the bounds of all that is told, if it is things alone -/
def pm0 : Pm := ⟨0, 0, 0, 0, 0⟩
def sumA : A → Option (Nat × Pm)
  | .bot => some (0, pm0)
  | .or a b => (match sumA a, sumA b with
    | some (d, p), some (e, q) => some (Nat.max d e, p.max q)
    | _, _ => none)
  | .scr => none
  | .non => some (0, pm0)
  | .bl _ => some (0, pm0)
  | .int lo hi => some (0, ⟨lo, hi, 0, 0, 0⟩)
  | .str _ hi => some (0, ⟨0, 0, hi, 0, 0⟩)
  | .lst _ hi a => (match sumA a with
    | some (d, p) => some (d + 1, p.max ⟨0, 0, 0, hi, 0⟩)
    | none => none)
  | .tup _ => none
  | .dct s _ hi a => if s then (match sumA a with
    | some (d, p) => some (d + 1, p.max ⟨0, 0, 0, 0, hi⟩)
    | none => none) else none
  | .any d p => some (d, p)
theorem sumA_ok {ns : List Int} {a : A} : ∀ {r : Nat × Pm} {t : T}, sumA a = some r → γ ns a t → Dp r.2 r.1 t := by
  induction a using A.rec (motive_2 := fun _ => True) with
  | bot => intro r t _ g; exact g.elim
  | or a b iha ihb =>
    intro r t h g
    simp only [sumA] at h
    cases ea : sumA a with
    | none => rw [ea] at h; cases h
    | some x =>
      cases eb : sumA b with
      | none => rw [ea, eb] at h; cases h
      | some y =>
        rw [ea, eb] at h
        cases h
        rcases g with g | g
        · exact (iha ea g).mono (Pm.le_l _ _) (Nat.le_max_left _ _)
        · exact (ihb eb g).mono (Pm.le_r _ _) (Nat.le_max_right _ _)
  | scr => intro r t h; cases h
  | non => intro r t h g; cases (show t = _ from g); cases h; trivial
  | bl b => intro r t h g; cases (show t = _ from g); cases h; trivial
  | int lo hi => intro r t h ⟨i, e, h1, h2⟩; subst e; cases h; exact ⟨h1, h2⟩
  | str lo hi => intro r t h ⟨i, e, h1, h2⟩; subst e; cases h; exact h2
  | lst lo hi a ih =>
    intro r t h g
    obtain ⟨xs, rfl, _, l, g⟩ := g
    simp only [sumA] at h
    cases ea : sumA a with
    | none => rw [ea] at h; cases h
    | some x =>
      rw [ea] at h
      cases h
      exact ⟨Nat.le_trans l (Pm.le_r x.2 ⟨0, 0, 0, hi, 0⟩).2.2.2.1, fun x hx => (ih ea (g x hx)).mono (Pm.le_l _ _) (Nat.le_refl _)⟩
  | tup _ => intro r t h; cases h
  | dct s lo hi a ih =>
    intro r t h g
    obtain ⟨xs, rfl, _, l, nd, g⟩ := g
    simp only [sumA] at h
    split at h
    · rename_i hs
      cases ea : sumA a with
      | none => rw [ea] at h; cases h
      | some x =>
        rw [ea] at h
        cases h
        exact ⟨Nat.le_trans l (Pm.le_r x.2 ⟨0, 0, 0, 0, hi⟩).2.2.2.2, nd, fun x hx => ⟨by have := (g x hx).1; rwa [hs] at this, (ih ea (g x hx).2).mono (Pm.le_l _ _) (Nat.le_refl _)⟩⟩
    · cases h
  | any d p => intro r t h g; cases h; exact g
  | nil => trivial
  | cons => trivial
/-- a thing's kinds, one by one -/
def exA (d : Nat) (p : Pm) : A := .or .non (.or (.bl true) (.or (.bl false) (.or (.int p.lo p.hi) (match d with
  | 0 => .str 0 p.m
  | d + 1 => .or (.str 0 p.m) (.or (.lst 0 p.l (.any d p)) (.dct true 0 p.k (.any d p)))))))
theorem exA_ok {ns : List Int} {d : Nat} {p : Pm} {t : T} (h : Dp p d t) : γ ns (exA d p) t := by
  cases t with
  | non => exact .inl rfl
  | bl b =>
    cases b
    · exact .inr (.inr (.inl rfl))
    · exact .inr (.inl rfl)
  | int i => exact .inr (.inr (.inr (.inl ⟨i, rfl, by cases d <;> exact h⟩)))
  | str x =>
    have h : x.length ≤ p.m := by cases d <;> exact h
    cases d with
    | zero => exact .inr (.inr (.inr (.inr ⟨x, rfl, Nat.zero_le _, h⟩)))
    | succ d => exact .inr (.inr (.inr (.inr (.inl ⟨x, rfl, Nat.zero_le _, h⟩))))
  | tup xs => cases d <;> exact h.elim
  | lst xs =>
    cases d with
    | zero => exact h.elim
    | succ d => exact .inr (.inr (.inr (.inr (.inr (.inl ⟨xs, rfl, Nat.zero_le _, h.1, h.2⟩)))))
  | dct xs =>
    cases d with
    | zero => exact h.elim
    | succ d => exact .inr (.inr (.inr (.inr (.inr (.inr ⟨xs, rfl, Nat.zero_le _, h.1, h.2.1, h.2.2⟩)))))
/-! ### unions -/
def anyJ (d : Nat) (p : Pm) (b : A) : Option A := match sumA b with
  | some (e, q) => some (.any (Nat.max d e) (p.max q))
  | none => none
theorem anyJ_ok {ns : List Int} {d : Nat} {p : Pm} {b c : A} {t : T} (h : anyJ d p b = some c) (k : Dp p d t ∨ γ ns b t) : γ ns c t := by
  unfold anyJ at h
  cases e : sumA b with
  | none => rw [e] at h; cases h
  | some x =>
    rw [e] at h
    cases h
    rcases k with k | k
    · exact Dp.mono (Pm.le_l _ _) (Nat.le_max_left _ _) k
    · exact (sumA_ok e k).mono (Pm.le_r _ _) (Nat.le_max_right _ _)
def zipJ (J : A → A → A) : AT → AT → Option AT
  | .nil, .nil => some .nil
  | .cons a as, .cons b bs => (zipJ J as bs).map fun r => .cons (J a b) r
  | _, _ => none
def merge1 (J : A → A → A) : A → A → Option A
  | .scr, .scr => some .scr
  | .non, .non => some .non
  | .bl a, .bl b => if a = b then some (.bl a) else none
  | .int a b, .int c d => some (.int (if a ≤ c then a else c) (if b ≤ d then d else b))
  | .str a b, .str c d => some (.str (min a c) (max b d))
  | .lst a b x, .lst c d y => some (.lst (min a c) (max b d) (J x y))
  | .tup xs, .tup ys => (zipJ J xs ys).map .tup
  | .dct s a b x, .dct t c d y => some (.dct (s && t) (min a c) (max b d) (J x y))
  | .any d p, b => anyJ d p b
  | a, .any d p => anyJ d p a
  | _, _ => none
def ins1 (J : A → A → A) (c : A) : A → A
  | .bot => c
  | .or x y => match merge1 J x c with
    | some z => .or z y
    | none => .or x (ins1 J c y)
  | x => match merge1 J x c with
    | some z => z
    | none => .or x c
def addA (J : A → A → A) (a : A) : A → A
  | .bot => a
  | .or x y => addA J (addA J a x) y
  | .any d p => (match anyJ d p a with
    | some z => z
    | none => ins1 J (.any d p) a)
  | c => ins1 J c a
def jn : Nat → A → A → A
  | 0 => fun a b => .or a b
  | n + 1 => addA (jn n)
def join (a b : A) : A := jn 16 a b
section
variable {ns : List Int}
def JOk (ns : List Int) (J : A → A → A) : Prop := ∀ a b t, γ ns a t ∨ γ ns b t → γ ns (J a b) t
theorem zipJ_ok {J : A → A → A} (hJ : JOk ns J) : ∀ {as bs cs : AT} {ts : List T}, zipJ J as bs = some cs → γt ns as ts ∨ γt ns bs ts → γt ns cs ts
  | .nil, .nil, cs, ts, h, k => by
    cases h
    rcases k with k | k <;> exact k
  | .cons a as, .cons b bs, cs, ts, h, k => by
    simp only [zipJ, Option.map_eq_some_iff] at h
    obtain ⟨r, h, rfl⟩ := h
    rcases k with k | k
    · obtain ⟨t, q, rfl, h1, h2⟩ := k
      exact ⟨t, q, rfl, hJ _ _ _ (.inl h1), zipJ_ok hJ h (.inl h2)⟩
    · obtain ⟨t, q, rfl, h1, h2⟩ := k
      exact ⟨t, q, rfl, hJ _ _ _ (.inr h1), zipJ_ok hJ h (.inr h2)⟩
  | .nil, .cons _ _, _, _, h, _ => by cases h
  | .cons _ _, .nil, _, _, h, _ => by cases h
theorem keyIn_and {s t : Bool} {k : Ky} (h : KeyIn s k ∨ KeyIn t k) : KeyIn (s && t) k := by
  cases k with
  | s x => rcases h with h | h <;> exact h
  | i n =>
    rcases h with h | h
    · show (s && t) = false
      rw [show s = false from h]
      rfl
    · show (s && t) = false
      rw [show t = false from h, Bool.and_false]
theorem merge1_ok {J : A → A → A} (hJ : JOk ns J) {a b c : A} {t : T} (h : merge1 J a b = some c) (k : γ ns a t ∨ γ ns b t) : γ ns c t := by
  cases a <;> cases b <;> simp only [merge1, reduceCtorEq, Option.some.injEq, Option.map_eq_some_iff, Option.ite_none_right_eq_some] at h
  case scr.scr => subst h; rcases k with k | k <;> exact k
  case non.non => subst h; rcases k with k | k <;> exact k
  case bl.bl =>
    obtain ⟨h1, h2⟩ := h
    subst h1 h2
    rcases k with k | k <;> exact k
  case int.int =>
    subst h
    rcases k with ⟨i, e, h1, h2⟩ | ⟨i, e, h1, h2⟩ <;> refine ⟨i, e, ?_, ?_⟩ <;> split <;> omega
  case str.str =>
    subst h
    rcases k with ⟨i, e, h1, h2⟩ | ⟨i, e, h1, h2⟩ <;> refine ⟨i, e, ?_, ?_⟩ <;> omega
  case lst.lst =>
    subst h
    rcases k with ⟨i, e, h1, h2, h3⟩ | ⟨i, e, h1, h2, h3⟩
    · exact ⟨i, e, by omega, by omega, fun x hx => hJ _ _ _ (.inl (h3 x hx))⟩
    · exact ⟨i, e, by omega, by omega, fun x hx => hJ _ _ _ (.inr (h3 x hx))⟩
  case tup.tup =>
    obtain ⟨cs, h, rfl⟩ := h
    rcases k with ⟨xs, e, h1⟩ | ⟨xs, e, h1⟩
    · exact ⟨xs, e, zipJ_ok hJ h (.inl h1)⟩
    · exact ⟨xs, e, zipJ_ok hJ h (.inr h1)⟩
  case dct.dct =>
    subst h
    rcases k with ⟨i, e, h1, h2, h3, h4⟩ | ⟨i, e, h1, h2, h3, h4⟩
    · exact ⟨i, e, by omega, by omega, h3, fun x hx => ⟨keyIn_and (.inl (h4 x hx).1), hJ _ _ _ (.inl (h4 x hx).2)⟩⟩
    · exact ⟨i, e, by omega, by omega, h3, fun x hx => ⟨keyIn_and (.inr (h4 x hx).1), hJ _ _ _ (.inr (h4 x hx).2)⟩⟩
  all_goals first
    | exact anyJ_ok h k
    | exact anyJ_ok h k.symm
theorem ins1_ok {J : A → A → A} (hJ : JOk ns J) {c : A} {t : T} : ∀ {a : A}, γ ns a t ∨ γ ns c t → γ ns (ins1 J c a) t := by
  have plain : ∀ {a : A}, (γ ns a t ∨ γ ns c t) → γ ns (match merge1 J a c with
      | some z => z
      | none => .or a c) t := by
    intro a k
    cases e : merge1 J a c with
    | some z => exact merge1_ok hJ e k
    | none => exact k
  intro a
  induction a using A.rec (motive_2 := fun _ => True) with
  | bot =>
    intro k
    rcases k with k | k
    · exact k.elim
    · exact k
  | or x y _ ih =>
    intro k
    simp only [ins1]
    cases e : merge1 J x c with
    | some z =>
      rcases k with k | k
      · rcases k with k | k
        · exact .inl (merge1_ok hJ e (.inl k))
        · exact .inr k
      · exact .inl (merge1_ok hJ e (.inr k))
    | none =>
      rcases k with k | k
      · rcases k with k | k
        · exact .inl k
        · exact .inr (ih (.inl k))
      · exact .inr (ih (.inr k))
  | nil => trivial
  | cons => trivial
  | _ => intro k; exact plain k
theorem addA_ok {J : A → A → A} (hJ : JOk ns J) {t : T} : ∀ {b a : A}, γ ns a t ∨ γ ns b t → γ ns (addA J a b) t := by
  intro b
  induction b using A.rec (motive_2 := fun _ => True) with
  | bot =>
    intro a k
    rcases k with k | k
    · exact k
    · exact k.elim
  | or x y ihx ihy =>
    intro a k
    simp only [addA]
    refine ihy ?_
    rcases k with k | k
    · exact .inl (ihx (.inl k))
    · rcases k with k | k
      · exact .inl (ihx (.inr k))
      · exact .inr k
  | nil => trivial
  | cons => trivial
  | any d p =>
    intro a k
    simp only [addA]
    cases e : anyJ d p a with
    | some z => exact anyJ_ok e k.symm
    | none => exact ins1_ok hJ k
  | _ => intro a k; exact ins1_ok hJ k
theorem jn_ok : ∀ n : Nat, JOk ns (jn n)
  | 0 => fun _ _ _ k => k
  | n + 1 => fun _ _ _ k => addA_ok (jn_ok n) k
theorem join_l {a b : A} {t : T} (h : γ ns a t) : γ ns (join a b) t := jn_ok 16 _ _ _ (.inl h)
theorem join_r {a b : A} {t : T} (h : γ ns b t) : γ ns (join a b) t := jn_ok 16 _ _ _ (.inr h)
end
/-! ### data as it stands -/
def joinO (a b : Option A) : Option A := match a, b with
  | some a, some b => some (join a b)
  | _, _ => none
mutual
def toA : T → A
  | .non => .non
  | .bl b => .bl b
  | .int i => .int i i
  | .str x => .str x.length x.length
  | .lst xs => .lst xs.length xs.length (toAL xs)
  | .tup xs => .tup (toAT xs)
  | .dct kvs => .bot
def toAL : List T → A
  | [] => .bot
  | t :: ts => join (toA t) (toAL ts)
def toAT : List T → AT
  | [] => .nil
  | t :: ts => .cons (toA t) (toAT ts)
def okA : T → Bool
  | .lst xs => okAL xs
  | .tup xs => okAL xs
  | .dct _ => false
  | _ => true
def okAL : List T → Bool
  | [] => true
  | t :: ts => okA t && okAL ts
end
section
variable {ns : List Int}
mutual
theorem toA_ok : ∀ {t : T}, okA t = true → γ ns (toA t) t
  | .non, _ => rfl
  | .bl b, _ => rfl
  | .int i, _ => ⟨i, rfl, Int.le_refl _, Int.le_refl _⟩
  | .str x, _ => ⟨x, rfl, Nat.le_refl _, Nat.le_refl _⟩
  | .lst xs, h => ⟨xs, rfl, Nat.le_refl _, Nat.le_refl _, toAL_ok h⟩
  | .tup xs, h => ⟨xs, rfl, toAT_ok h⟩
  | .dct _, h => by cases h
theorem toAL_ok : ∀ {ts : List T}, okAL ts = true → (∀ t ∈ ts, γ ns (toAL ts) t)
  | [], _ => fun t h => by cases h
  | t :: ts, h => by
    simp only [okAL, Bool.and_eq_true] at h
    have h1 := toA_ok (t := t) h.1
    have h2 := toAL_ok (ts := ts) h.2
    intro u hu
    rcases List.mem_cons.mp hu with e | hu
    · rw [e]
      exact join_l h1
    · exact join_r (h2 u hu)
theorem toAT_ok : ∀ {ts : List T}, okAL ts = true → γt ns (toAT ts) ts
  | [], _ => rfl
  | t :: ts, h => by
    simp only [okAL, Bool.and_eq_true] at h
    exact ⟨t, ts, rfl, toA_ok h.1, toAT_ok h.2⟩
end
/-! ### functions of one, of two -/
def lift0A (f : A → Option A) : A → Option A
  | .bot => some .bot
  | .or a b => joinO (lift0A f a) (lift0A f b)
  | x => f x
def lift1A (f : A → Option A) : A → Option A
  | .bot => some .bot
  | .or a b => joinO (lift1A f a) (lift1A f b)
  | .any d p => lift0A f (exA d p)
  | x => f x
def lift2B (f : A → A → Option A) : A → A → Option A
  | .bot, _ => some .bot
  | .or a b, y => joinO (lift2B f a y) (lift2B f b y)
  | x, y => lift1A (f x) y
def lift2A (f : A → A → Option A) : A → A → Option A
  | .bot, _ => some .bot
  | .or a b, y => joinO (lift2A f a y) (lift2A f b y)
  | .any d p, y => lift2B f (exA d p) y
  | x, y => lift1A (f x) y
def Snd1 (ns : List Int) (f : A → Option A) (g : T → Option T) : Prop := ∀ x c t, f x = some c → γ ns x t → ∃ w, g t = some w ∧ γ ns c w
def Snd2 (ns : List Int) (f : A → A → Option A) (g : T → T → Option T) : Prop := ∀ x y c t t', f x y = some c → γ ns x t → γ ns y t' → ∃ w, g t t' = some w ∧ γ ns c w
theorem joinO_some {a b : Option A} {c : A} (h : joinO a b = some c) : ∃ x y, a = some x ∧ b = some y ∧ c = join x y := by
  cases a <;> cases b <;> simp only [joinO, reduceCtorEq, Option.some.injEq] at h
  exact ⟨_, _, rfl, rfl, h.symm⟩
theorem Snd1.lift0 {f : A → Option A} {g : T → Option T} (h : Snd1 ns f g) : Snd1 ns (lift0A f) g := by
  intro x
  induction x using A.rec (motive_2 := fun _ => True) with
  | bot => intro c t _ k; exact k.elim
  | or a b iha ihb =>
    intro c t e k
    obtain ⟨x, y, e1, e2, rfl⟩ := joinO_some e
    rcases k with k | k
    · obtain ⟨w, w1, w2⟩ := iha _ _ e1 k
      exact ⟨w, w1, join_l w2⟩
    · obtain ⟨w, w1, w2⟩ := ihb _ _ e2 k
      exact ⟨w, w1, join_r w2⟩
  | nil => trivial
  | cons => trivial
  | _ => intro c t e k; exact h _ _ _ e k
theorem Snd1.lift {f : A → Option A} {g : T → Option T} (h : Snd1 ns f g) : Snd1 ns (lift1A f) g := by
  intro x
  induction x using A.rec (motive_2 := fun _ => True) with
  | bot => intro c t _ k; exact k.elim
  | or a b iha ihb =>
    intro c t e k
    obtain ⟨x, y, e1, e2, rfl⟩ := joinO_some e
    rcases k with k | k
    · obtain ⟨w, w1, w2⟩ := iha _ _ e1 k
      exact ⟨w, w1, join_l w2⟩
    · obtain ⟨w, w1, w2⟩ := ihb _ _ e2 k
      exact ⟨w, w1, join_r w2⟩
  | any d p => intro c t e k; exact h.lift0 _ _ _ e (exA_ok k)
  | nil => trivial
  | cons => trivial
  | _ => intro c t e k; exact h _ _ _ e k
theorem Snd2.liftB {f : A → A → Option A} {g : T → T → Option T} (h : Snd2 ns f g) : Snd2 ns (lift2B f) g := by
  intro x
  induction x using A.rec (motive_2 := fun _ => True) with
  | bot => intro y c t t' _ k; exact k.elim
  | or a b iha ihb =>
    intro y c t t' e k k'
    obtain ⟨x, z, e1, e2, rfl⟩ := joinO_some e
    rcases k with k | k
    · obtain ⟨w, w1, w2⟩ := iha _ _ _ _ e1 k k'
      exact ⟨w, w1, join_l w2⟩
    · obtain ⟨w, w1, w2⟩ := ihb _ _ _ _ e2 k k'
      exact ⟨w, w1, join_r w2⟩
  | nil => trivial
  | cons => trivial
  | _ =>
    intro y c t t' e k k'
    have : Snd1 ns (f _) (fun t' => g t t') := fun y c t' e k' => h _ _ _ _ _ e k k'
    exact this.lift _ _ _ e k'
theorem Snd2.lift {f : A → A → Option A} {g : T → T → Option T} (h : Snd2 ns f g) : Snd2 ns (lift2A f) g := by
  intro x
  induction x using A.rec (motive_2 := fun _ => True) with
  | bot => intro y c t t' _ k; exact k.elim
  | or a b iha ihb =>
    intro y c t t' e k k'
    obtain ⟨x, z, e1, e2, rfl⟩ := joinO_some e
    rcases k with k | k
    · obtain ⟨w, w1, w2⟩ := iha _ _ _ _ e1 k k'
      exact ⟨w, w1, join_l w2⟩
    · obtain ⟨w, w1, w2⟩ := ihb _ _ _ _ e2 k k'
      exact ⟨w, w1, join_r w2⟩
  | any d p => intro y c t t' e k k'; exact h.liftB _ _ _ _ _ e (exA_ok k) k'
  | nil => trivial
  | cons => trivial
  | _ =>
    intro y c t t' e k k'
    have : Snd1 ns (f _) (fun t' => g t t') := fun y c t' e k' => h _ _ _ _ _ e k k'
    exact this.lift _ _ _ e k'
/-! ### told more loosely, told less -/
/-- a union of kinds that is deep, by its bounds alone -/
def sq : A → A
  | .or a b => (match sumA (.or a b) with
    | some (d, p) => if 3 ≤ d then .any d p else .or a b
    | none => .or (sq a) (sq b))
  | .lst lo hi a => .lst lo hi (sq a)
  | .dct s lo hi a => .dct s lo hi (sq a)
  | x => x
theorem sq_ok {a : A} : ∀ {t : T}, γ ns a t → γ ns (sq a) t := by
  induction a using A.rec (motive_2 := fun _ => True) with
  | or a b iha ihb =>
    intro t g
    simp only [sq]
    cases e : sumA (.or a b) with
    | none => exact g.elim (fun g => .inl (iha g)) fun g => .inr (ihb g)
    | some x =>
      obtain ⟨d, p⟩ := x
      simp only
      split
      · exact sumA_ok e g
      · exact g
  | lst lo hi a ih =>
    intro t g
    obtain ⟨xs, rfl, h1, h2, g⟩ := g
    exact ⟨xs, rfl, h1, h2, fun x hx => ih (g x hx)⟩
  | dct s lo hi a ih =>
    intro t g
    obtain ⟨xs, rfl, h1, h2, h3, g⟩ := g
    exact ⟨xs, rfl, h1, h2, h3, fun x hx => ⟨(g x hx).1, ih (g x hx).2⟩⟩
  | nil => trivial
  | cons => trivial
  | _ => intro t g; exact g
def Pm.leB (p q : Pm) : Bool := decide (q.lo ≤ p.lo) && decide (p.hi ≤ q.hi) && Nat.ble p.m q.m && Nat.ble p.l q.l && Nat.ble p.k q.k
theorem Pm.leB_ok {p q : Pm} (h : p.leB q = true) : p.Le q := by
  simp only [Pm.leB, Bool.and_eq_true, decide_eq_true_eq, Nat.ble_eq] at h
  exact ⟨h.1.1.1.1, h.1.1.1.2, h.1.1.2, h.1.2, h.2⟩
mutual
def leA : Nat → A → A → Bool
  | 0, _, _ => false
  | _ + 1, .bot, _ => true
  | n + 1, .or a b, c => leA n a c && leA n b c
  | n + 1, a, .or b c => leA n a b || leA n a c
  | n + 1, a, .any d p => (match sumA a with
    | some (e, q) => Nat.ble e d && q.leB p
    | none => false)
  | _ + 1, .scr, .scr => true
  | _ + 1, .non, .non => true
  | _ + 1, .bl a, .bl b => a == b
  | _ + 1, .int a b, .int c d => decide (c ≤ a) && decide (b ≤ d)
  | _ + 1, .str a b, .str c d => Nat.ble c a && Nat.ble b d
  | n + 1, .lst a b x, .lst c d y => Nat.ble c a && Nat.ble b d && leA n x y
  | n + 1, .tup xs, .tup ys => leT n xs ys
  | n + 1, .dct s a b x, .dct t c d y => (s || !t) && Nat.ble c a && Nat.ble b d && leA n x y
  | _ + 1, _, _ => false
def leT : Nat → AT → AT → Bool
  | 0, _, _ => false
  | _ + 1, .nil, .nil => true
  | n + 1, .cons a as, .cons b bs => leA n a b && leT n as bs
  | _ + 1, _, _ => false
end
theorem KeyIn.le {s t : Bool} {k : Ky} (h : (s || !t) = true) (g : KeyIn s k) : KeyIn t k := by
  cases k with
  | s x => exact g
  | i n =>
    have g : s = false := g
    subst g
    show t = false
    simpa using h
theorem leA_ok : ∀ n : Nat, (∀ {a b : A} {t : T}, leA n a b = true → γ ns a t → γ ns b t) ∧ (∀ {a b : AT} {t : List T}, leT n a b = true → γt ns a t → γt ns b t)
  | 0 => ⟨fun h => by simp [leA] at h, fun h => by simp [leT] at h⟩
  | n + 1 => by
    obtain ⟨ih, ihT⟩ := leA_ok n
    have orC : ∀ {a b c : A} {t : T}, (leA n a b || leA n a c) = true → γ ns a t → γ ns (.or b c) t := fun h g => by
      rw [Bool.or_eq_true] at h
      exact h.elim (fun h => .inl (ih h g)) fun h => .inr (ih h g)
    have anyC : ∀ {a : A} {d : Nat} {p : Pm} {t : T}, (match sumA a with
      | some (e, q) => Nat.ble e d && q.leB p
      | none => false) = true → γ ns a t → γ ns (.any d p) t := fun {a d p t} h g => by
      cases e : sumA a with
      | none => rw [e] at h; cases h
      | some x =>
        rw [e, Bool.and_eq_true, Nat.ble_eq] at h
        exact (sumA_ok e g).mono (Pm.leB_ok h.2) h.1
    refine ⟨fun {a b t} h g => ?_, fun {a b t} h g => ?_⟩
    · cases a with
      | bot => exact g.elim
      | or x y =>
        have h : (leA n x b && leA n y b) = true := by simpa only [leA] using h
        rw [Bool.and_eq_true] at h
        exact g.elim (ih h.1) (ih h.2)
      | _ =>
        cases b with
        | or x y => exact orC (by simpa only [leA] using h) g
        | any d p => exact anyC (by simpa only [leA] using h) g
        | _ =>
          simp only [leA, Bool.and_eq_true, beq_iff_eq, decide_eq_true_eq, Nat.ble_eq, Bool.false_eq_true] at h <;> first
            | exact g
            | (subst h; exact g)
            | (obtain ⟨i, e, h1, h2⟩ := g
               exact ⟨i, e, by omega, by omega⟩)
            | (obtain ⟨i, e, h1, h2, h3⟩ := g
               exact ⟨i, e, by omega, by omega, fun x hx => ih h.2 (h3 x hx)⟩)
            | (obtain ⟨i, e, h1⟩ := g
               exact ⟨i, e, ihT h h1⟩)
            | (obtain ⟨i, e, h1, h2, h3, h4⟩ := g
               exact ⟨i, e, by omega, by omega, h3, fun x hx => ⟨(h4 x hx).1.le h.1.1.1, ih h.2 (h4 x hx).2⟩⟩)
    · cases a <;> cases b <;> simp only [leT, Bool.and_eq_true, Bool.false_eq_true] at h
      · exact g
      · obtain ⟨u, r, e, h1, h2⟩ := g
        exact ⟨u, r, e, ih h.1 h1, ihT h.2 h2⟩
end
end Cab

set_option linter.all false
set_option maxRecDepth 100000
namespace Cab
/-! What the operators may give. -/
def mn (a b : Int) : Int := if a ≤ b then a else b
def mx (a b : Int) : Int := if a ≤ b then b else a
def appT : AT → AT → AT
  | .nil, bs => bs
  | .cons a as, bs => .cons a (appT as bs)
def lenT : AT → Nat
  | .nil => 0
  | .cons _ as => lenT as + 1
def aBin1 : Bop → A → A → Option A
  | .add, .int a b, .int c d => some (.int (a + c) (b + d))
  | .add, .int a b, .bl _ => some (.int a (b + 1))
  | .add, .str a b, .str c d => if b + d ≤ LIM then some (.str (a + c) (b + d)) else none
  | .add, .lst a b x, .lst c d y => if b + d ≤ LIM then some (.lst (a + c) (b + d) (join x y)) else none
  | .add, .tup xs, .tup ys => if lenT xs + lenT ys ≤ LIM then some (.tup (appT xs ys)) else none
  | .sub, .int a b, .int c d => some (.int (a - d) (b - c))
  | .mul, .int a b, .int c d => if (small64 a && small64 b) || (small64 c && small64 d) then some (.int (mn (mn (a * c) (a * d)) (mn (b * c) (b * d))) (mx (mx (a * c) (a * d)) (mx (b * c) (b * d)))) else none
  | .mul, .str a b, .int c d => if inRng c && inRng d && decide (b * d.toNat ≤ LIM) then some (.str (a * c.toNat) (b * d.toNat)) else none
  | .mul, .lst a b x, .int c d => if inRng c && inRng d && decide (b * d.toNat ≤ LIM) then some (.lst (a * c.toNat) (b * d.toNat) x) else none
  | .fdiv, .int a b, .int c d => if 0 < c ∧ d < 1073741824 then (if c = d then some (.int (a / c) (b / c)) else some (.int (mn a 0) (mx b 0))) else none
  | .mod, .int a b, .int c d => if 0 < c then (if 0 ≤ a ∧ b < c then some (.int a b) else some (.int 0 (d - 1))) else none
  | .pow, .int a b, .int c d => if 0 ≤ c ∧ c = d ∧ c ≤ 1000000 ∧ small64 a ∧ small64 b then (if a = b then some (.int (a ^ c.toNat) (a ^ c.toNat)) else if 0 ≤ a then some (.int (a ^ c.toNat) (b ^ c.toNat)) else none) else none
  | _, _, _ => none
section
variable {ns : List Int}
theorem mn_l (a b : Int) : mn a b ≤ a := by unfold mn; split <;> omega
theorem mn_r (a b : Int) : mn a b ≤ b := by unfold mn; split <;> omega
theorem mx_l (a b : Int) : a ≤ mx a b := by unfold mx; split <;> omega
theorem mx_r (a b : Int) : b ≤ mx a b := by unfold mx; split <;> omega
theorem mul_mid {i c d j : Int} (h1 : c ≤ j) (h2 : j ≤ d) : mn (i * c) (i * d) ≤ i * j ∧ i * j ≤ mx (i * c) (i * d) := by
  rcases Int.le_total 0 i with h | h
  · exact ⟨Int.le_trans (mn_l _ _) (Int.mul_le_mul_of_nonneg_left h1 h), Int.le_trans (Int.mul_le_mul_of_nonneg_left h2 h) (mx_r _ _)⟩
  · exact ⟨Int.le_trans (mn_r _ _) (Int.mul_le_mul_of_nonpos_left h h2), Int.le_trans (Int.mul_le_mul_of_nonpos_left h h1) (mx_l _ _)⟩
theorem mul_box {a b c d i j : Int} (h1 : a ≤ i) (h2 : i ≤ b) (h3 : c ≤ j) (h4 : j ≤ d) : mn (mn (a * c) (a * d)) (mn (b * c) (b * d)) ≤ i * j ∧ i * j ≤ mx (mx (a * c) (a * d)) (mx (b * c) (b * d)) := by
  have k := mul_mid (i := i) h3 h4
  have kc := mul_mid (i := c) h1 h2
  have kd := mul_mid (i := d) h1 h2
  rw [Int.mul_comm c a, Int.mul_comm c b, Int.mul_comm c i] at kc
  rw [Int.mul_comm d a, Int.mul_comm d b, Int.mul_comm d i] at kd
  unfold mn mx at *
  constructor
  · have := k.1; have := kc.1; have := kd.1
    split at * <;> split at * <;> split at * <;> split at * <;> split at * <;> split at * <;> omega
  · have := k.2; have := kc.2; have := kd.2
    split at * <;> split at * <;> split at * <;> split at * <;> split at * <;> split at * <;> omega
theorem small_mid {a b i : Int} (h : small64 a = true) (k : small64 b = true) (h1 : a ≤ i) (h2 : i ≤ b) : small64 i = true := by
  unfold small64 at *
  simp only [Bool.and_eq_true, decide_eq_true_eq] at *
  omega
theorem rng_mid {a b i : Int} (h : inRng a = true) (k : inRng b = true) (h1 : a ≤ i) (h2 : i ≤ b) : inRng i = true := by
  unfold inRng at *
  simp only [Bool.and_eq_true, decide_eq_true_eq] at *
  omega
theorem rep_lenA {α : Type} (n : Nat) (xs : List α) : (rep n xs).length = xs.length * n := by
  unfold rep
  induction n with
  | zero => simp
  | succ n ih =>
    rw [List.replicate_succ, List.flatten_cons, List.length_append, ih, Nat.mul_succ, Nat.add_comm]
theorem rep_mem {α : Type} {n : Nat} {xs : List α} {x : α} (h : x ∈ rep n xs) : x ∈ xs := by
  unfold rep at h
  obtain ⟨l, hl, hx⟩ := List.mem_flatten.mp h
  rw [List.eq_of_mem_replicate hl] at hx
  exact hx
theorem γt_len : ∀ {as : AT} {ts : List T}, γt ns as ts → ts.length = lenT as
  | .nil, ts, h => by
    cases (show ts = [] from h)
    rfl
  | .cons a as, ts, h => by
    obtain ⟨t, r, rfl, h1, h2⟩ := h
    rw [List.length_cons, γt_len h2]
    rfl
theorem γt_app : ∀ {as bs : AT} {ts us : List T}, γt ns as ts → γt ns bs us → γt ns (appT as bs) (ts ++ us)
  | .nil, bs, ts, us, h, k => by
    cases (show ts = [] from h)
    exact k
  | .cons a as, bs, ts, us, h, k => by
    obtain ⟨t, r, rfl, h1, h2⟩ := h
    exact ⟨t, r ++ us, rfl, h1, γt_app h2 k⟩
theorem pow_mono {a b : Int} (h0 : 0 ≤ a) (h : a ≤ b) : ∀ n : Nat, a ^ n ≤ b ^ n
  | 0 => by simp
  | n + 1 => by
    rw [Int.pow_succ, Int.pow_succ]
    have ih := pow_mono h0 h n
    have h1 : 0 ≤ b ^ n := Int.pow_nonneg (Int.le_trans h0 h)
    exact Int.mul_le_mul ih h h0 h1
theorem aBin1_ok (op : Bop) : Snd2 ns (aBin1 op) (binT op) := by
  intro x y c t t' e h h'
  cases op <;> cases x <;> cases y <;> simp only [aBin1, reduceCtorEq, Option.some.injEq, Option.ite_none_right_eq_some] at e
  case add.int.int =>
    subst e
    obtain ⟨i, rfl, h1, h2⟩ := h
    obtain ⟨j, rfl, h3, h4⟩ := h'
    exact ⟨_, rfl, _, rfl, by omega, by omega⟩
  case add.int.bl =>
    subst e
    obtain ⟨i, rfl, h1, h2⟩ := h
    cases (show t' = _ from h')
    refine ⟨_, rfl, _, rfl, ?_, ?_⟩ <;> unfold b2i <;> split <;> omega
  case add.str.str =>
    obtain ⟨hz, rfl⟩ := e
    obtain ⟨i, rfl, h1, h2⟩ := h
    obtain ⟨j, rfl, h3, h4⟩ := h'
    refine ⟨.str (i ++ j), by simp only [binT]; rw [if_pos (by omega)], _, rfl, ?_, ?_⟩ <;> rw [List.length_append] <;> omega
  case add.lst.lst =>
    obtain ⟨hz, rfl⟩ := e
    obtain ⟨i, rfl, h1, h2, h5⟩ := h
    obtain ⟨j, rfl, h3, h4, h6⟩ := h'
    refine ⟨.lst (i ++ j), by simp only [binT]; rw [if_pos (by omega)], _, rfl, ?_, ?_, fun x hx => ?_⟩
    · rw [List.length_append]; omega
    · rw [List.length_append]; omega
    · rcases List.mem_append.mp hx with hx | hx
      · exact join_l (h5 x hx)
      · exact join_r (h6 x hx)
  case add.tup.tup =>
    obtain ⟨hz, rfl⟩ := e
    obtain ⟨i, rfl, h1⟩ := h
    obtain ⟨j, rfl, h3⟩ := h'
    refine ⟨.tup (i ++ j), by simp only [binT]; rw [if_pos (by rw [γt_len h1, γt_len h3]; exact hz)], _, rfl, γt_app h1 h3⟩
  case sub.int.int =>
    subst e
    obtain ⟨i, rfl, h1, h2⟩ := h
    obtain ⟨j, rfl, h3, h4⟩ := h'
    exact ⟨_, rfl, _, rfl, by omega, by omega⟩
  case mul.int.int =>
    obtain ⟨hz, rfl⟩ := e
    obtain ⟨i, rfl, h1, h2⟩ := h
    obtain ⟨j, rfl, h3, h4⟩ := h'
    have hs : (small64 i || small64 j) = true := by
      simp only [Bool.or_eq_true, Bool.and_eq_true] at hz ⊢
      rcases hz with hz | hz
      · exact .inl (small_mid hz.1 hz.2 h1 h2)
      · exact .inr (small_mid hz.1 hz.2 h3 h4)
    have k := mul_box h1 h2 h3 h4
    exact ⟨.int (i * j), by simp only [binT]; rw [if_pos hs], _, rfl, k.1, k.2⟩
  case mul.str.int =>
    obtain ⟨hz, rfl⟩ := e
    obtain ⟨i, rfl, h1, h2⟩ := h
    obtain ⟨j, rfl, h3, h4⟩ := h'
    simp only [Bool.and_eq_true, decide_eq_true_eq] at hz
    have hj := rng_mid hz.1.1 hz.1.2 h3 h4
    have hl : i.length * j.toNat ≤ LIM := Nat.le_trans (Nat.mul_le_mul h2 (by omega)) hz.2
    refine ⟨.str (rep j.toNat i), by simp only [binT]; rw [if_pos (by simp [hj, hl])], _, rfl, ?_, ?_⟩
    · rw [rep_lenA]
      exact Nat.mul_le_mul h1 (by omega)
    · rw [rep_lenA]
      exact Nat.mul_le_mul h2 (by omega)
  case mul.lst.int =>
    obtain ⟨hz, rfl⟩ := e
    obtain ⟨i, rfl, h1, h2, h5⟩ := h
    obtain ⟨j, rfl, h3, h4⟩ := h'
    simp only [Bool.and_eq_true, decide_eq_true_eq] at hz
    have hj := rng_mid hz.1.1 hz.1.2 h3 h4
    have hl : i.length * j.toNat ≤ LIM := Nat.le_trans (Nat.mul_le_mul h2 (by omega)) hz.2
    refine ⟨.lst (rep j.toNat i), by simp only [binT]; rw [if_pos (by simp [hj, hl])], _, rfl, ?_, ?_, fun x hx => h5 x (rep_mem hx)⟩
    · rw [rep_lenA]
      exact Nat.mul_le_mul h1 (by omega)
    · rw [rep_lenA]
      exact Nat.mul_le_mul h2 (by omega)
  case fdiv.int.int a b c' d =>
    obtain ⟨hz, e⟩ := e
    obtain ⟨i, rfl, h1, h2⟩ := h
    obtain ⟨j, rfl, h3, h4⟩ := h'
    have hw : binT .fdiv (.int i) (.int j) = some (.int (i / j)) := by
      simp only [binT]
      rw [if_pos (by omega)]
    refine ⟨_, hw, ?_⟩
    split at e
    · rename_i hcd
      cases e
      have hj : j = c' := by omega
      subst hj
      exact ⟨_, rfl, Int.ediv_le_ediv (by omega) h1, Int.ediv_le_ediv (by omega) h2⟩
    · cases e
      have hj : 0 < j := by omega
      refine ⟨_, rfl, ?_, ?_⟩
      · rcases Int.lt_or_le i 0 with k | k
        · have h5 : i ≤ i / j := by
            have := Int.le_ediv_of_mul_le hj (show i * j ≤ i by
              have : i * j ≤ i * 1 := Int.mul_le_mul_of_nonpos_left (by omega) (by omega)
              omega)
            exact this
          have := mn_l a 0
          omega
        · have h5 : 0 ≤ i / j := Int.ediv_nonneg k (by omega)
          have := mn_r a 0
          omega
      · rcases Int.lt_or_le i 0 with k | k
        · have h5 : i / j < 0 := Int.ediv_lt_of_lt_mul hj (by omega)
          have := mx_r b 0
          omega
        · have h5 : i / j ≤ i := Int.ediv_le_self j k
          have := mx_l b 0
          omega
  case mod.int.int a b c' d =>
    obtain ⟨hz, e⟩ := e
    obtain ⟨i, rfl, h1, h2⟩ := h
    obtain ⟨j, rfl, h3, h4⟩ := h'
    have hj : 0 < j := by omega
    have hw : binT .mod (.int i) (.int j) = some (.int (i % j)) := by
      simp only [binT]
      rw [if_pos hj]
    refine ⟨_, hw, ?_⟩
    split at e
    · rename_i hcd
      cases e
      rw [Int.emod_eq_of_lt (by omega) (by omega)]
      exact ⟨_, rfl, h1, h2⟩
    · cases e
      have k1 := Int.emod_nonneg i (by omega : j ≠ 0)
      have k2 := Int.emod_lt_of_pos i hj
      exact ⟨_, rfl, k1, by omega⟩
  case pow.int.int a b c' d =>
    obtain ⟨hz, e⟩ := e
    obtain ⟨i, rfl, h1, h2⟩ := h
    obtain ⟨j, rfl, h3, h4⟩ := h'
    obtain ⟨z1, z2, z3, z4, z5⟩ := hz
    have hj : j = c' := by omega
    subst hj
    have hs := small_mid z4 z5 h1 h2
    have hw : binT .pow (.int i) (.int j) = some (.int (i ^ j.toNat)) := by
      simp only [binT]
      rw [if_pos ⟨z1, z3, hs⟩]
    refine ⟨_, hw, ?_⟩
    split at e
    · cases e
      have : i = a := by omega
      subst this
      exact ⟨_, rfl, Int.le_refl _, Int.le_refl _⟩
    · split at e
      · rename_i h0
        cases e
        exact ⟨_, rfl, pow_mono h0 h1 _, pow_mono (by omega) h2 _⟩
      · cases e
end
/-! ### comparing -/
def aB (t f : Bool) : A := match t, f with
  | true, true => .or (.bl true) (.bl false)
  | true, false => .bl true
  | false, true => .bl false
  | false, false => .bot
mutual
def ndA : Nat → A → Bool
  | _, .bot => true
  | k, .or a b => ndA k a && ndA k b
  | 0, .scr => false
  | _ + 1, .scr => true
  | _, .non => true
  | _, .bl _ => true
  | _, .int _ _ => true
  | _, .str _ _ => true
  | 0, .lst _ _ _ => false
  | k + 1, .lst _ _ a => ndA k a
  | 0, .tup _ => false
  | k + 1, .tup as => ndT k as
  | _, .dct _ _ _ _ => false
  | _, .any _ _ => false
def ndT : Nat → AT → Bool
  | _, .nil => true
  | k, .cons a as => ndA k a && ndT k as
end
/-- the class of a thing, as == parts them -/
def clsA : A → Nat
  | .non => 1
  | .bl _ => 2
  | .int _ _ => 2
  | .str _ _ => 3
  | .scr => 4
  | .lst _ _ _ => 4
  | .tup _ => 5
  | _ => 0
/-- can be equal, can be unequal; none: not to be asked -/
def aEq1 : A → A → Option (Bool × Bool)
  | .int a b, .int c d => some (decide (a ≤ d) && decide (c ≤ b), !(decide (a = b) && decide (c = d) && decide (a = c)))
  | .bl a, .bl b => some (a == b, a != b)
  | .non, .non => some (true, false)
  | .bl _, .int _ _ => some (true, true)
  | .int _ _, .bl _ => some (true, true)
  | .str _ _, .str _ _ => some (true, true)
  | .lst a b x, .lst c d y => if d = 0 then some (decide (a = 0), decide (b ≠ 0)) else if b = 0 then some (decide (c = 0), decide (d ≠ 0)) else if ndA 58 x && ndA 58 y then some (true, true) else none
  | .tup x, .tup y => if ndT 58 x && ndT 58 y then some (true, true) else none
  | .dct _ a b _, .dct _ _ 0 _ => some (decide (a = 0), decide (b ≠ 0))
  | .dct _ _ _ x, .dct _ _ _ y => if ndA 58 x && ndA 58 y then some (true, true) else none
  | x, y => if clsA x ≠ clsA y ∧ clsA x ≠ 0 ∧ clsA y ≠ 0 then some (false, true) else none
def oneS : A → Bool
  | .str lo hi => lo == 1 && hi == 1
  | _ => false
def keyA : A → Bool
  | .str _ _ => true
  | .int _ _ => true
  | _ => false
def isNonA : A → Option Bool
  | .non => some true
  | .bl _ => some false
  | .int _ _ => some false
  | .str _ _ => some false
  | .lst _ _ _ => some false
  | .tup _ => some false
  | .dct _ _ _ _ => some false
  | _ => none
def aCmp1 : Cop → A → A → Option A
  | .eq, x, y => (aEq1 x y).map fun p => aB p.1 p.2
  | .ne, x, y => (aEq1 x y).map fun p => aB p.2 p.1
  | .lt, .int a b, .int c d => some (aB (decide (a < d)) (decide (c ≤ b)))
  | .le, .int a b, .int c d => some (aB (decide (a ≤ d)) (decide (c < b)))
  | .gt, .int a b, .int c d => some (aB (decide (c < b)) (decide (a ≤ d)))
  | .ge, .int a b, .int c d => some (aB (decide (c ≤ b)) (decide (a < d)))
  | .lt, .str _ _, .str _ _ => some (aB true true)
  | .gt, .str _ _, .str _ _ => some (aB true true)
  | .is, .bl a, .bl b => some (.bl (a == b))
  | .isn, .bl a, .bl b => some (.bl (a != b))
  | .is, x, .non => (isNonA x).map .bl
  | .isn, x, .non => (isNonA x).map fun b => .bl (!b)
  | .mem, x, .str _ _ => if oneS x then some (aB true true) else none
  | .nmem, x, .str _ _ => if oneS x then some (aB true true) else none
  | .mem, x, .lst _ _ y => if ndA 59 x && ndA 59 y then some (aB true true) else none
  | .nmem, x, .lst _ _ y => if ndA 59 x && ndA 59 y then some (aB true true) else none
  | .mem, x, .tup y => if ndA 59 x && ndT 59 y then some (aB true true) else none
  | .nmem, x, .tup y => if ndA 59 x && ndT 59 y then some (aB true true) else none
  | .mem, x, .dct _ _ _ _ => if keyA x then some (aB true true) else none
  | .nmem, x, .dct _ _ _ _ => if keyA x then some (aB true true) else none
  | _, _, _ => none
section
variable {ns : List Int}
theorem aB_ok {t f b : Bool} (h1 : b = true → t = true) (h2 : b = false → f = true) : γ ns (aB t f) (.bl b) := by
  cases b with
  | true =>
    have := h1 rfl
    subst this
    cases f
    · rfl
    · exact .inl rfl
  | false =>
    have := h2 rfl
    subst this
    cases t
    · rfl
    · exact .inr rfl
mutual
theorem ndA_ok : ∀ {a : A} {k : Nat} {t : T}, ndA k a = true → γ ns a t → nodct k t = true
  | .bot, k, t, h, g => g.elim
  | .or a b, k, t, h, g => by
    simp only [ndA, Bool.and_eq_true] at h
    rcases g with g | g
    · exact ndA_ok h.1 g
    · exact ndA_ok h.2 g
  | .scr, k, t, h, g => by
    cases (show t = _ from g)
    cases k with
    | zero => cases h
    | succ k =>
      simp only [nodct, List.all_eq_true]
      intro x hx
      obtain ⟨i, _, rfl⟩ := List.mem_map.mp hx
      cases k <;> rfl
  | .non, k, t, h, g => by
    cases (show t = _ from g)
    cases k <;> rfl
  | .bl b, k, t, h, g => by
    cases (show t = _ from g)
    cases k <;> rfl
  | .int lo hi, k, t, h, g => by
    obtain ⟨i, rfl, _⟩ := g
    cases k <;> rfl
  | .str lo hi, k, t, h, g => by
    obtain ⟨i, rfl, _⟩ := g
    cases k <;> rfl
  | .lst lo hi a, k, t, h, g => by
    obtain ⟨xs, rfl, _, _, g⟩ := g
    cases k with
    | zero => cases h
    | succ k =>
      simp only [nodct, List.all_eq_true]
      exact fun x hx => ndA_ok (show ndA k a = true from h) (g x hx)
  | .tup as, k, t, h, g => by
    obtain ⟨xs, rfl, g⟩ := g
    cases k with
    | zero => cases h
    | succ k =>
      simp only [nodct, List.all_eq_true]
      exact ndT_ok (show ndT k as = true from h) g
  | .dct _ _ _ _, k, t, h, g => by simp [ndA] at h
  | .any _ _, k, t, h, g => by simp [ndA] at h
theorem ndT_ok : ∀ {as : AT} {k : Nat} {ts : List T}, ndT k as = true → γt ns as ts → (∀ t ∈ ts, nodct k t = true)
  | .nil, k, ts, h, g => by
    cases (show ts = [] from g)
    exact fun t ht => by cases ht
  | .cons a as, k, ts, h, g => by
    obtain ⟨t, r, rfl, g1, g2⟩ := g
    simp only [ndT, Bool.and_eq_true] at h
    have h1 := ndA_ok h.1 g1
    have h2 := ndT_ok h.2 g2
    intro u hu
    rcases List.mem_cons.mp hu with e | hu
    · rw [e]
      exact h1
    · exact h2 u hu
end
theorem eqOk_nd : ∀ (n : Nat) {a b : T}, nodct n a = true → nodct n b = true → eqOk n a b = true
  | 0, a, b, h, k => by
    simp only [nodct] at h k
    simp only [eqOk, h, k, Bool.and_self]
  | n + 1, a, b, h, k => by
    have zip : ∀ {xs ys : List T}, (xs.all (nodct n)) = true → (ys.all (nodct n)) = true → zipAll (eqOk n) xs ys = true := by
      intro xs
      induction xs with
      | nil => intro ys _ _; cases ys <;> rfl
      | cons x xs ih =>
        intro ys h k
        cases ys with
        | nil => rfl
        | cons y ys =>
          simp only [List.all_cons, Bool.and_eq_true] at h k
          simp only [zipAll, eqOk_nd n h.1 k.1, ih h.2 k.2, Bool.and_self]
    cases a <;> cases b <;> first | rfl | (simp [nodct] at h; done) | (simp [nodct] at k; done) | skip
    · exact zip h k
    · exact zip h k
theorem nd_up : ∀ (n : Nat) {t : T}, nodct n t = true → nodct (n + 1) t = true
  | 0, t, h => by
    cases t <;> first | rfl | (simp [nodct, isScalar] at h; done)
  | n + 1, t, h => by
    cases t <;> first | rfl | skip
    · simp only [nodct, List.all_eq_true] at h ⊢
      exact fun x hx => nd_up n (h x hx)
    · simp only [nodct, List.all_eq_true] at h ⊢
      exact fun x hx => nd_up n (h x hx)
    · simp [nodct] at h
theorem pyEq_nil {xs : List T} : pyEq (.lst xs) (.lst []) = xs.isEmpty := by
  cases xs <;> simp [pyEq, eqL]
theorem pyEq_nil' {xs : List T} : pyEq (.lst []) (.lst xs) = xs.isEmpty := by
  cases xs <;> simp [pyEq, eqL]
theorem pyEq_nilK {xs : List (Ky × T)} : pyEq (.dct xs) (.dct []) = xs.isEmpty := by
  cases xs <;> simp [pyEq, eqK]
/-- what aEq1 tells -/
def EqFact (t t' : T) (p q : Bool) : Prop := eqOk 60 t t' = true ∧ neOk t t' = true ∧ (pyEq t t' = true → p = true) ∧ (pyEq t t' = false → q = true)
theorem aEq1_ok {x y : A} {p : Bool × Bool} {t t' : T} (e : aEq1 x y = some p) (h : γ ns x t) (h' : γ ns y t') : EqFact t t' p.1 p.2 := by
  have both : eqOk 60 t t' = true → neOk t t' = true → p = (true, true) → EqFact t t' p.1 p.2 := fun a b c => by subst c; exact ⟨a, b, fun _ => rfl, fun _ => rfl⟩
  have differ : ∀ {x y : A}, clsA x ≠ clsA y → clsA x ≠ 0 → clsA y ≠ 0 → γ ns x t → γ ns y t' → eqOk 60 t t' = true ∧ neOk t t' = true ∧ pyEq t t' = false := by
    intro x y h1 h2 h3 g g'
    cases x <;> cases y <;> simp only [clsA, ne_eq, not_true_eq_false, reduceCtorEq, not_false_eq_true] at h1 h2 h3
    all_goals first
      | (exact absurd rfl h1)
      | (first
        | cases (show t = _ from g)
        | obtain ⟨_, rfl, _⟩ := g) <;> (first
        | cases (show t' = _ from g')
        | obtain ⟨_, rfl, _⟩ := g') <;> (refine ⟨rfl, rfl, ?_⟩; simp [pyEq])
  have last : (if clsA x ≠ clsA y ∧ clsA x ≠ 0 ∧ clsA y ≠ 0 then some (false, true) else none) = some p → EqFact t t' p.1 p.2 := by
    intro e
    split at e
    · rename_i hc
      cases e
      obtain ⟨a, b, c⟩ := differ hc.1 hc.2.1 hc.2.2 h h'
      exact ⟨a, b, fun z => by rw [c] at z; (cases z), fun _ => rfl⟩
    · cases e
  cases x <;> cases y <;> simp only [aEq1] at e
  case non.non =>
    cases (show t = _ from h)
    cases (show t' = _ from h')
    cases e
    exact ⟨rfl, rfl, fun _ => rfl, fun z => by simp [pyEq] at z⟩
  case bl.bl =>
    cases (show t = _ from h)
    cases (show t' = _ from h')
    cases e
    refine ⟨rfl, rfl, fun z => ?_, fun z => ?_⟩ <;> simp only [pyEq] at z
    · exact z
    · simpa using z
  case bl.int =>
    cases (show t = _ from h)
    obtain ⟨j, rfl, _⟩ := h'
    cases e
    exact both rfl rfl rfl
  case int.bl =>
    cases (show t' = _ from h')
    obtain ⟨j, rfl, _⟩ := h
    cases e
    exact both rfl rfl rfl
  case int.int =>
    obtain ⟨i, rfl, h1, h2⟩ := h
    obtain ⟨j, rfl, h3, h4⟩ := h'
    cases e
    refine ⟨rfl, rfl, fun z => ?_, fun z => ?_⟩ <;> simp only [pyEq, beq_iff_eq, beq_eq_false_iff_ne] at z
    · simp only [Bool.and_eq_true, decide_eq_true_eq]
      omega
    · simp only [Bool.not_eq_true', Bool.and_eq_false_iff, decide_eq_false_iff_not]
      omega
  case str.str =>
    obtain ⟨i, rfl, h1, h2⟩ := h
    obtain ⟨j, rfl, h3, h4⟩ := h'
    cases e
    exact both rfl rfl rfl
  case lst.lst a b x c d y =>
    obtain ⟨xs, rfl, h1, h2, h5⟩ := h
    obtain ⟨ys, rfl, h3, h4, h6⟩ := h'
    split at e
    · rename_i hd
      cases e
      have : ys = [] := List.eq_nil_of_length_eq_zero (by omega)
      subst this
      refine ⟨by cases xs <;> rfl, by cases xs <;> simp [neOk], fun z => ?_, fun z => ?_⟩ <;> rw [pyEq_nil] at z
      · have : xs = [] := by simpa using z
        subst this
        simp at h1
        simp [h1]
      · have : xs ≠ [] := by simpa using z
        have := List.length_pos_iff.mpr this
        simp only [decide_eq_true_eq]
        omega
    · split at e
      · rename_i hd
        cases e
        have : xs = [] := List.eq_nil_of_length_eq_zero (by omega)
        subst this
        refine ⟨by cases ys <;> rfl, by cases ys <;> simp [neOk], fun z => ?_, fun z => ?_⟩ <;> rw [pyEq_nil'] at z
        · have : ys = [] := by simpa using z
          subst this
          simp at h3
          simp [h3]
        · have : ys ≠ [] := by simpa using z
          have := List.length_pos_iff.mpr this
          simp only [decide_eq_true_eq]
          omega
      · split at e
        · rename_i hn
          rw [Bool.and_eq_true] at hn
          have n1 : ∀ k, 58 ≤ k → (xs.all (nodct k)) = true → True := fun _ _ _ => trivial
          have up : ∀ {t : T}, nodct 58 t = true → nodct 59 t = true := fun {t} => nd_up 58
          have a1 : xs.all (nodct 58) = true := List.all_eq_true.mpr fun x hx => ndA_ok hn.1 (h5 x hx)
          have a2 : ys.all (nodct 58) = true := List.all_eq_true.mpr fun x hx => ndA_ok hn.2 (h6 x hx)
          have b1 : xs.all (nodct 59) = true := List.all_eq_true.mpr fun x hx => up (List.all_eq_true.mp a1 x hx)
          have b2 : ys.all (nodct 59) = true := List.all_eq_true.mpr fun x hx => up (List.all_eq_true.mp a2 x hx)
          exact both (eqOk_nd 60 (a := .lst xs) (b := .lst ys) b1 b2) (by simp only [neOk, b1, b2, Bool.and_self, Bool.or_true]) (Option.some.inj e).symm
        · cases e
  case tup.tup x y =>
    obtain ⟨xs, rfl, h5⟩ := h
    obtain ⟨ys, rfl, h6⟩ := h'
    split at e
    · rename_i hn
      rw [Bool.and_eq_true] at hn
      have b1 : xs.all (nodct 59) = true := List.all_eq_true.mpr fun x hx => nd_up 58 (ndT_ok hn.1 h5 x hx)
      have b2 : ys.all (nodct 59) = true := List.all_eq_true.mpr fun x hx => nd_up 58 (ndT_ok hn.2 h6 x hx)
      exact both (eqOk_nd 60 (a := .tup xs) (b := .tup ys) b1 b2) (by simp only [neOk, b1, b2, Bool.and_self]) (Option.some.inj e).symm
    · cases e
  case dct.dct s a b x s' c d y =>
    obtain ⟨xs, rfl, h1, h2, _, h5⟩ := h
    obtain ⟨ys, rfl, h3, h4, _, h6⟩ := h'
    have gen : (if (ndA 58 x && ndA 58 y) = true then some (true, true) else none) = some p → EqFact (.dct xs) (.dct ys) p.1 p.2 := by
      intro e
      split at e
      · rename_i hn
        rw [Bool.and_eq_true] at hn
        refine both ?_ ?_ (Option.some.inj e).symm
        · simp only [eqOk, List.all_eq_true]
          intro q hq
          cases eg : kget q.1 ys with
          | none => rfl
          | some w =>
            have hw : ∃ r ∈ ys, r.2 = w := by
              have : ∀ {l : List (Ky × T)}, kget q.1 l = some w → ∃ r ∈ l, r.2 = w := by
                intro l
                induction l with
                | nil => intro h; cases h
                | cons r l ih =>
                  intro h
                  unfold kget at h
                  split at h
                  · cases h
                    exact ⟨r, List.mem_cons_self, rfl⟩
                  · obtain ⟨r', h1, h2⟩ := ih h
                    exact ⟨r', List.mem_cons_of_mem _ h1, h2⟩
              exact this eg
            obtain ⟨r, hr, rfl⟩ := hw
            exact eqOk_nd 59 (nd_up 58 (ndA_ok hn.1 (h5 q hq).2)) (nd_up 58 (ndA_ok hn.2 (h6 r hr).2))
        · have b1 : (xs.all fun p => nodct 59 p.2) = true := List.all_eq_true.mpr fun q hq => nd_up 58 (ndA_ok hn.1 (h5 q hq).2)
          have b2 : (ys.all fun p => nodct 59 p.2) = true := List.all_eq_true.mpr fun q hq => nd_up 58 (ndA_ok hn.2 (h6 q hq).2)
          simp only [neOk, b1, b2, Bool.and_self, Bool.or_true]
      · cases e
    cases d with
    | succ d => exact gen e
    | zero =>
      cases e
      have : ys = [] := List.eq_nil_of_length_eq_zero (by omega)
      subst this
      refine ⟨by simp [eqOk, kget], by cases xs <;> simp [neOk], fun z => ?_, fun z => ?_⟩ <;> rw [pyEq_nilK] at z
      · have : xs = [] := by simpa using z
        subst this
        simp at h1
        simp [h1]
      · have : xs ≠ [] := by simpa using z
        have := List.length_pos_iff.mpr this
        simp only [decide_eq_true_eq]
        omega
  all_goals exact last e
end
end Cab

set_option linter.all false
set_option maxRecDepth 100000
namespace Cab
section
variable {ns : List Int}
theorem aCmp1_ok {op : Cop} {x y c : A} {t t' : T} (e : aCmp1 op x y = some c) (h : γ ns x t) (h' : γ ns y t') : ∃ b, cmpT op t t' = some b ∧ γ ns c (.bl b) := by
  have both : ∀ b, cmpT op t t' = some b → c = aB true true → ∃ b, cmpT op t t' = some b ∧ γ ns c (.bl b) := fun b hb hc => ⟨b, hb, by rw [hc]; exact aB_ok (fun _ => rfl) fun _ => rfl⟩
  have lists : ∀ {ys : List T}, (∀ z ∈ ys, nodct 59 z = true) → nodct 59 t = true → (ys.all (nodct 59) && nodct 59 t) = true := fun h1 h2 => by
    rw [Bool.and_eq_true]
    exact ⟨List.all_eq_true.mpr h1, h2⟩
  cases op with
  | eq =>
    simp only [aCmp1, Option.map_eq_some_iff] at e
    obtain ⟨p, e, rfl⟩ := e
    obtain ⟨h1, _, h3, h4⟩ := aEq1_ok e h h'
    exact ⟨pyEq t t', by rw [cmpT, if_pos h1], aB_ok h3 h4⟩
  | ne =>
    simp only [aCmp1, Option.map_eq_some_iff] at e
    obtain ⟨p, e, rfl⟩ := e
    obtain ⟨_, h2, h3, h4⟩ := aEq1_ok e h h'
    refine ⟨!pyEq t t', by rw [cmpT, if_pos h2], aB_ok (fun z => ?_) fun z => ?_⟩
    · exact h4 (by simpa using z)
    · exact h3 (by simpa using z)
  | lt =>
    cases x <;> cases y <;> simp only [aCmp1, reduceCtorEq, Option.some.injEq] at e <;> subst e
    · obtain ⟨i, rfl, h1, h2⟩ := h
      obtain ⟨j, rfl, h3, h4⟩ := h'
      refine ⟨_, rfl, aB_ok (fun z => ?_) fun z => ?_⟩ <;> simp only [decide_eq_true_eq, decide_eq_false_iff_not] at z ⊢ <;> omega
    · obtain ⟨i, rfl, h1, h2⟩ := h
      obtain ⟨j, rfl, h3, h4⟩ := h'
      exact both _ rfl rfl
  | le =>
    cases x <;> cases y <;> simp only [aCmp1, reduceCtorEq, Option.some.injEq] at e <;> subst e
    obtain ⟨i, rfl, h1, h2⟩ := h
    obtain ⟨j, rfl, h3, h4⟩ := h'
    refine ⟨_, rfl, aB_ok (fun z => ?_) fun z => ?_⟩ <;> simp only [decide_eq_true_eq, decide_eq_false_iff_not] at z ⊢ <;> omega
  | gt =>
    cases x <;> cases y <;> simp only [aCmp1, reduceCtorEq, Option.some.injEq] at e <;> subst e
    · obtain ⟨i, rfl, h1, h2⟩ := h
      obtain ⟨j, rfl, h3, h4⟩ := h'
      refine ⟨_, rfl, aB_ok (fun z => ?_) fun z => ?_⟩ <;> simp only [decide_eq_true_eq, decide_eq_false_iff_not] at z ⊢ <;> omega
    · obtain ⟨i, rfl, h1, h2⟩ := h
      obtain ⟨j, rfl, h3, h4⟩ := h'
      exact both _ rfl rfl
  | ge =>
    cases x <;> cases y <;> simp only [aCmp1, reduceCtorEq, Option.some.injEq] at e <;> subst e
    obtain ⟨i, rfl, h1, h2⟩ := h
    obtain ⟨j, rfl, h3, h4⟩ := h'
    refine ⟨_, rfl, aB_ok (fun z => ?_) fun z => ?_⟩ <;> simp only [decide_eq_true_eq, decide_eq_false_iff_not] at z ⊢ <;> omega
  | is =>
    cases y <;> simp only [aCmp1, reduceCtorEq] at e
    case non =>
      cases (show t' = _ from h')
      have e2 : (isNonA x).map A.bl = some c := by cases x <;> exact e
      obtain ⟨b, e3, rfl⟩ := Option.map_eq_some_iff.mp e2
      cases x <;> simp only [isNonA, reduceCtorEq, Option.some.injEq] at e3 <;> subst e3
      all_goals
        (first
          | cases (show t = _ from h)
          | obtain ⟨_, rfl, _⟩ := h)
        exact ⟨_, rfl, rfl⟩
    case bl b =>
      cases x <;> simp only [aCmp1, reduceCtorEq, Option.some.injEq] at e
      subst e
      cases (show t = _ from h)
      cases (show t' = _ from h')
      exact ⟨_, rfl, rfl⟩
    all_goals (cases x <;> simp [aCmp1] at e)
  | isn =>
    cases y <;> simp only [aCmp1, reduceCtorEq] at e
    case non =>
      cases (show t' = _ from h')
      have e2 : (isNonA x).map (fun b => A.bl (!b)) = some c := by cases x <;> exact e
      obtain ⟨b, e3, rfl⟩ := Option.map_eq_some_iff.mp e2
      cases x <;> simp only [isNonA, reduceCtorEq, Option.some.injEq] at e3 <;> subst e3
      all_goals
        (first
          | cases (show t = _ from h)
          | obtain ⟨_, rfl, _⟩ := h)
        exact ⟨_, rfl, rfl⟩
    case bl b =>
      cases x <;> simp only [aCmp1, reduceCtorEq, Option.some.injEq] at e
      subst e
      cases (show t = _ from h)
      cases (show t' = _ from h')
      exact ⟨_, rfl, rfl⟩
    all_goals (cases x <;> simp [aCmp1] at e)
  | mem =>
    cases y <;> simp only [aCmp1, reduceCtorEq, Option.ite_none_right_eq_some, Option.some.injEq] at e
    case str =>
      obtain ⟨hz, e⟩ := e
      cases x <;> simp only [oneS, Bool.false_eq_true, Bool.and_eq_true, beq_iff_eq] at hz
      obtain ⟨i, rfl, h1, h2⟩ := h
      obtain ⟨j, rfl, h3, h4⟩ := h'
      obtain ⟨z1, z2⟩ := hz
      subst z1 z2
      match i, h1, h2 with
      | [q], _, _ => exact both _ rfl e.symm
    case lst a b y =>
      obtain ⟨hn, e⟩ := e
      rw [Bool.and_eq_true] at hn
      obtain ⟨ys, rfl, h3, h4, h5⟩ := h'
      have := lists (fun z hz => ndA_ok hn.2 (h5 z hz)) (ndA_ok hn.1 h)
      refine both (ys.any fun y => pyEq y t) ?_ e.symm
      cases t <;> (simp only [cmpT]; rw [if_pos this])
    case tup y =>
      obtain ⟨hn, e⟩ := e
      rw [Bool.and_eq_true] at hn
      obtain ⟨ys, rfl, h5⟩ := h'
      have := lists (fun z hz => ndT_ok hn.2 h5 z hz) (ndA_ok hn.1 h)
      refine both (ys.any fun y => pyEq y t) ?_ e.symm
      cases t <;> (simp only [cmpT]; rw [if_pos this])
    case dct s a b y =>
      obtain ⟨hz, e⟩ := e
      obtain ⟨ys, rfl, h3, h4, h5⟩ := h'
      cases x <;> simp only [keyA, Bool.false_eq_true] at hz
      · obtain ⟨i, rfl, _⟩ := h
        refine both ((kget (.i i) ys).isSome) ?_ e.symm
        rfl
      · obtain ⟨i, rfl, _⟩ := h
        refine both ((kget (.s i) ys).isSome) ?_ e.symm
        match i with
        | [] => rfl
        | [_] => rfl
        | _ :: _ :: _ => rfl
    all_goals (cases x <;> simp [aCmp1] at e)
  | nmem =>
    cases y <;> simp only [aCmp1, reduceCtorEq, Option.ite_none_right_eq_some, Option.some.injEq] at e
    case str =>
      obtain ⟨hz, e⟩ := e
      cases x <;> simp only [oneS, Bool.false_eq_true, Bool.and_eq_true, beq_iff_eq] at hz
      obtain ⟨i, rfl, h1, h2⟩ := h
      obtain ⟨j, rfl, h3, h4⟩ := h'
      obtain ⟨z1, z2⟩ := hz
      subst z1 z2
      match i, h1, h2 with
      | [q], _, _ => exact both _ rfl e.symm
    case lst a b y =>
      obtain ⟨hn, e⟩ := e
      rw [Bool.and_eq_true] at hn
      obtain ⟨ys, rfl, h3, h4, h5⟩ := h'
      have := lists (fun z hz => ndA_ok hn.2 (h5 z hz)) (ndA_ok hn.1 h)
      refine both (!ys.any fun y => pyEq y t) ?_ e.symm
      cases t <;> (simp only [cmpT]; rw [if_pos this])
    case tup y =>
      obtain ⟨hn, e⟩ := e
      rw [Bool.and_eq_true] at hn
      obtain ⟨ys, rfl, h5⟩ := h'
      have := lists (fun z hz => ndT_ok hn.2 h5 z hz) (ndA_ok hn.1 h)
      refine both (!ys.any fun y => pyEq y t) ?_ e.symm
      cases t <;> (simp only [cmpT]; rw [if_pos this])
    case dct s a b y =>
      obtain ⟨hz, e⟩ := e
      obtain ⟨ys, rfl, h3, h4, h5⟩ := h'
      cases x <;> simp only [keyA, Bool.false_eq_true] at hz
      · obtain ⟨i, rfl, _⟩ := h
        refine both (!(kget (.i i) ys).isSome) ?_ e.symm
        rfl
      · obtain ⟨i, rfl, _⟩ := h
        refine both (!(kget (.s i) ys).isSome) ?_ e.symm
        match i with
        | [] => rfl
        | [_] => rfl
        | _ :: _ :: _ => rfl
    all_goals (cases x <;> simp [aCmp1] at e)
/-- comparing, as a function of data -/
def cmpTT (op : Cop) (t t' : T) : Option T := (cmpT op t t').map .bl
def aCmp (op : Cop) (x y : A) : Option A := lift2A (aCmp1 op) x y
theorem aCmp_ok {op : Cop} {x y c : A} {t t' : T} (e : aCmp op x y = some c) (h : γ ns x t) (h' : γ ns y t') : ∃ b, cmpT op t t' = some b ∧ γ ns c (.bl b) := by
  have : Snd2 ns (aCmp1 op) (cmpTT op) := fun x y c t t' e h h' => by
    obtain ⟨b, e1, e2⟩ := aCmp1_ok e h h'
    exact ⟨.bl b, by simp only [cmpTT, e1, Option.map_some], e2⟩
  obtain ⟨w, e1, e2⟩ := this.lift _ _ _ _ _ e h h'
  simp only [cmpTT, Option.map_eq_some_iff] at e1
  obtain ⟨b, e1, rfl⟩ := e1
  exact ⟨b, e1, e2⟩
def aBin (op : Bop) (x y : A) : Option A := lift2A (aBin1 op) x y
theorem aBin_ok {op : Bop} {x y c : A} {t t' : T} (e : aBin op x y = some c) (h : γ ns x t) (h' : γ ns y t') : ∃ w, binT op t t' = some w ∧ γ ns c w := (aBin1_ok op).lift _ _ _ _ _ e h h'
/-! ### of one thing -/
def aLen1 : A → Option A
  | .lst lo hi _ => some (.int lo hi)
  | .tup as => some (.int (lenT as) (lenT as))
  | .dct _ lo hi _ => some (.int lo hi)
  | .str lo hi => if hi ≤ LIM then some (.int lo hi) else none
  | _ => none
def lenTT (t : T) : Option T := (lenU [] (.v t)).map fun (n : Nat) => .int n
theorem lenU_any {s : Store} (t : T) : lenU s (.v t) = lenU [] (.v t) := by cases t <;> rfl
theorem aLen1_ok : Snd1 ns aLen1 lenTT := by
  intro x c t e h
  cases x <;> simp only [aLen1, reduceCtorEq, Option.some.injEq, Option.ite_none_right_eq_some] at e
  case lst =>
    subst e
    obtain ⟨xs, rfl, h1, h2, _⟩ := h
    exact ⟨_, rfl, _, rfl, by omega, by omega⟩
  case tup =>
    subst e
    obtain ⟨xs, rfl, h1⟩ := h
    have := γt_len h1
    exact ⟨_, rfl, _, rfl, by omega, by omega⟩
  case dct =>
    subst e
    obtain ⟨xs, rfl, h1, h2, _⟩ := h
    exact ⟨_, rfl, _, rfl, by omega, by omega⟩
  case str =>
    obtain ⟨hz, rfl⟩ := e
    obtain ⟨xs, rfl, h1, h2⟩ := h
    refine ⟨.int xs.length, ?_, _, rfl, by omega, by omega⟩
    simp only [lenTT, lenU]
    rw [if_pos (by omega)]
    rfl
def kA1 (ks : List Kd) : A → Option Bool
  | .non => some false
  | .bl _ => some (ks.any (isKd (.bl true)))
  | .int _ _ => some (ks.any (isKd (.int 0)))
  | .str _ _ => some (ks.any (isKd (.str [])))
  | .lst _ _ _ => some (ks.any (isKd (.lst [])))
  | .scr => some (ks.any (isKd (.lst [])))
  | .tup _ => some (ks.any (isKd (.tup [])))
  | .dct _ _ _ _ => some (ks.any (isKd (.dct [])))
  | _ => none
theorem kA1_ok {ks : List Kd} {x : A} {b : Bool} {t : T} (e : kA1 ks x = some b) (h : γ ns x t) : ks.any (isKd t) = b := by
  cases x <;> simp only [kA1, reduceCtorEq, Option.some.injEq] at e <;> subst e
  case non => cases (show t = _ from h); induction ks with
    | nil => rfl
    | cons k ks ih => rw [List.any_cons, ih]; cases k <;> rfl
  all_goals
    (first
      | cases (show t = _ from h)
      | obtain ⟨_, rfl, _⟩ := h)
    congr 1
    funext q
    cases q <;> rfl
def aIsi1 (ks : List Kd) (x : A) : Option A := (kA1 ks x).map .bl
theorem aIsi1_ok (ks : List Kd) : Snd1 ns (aIsi1 ks) (fun t => some (.bl (ks.any (isKd t)))) := by
  intro x c t e h
  simp only [aIsi1, Option.map_eq_some_iff] at e
  obtain ⟨b, e, rfl⟩ := e
  exact ⟨_, rfl, by rw [kA1_ok e h]; rfl⟩
def aNeg1 : A → Option A
  | .int a b => some (.int (-b) (-a))
  | _ => none
theorem aNeg1_ok : Snd1 ns aNeg1 (fun t => match t with
    | .int i => some (.int (-i))
    | _ => none) := by
  intro x c t e h
  cases x <;> simp only [aNeg1, reduceCtorEq, Option.some.injEq] at e
  subst e
  obtain ⟨i, rfl, h1, h2⟩ := h
  exact ⟨_, rfl, _, rfl, by omega, by omega⟩
def aNot1 : A → Option A
  | .bl b => some (.bl !b)
  | _ => none
theorem aNot1_ok : Snd1 ns aNot1 (fun t => match t with
    | .bl b => some (.bl !b)
    | _ => none) := by
  intro x c t e h
  cases x <;> simp only [aNot1, reduceCtorEq, Option.some.injEq] at e
  subst e
  cases (show t = _ from h)
  exact ⟨_, rfl, rfl⟩
/-- a truth, where a test is asked: can be true, can be false -/
def aTru1 : A → Option A
  | .bl b => some (.bl b)
  | .non => some (.bl false)
  | .int a b => some (aB (decide (¬ (a = 0 ∧ b = 0))) (decide (a ≤ 0 ∧ 0 ≤ b)))
  | .lst a b _ => some (aB (decide (0 < b)) (decide (a = 0)))
  | .dct _ a b _ => some (aB (decide (0 < b)) (decide (a = 0)))
  | _ => none
def truT (t : T) : Option T := (truth [] (.v t)).map .bl
theorem truth_any {s : Store} (t : T) : truth s (.v t) = truth [] (.v t) := by cases t <;> rfl
theorem aTru1_ok : Snd1 ns aTru1 truT := by
  intro x c t e h
  cases x <;> simp only [aTru1, reduceCtorEq, Option.some.injEq] at e <;> subst e
  case non => cases (show t = _ from h); exact ⟨_, rfl, rfl⟩
  case bl => cases (show t = _ from h); exact ⟨_, rfl, rfl⟩
  case int =>
    obtain ⟨i, rfl, h1, h2⟩ := h
    refine ⟨_, rfl, aB_ok (fun z => ?_) fun z => ?_⟩
    · have : i ≠ 0 := by simpa using z
      simp only [decide_eq_true_eq]
      omega
    · have : i = 0 := by simpa using z
      simp only [decide_eq_true_eq]
      omega
  case lst =>
    obtain ⟨xs, rfl, h1, h2, _⟩ := h
    refine ⟨_, rfl, aB_ok (fun z => ?_) fun z => ?_⟩
    · have : xs ≠ [] := by simpa using z
      have := List.length_pos_iff.mpr this
      simp only [decide_eq_true_eq]
      omega
    · have : xs = [] := by simpa using z
      subst this
      simp only [List.length_nil] at h1
      simp only [decide_eq_true_eq]
      omega
  case dct =>
    obtain ⟨xs, rfl, h1, h2, _⟩ := h
    refine ⟨_, rfl, aB_ok (fun z => ?_) fun z => ?_⟩
    · have : xs ≠ [] := by simpa using z
      have := List.length_pos_iff.mpr this
      simp only [decide_eq_true_eq]
      omega
    · have : xs = [] := by simpa using z
      subst this
      simp only [List.length_nil] at h1
      simp only [decide_eq_true_eq]
      omega
/-! ### places, slices -/
def nthT : AT → Nat → Option A
  | .nil, _ => none
  | .cons a _, 0 => some a
  | .cons _ as, n + 1 => nthT as n
/-- the join of the places lo .. lo + n -/
def spanT (as : AT) (lo : Nat) : Nat → Option A
  | 0 => nthT as lo
  | n + 1 => joinO (nthT as lo) (spanT as (lo + 1) n)
theorem nthT_ok : ∀ {as : AT} {ts : List T} {n : Nat} {a : A}, γt ns as ts → nthT as n = some a → ∃ t, ts[n]? = some t ∧ γ ns a t
  | .nil, _, _, _, _, e => by cases e
  | .cons b as, ts, 0, a, h, e => by
    obtain ⟨t, r, rfl, h1, h2⟩ := h
    cases e
    exact ⟨t, rfl, h1⟩
  | .cons b as, ts, n + 1, a, h, e => by
    obtain ⟨t, r, rfl, h1, h2⟩ := h
    have := nthT_ok (ts := r) (n := n) h2 e
    simpa using this
theorem spanT_ok : ∀ {n lo k : Nat} {as : AT} {ts : List T} {a : A}, γt ns as ts → spanT as lo n = some a → lo ≤ k → k ≤ lo + n → ∃ t, ts[k]? = some t ∧ γ ns a t
  | 0, lo, k, as, ts, a, h, e, h1, h2 => by
    have : k = lo := by omega
    subst this
    exact nthT_ok h e
  | n + 1, lo, k, as, ts, a, h, e, h1, h2 => by
    obtain ⟨x, y, e1, e2, rfl⟩ := joinO_some e
    by_cases hk : k = lo
    · subst hk
      obtain ⟨t, ht, g⟩ := nthT_ok h e1
      exact ⟨t, ht, join_l g⟩
    · obtain ⟨t, ht, g⟩ := spanT_ok (lo := lo + 1) (k := k) h e2 (by omega) (by omega)
      exact ⟨t, ht, join_r g⟩
theorem atI_in {α : Type} {xs : List α} {i : Int} (h1 : -(xs.length : Int) ≤ i) (h2 : i < xs.length) : ∃ x, x ∈ xs ∧ atI xs i = some x := by
  unfold atI
  by_cases h : 0 ≤ i
  · rw [if_pos h]
    have : i.toNat < xs.length := by omega
    exact ⟨xs[i.toNat], List.getElem_mem this, List.getElem?_eq_getElem this⟩
  · rw [if_neg h, if_pos h1]
    have : (i + xs.length).toNat < xs.length := by omega
    exact ⟨xs[(i + xs.length).toNat], List.getElem_mem this, List.getElem?_eq_getElem this⟩
def aIdx1 : A → A → Option A
  | .lst lo _ a, .int c d => if -(lo : Int) ≤ c ∧ d < lo then some a else none
  | .str lo _, .int c d => if -(lo : Int) ≤ c ∧ d < lo then some (.str 1 1) else none
  | .tup as, .int c d => if 0 ≤ c ∧ c ≤ d ∧ d < 1000 then spanT as c.toNat (d - c).toNat else if c = d ∧ c < 0 ∧ -(lenT as : Int) ≤ c then nthT as (c + lenT as).toNat else none
  | _, _ => none
theorem aIdx1_ok : Snd2 ns aIdx1 idxT := by
  intro x y c t t' e h h'
  cases x <;> cases y <;> simp only [aIdx1, reduceCtorEq, Option.ite_none_right_eq_some, Option.some.injEq] at e
  case lst.int =>
    obtain ⟨hz, rfl⟩ := e
    obtain ⟨xs, rfl, h1, h2, h3⟩ := h
    obtain ⟨i, rfl, h4, h5⟩ := h'
    obtain ⟨z, hz1, hz2⟩ := atI_in (xs := xs) (i := i) (by omega) (by omega)
    exact ⟨z, hz2, h3 z hz1⟩
  case str.int =>
    obtain ⟨hz, rfl⟩ := e
    obtain ⟨xs, rfl, h1, h2⟩ := h
    obtain ⟨i, rfl, h4, h5⟩ := h'
    obtain ⟨z, hz1, hz2⟩ := atI_in (xs := xs) (i := i) (by omega) (by omega)
    exact ⟨.str [z], by simp only [idxT, hz2, Option.map_some], [z], rfl, Nat.le_refl _, Nat.le_refl _⟩
  case tup.int as c0 d0 =>
    obtain ⟨xs, rfl, h1⟩ := h
    obtain ⟨i, rfl, h4, h5⟩ := h'
    split at e
    · obtain ⟨w, w1, w2⟩ := spanT_ok (k := i.toNat) h1 e (by omega) (by omega)
      refine ⟨w, ?_, w2⟩
      simp only [idxT, atI]
      rw [if_pos (by omega)]
      exact w1
    · split at e
      · have hl := γt_len h1
        obtain ⟨w, w1, w2⟩ := nthT_ok h1 e
        refine ⟨w, ?_, w2⟩
        simp only [idxT, atI]
        rw [if_neg (by omega), if_pos (by omega), hl]
        have : i = c0 := by omega
        rw [this]
        exact w1
      · cases e
def takeT : Nat → AT → AT
  | 0, _ => .nil
  | _, .nil => .nil
  | n + 1, .cons a as => .cons a (takeT n as)
def dropT : Nat → AT → AT
  | 0, as => as
  | _, .nil => .nil
  | n + 1, .cons _ as => dropT n as
theorem takeT_ok : ∀ {n : Nat} {as : AT} {ts : List T}, γt ns as ts → γt ns (takeT n as) (ts.take n)
  | 0, as, ts, h => by cases as <;> simp [takeT, γt]
  | n + 1, .nil, ts, h => by
    cases (show ts = [] from h)
    simp [takeT, γt]
  | n + 1, .cons a as, ts, h => by
    obtain ⟨t, r, rfl, h1, h2⟩ := h
    exact ⟨t, r.take n, rfl, h1, takeT_ok h2⟩
theorem dropT_ok : ∀ {n : Nat} {as : AT} {ts : List T}, γt ns as ts → γt ns (dropT n as) (ts.drop n)
  | 0, as, ts, h => by cases as <;> exact h
  | n + 1, .nil, ts, h => by
    cases (show ts = [] from h)
    simp [dropT, γt]
  | n + 1, .cons a as, ts, h => by
    obtain ⟨t, r, rfl, h1, h2⟩ := h
    exact dropT_ok (n := n) (ts := r) h2
/-- tuples cut to lo .. lo + n -/
def takeS (as : AT) (lo : Nat) : Nat → A
  | 0 => .tup (takeT lo as)
  | n + 1 => join (.tup (takeT lo as)) (takeS as (lo + 1) n)
theorem takeS_ok : ∀ {n lo k : Nat} {as : AT} {ts : List T}, γt ns as ts → lo ≤ k → k ≤ lo + n → γ ns (takeS as lo n) (.tup (ts.take k))
  | 0, lo, k, as, ts, h, h1, h2 => by
    have : k = lo := by omega
    subst this
    exact ⟨_, rfl, takeT_ok h⟩
  | n + 1, lo, k, as, ts, h, h1, h2 => by
    by_cases hk : k = lo
    · subst hk
      exact join_l ⟨_, rfl, takeT_ok h⟩
    · exact join_r (takeS_ok (lo := lo + 1) (k := k) h (by omega) (by omega))
theorem cut_len' {α : Type} (x : List α) (lo hi : Option Int) : (cut x lo hi).length ≤ x.length := by
  unfold cut
  rw [List.length_take, List.length_drop]
  omega
theorem cut_mem {α : Type} {x : List α} {lo hi : Option Int} {a : α} (h : a ∈ cut x lo hi) : a ∈ x := List.mem_of_mem_drop (List.mem_of_mem_take h)
theorem cut_hi {α : Type} (x : List α) (lo : Option Int) {j : Int} (h : 0 ≤ j) : (cut x lo (some j)).length ≤ j.toNat := by
  unfold cut
  have : cut1 x.length x.length (some j) ≤ j.toNat := by
    simp only [cut1]
    rw [if_neg (by omega)]
    omega
  rw [List.length_take]
  omega
theorem cut_lo {α : Type} (x : List α) {j : Int} (h : 0 ≤ j) : (cut x (some j) none).length = x.length - j.toNat := by
  unfold cut
  simp only [cut1]
  rw [if_neg (by omega), List.length_take, List.length_drop]
  omega
def aCutR1 : A → A → Option A
  | .lst _ hi a, .int c d => some (.lst 0 (if 0 ≤ c then min hi d.toNat else hi) a)
  | .str _ hi, .int c d => some (.str 0 (if 0 ≤ c then min hi d.toNat else hi))
  | .tup as, .int c d => if 0 ≤ c ∧ c ≤ d ∧ d < 20 then some (takeS as c.toNat (d - c).toNat) else none
  | _, _ => none
def cutRT (t k : T) : Option T := match k with
  | .int i => cutT none (some i) t
  | _ => none
def cutLT (t k : T) : Option T := match k with
  | .int i => cutT (some i) none t
  | _ => none
theorem aCutR1_ok : Snd2 ns aCutR1 cutRT := by
  intro x y c t t' e h h'
  cases x <;> cases y <;> simp only [aCutR1, reduceCtorEq, Option.ite_none_right_eq_some, Option.some.injEq] at e
  case lst.int =>
    subst e
    obtain ⟨xs, rfl, h1, h2, h3⟩ := h
    obtain ⟨i, rfl, h4, h5⟩ := h'
    refine ⟨_, rfl, _, rfl, Nat.zero_le _, ?_, fun z hz => h3 z (cut_mem hz)⟩
    have k1 := cut_len' xs none (some i)
    split
    · have k2 := cut_hi xs none (j := i) (by omega)
      omega
    · omega
  case str.int =>
    subst e
    obtain ⟨xs, rfl, h1, h2⟩ := h
    obtain ⟨i, rfl, h4, h5⟩ := h'
    refine ⟨_, rfl, _, rfl, Nat.zero_le _, ?_⟩
    have k1 := cut_len' xs none (some i)
    split
    · have k2 := cut_hi xs none (j := i) (by omega)
      omega
    · omega
  case tup.int =>
    obtain ⟨hz, rfl⟩ := e
    obtain ⟨xs, rfl, h1⟩ := h
    obtain ⟨i, rfl, h4, h5⟩ := h'
    refine ⟨_, rfl, ?_⟩
    have : cut xs none (some i) = xs.take i.toNat := by
      unfold cut
      simp only [cut1]
      rw [if_neg (by omega), List.drop_zero, Nat.sub_zero]
      by_cases hk : i.toNat ≤ xs.length
      · rw [Nat.min_eq_left hk]
      · rw [Nat.min_eq_right (by omega), List.take_length, List.take_of_length_le (by omega)]
    rw [this]
    exact takeS_ok h1 (by omega) (by omega)
def aCutL1 : A → A → Option A
  | .lst lo hi a, .int c d => if 0 ≤ c then some (.lst (lo - d.toNat) (hi - c.toNat) a) else some (.lst 0 hi a)
  | .str lo hi, .int c d => if 0 ≤ c then some (.str (lo - d.toNat) (hi - c.toNat)) else some (.str 0 hi)
  | .tup as, .int c d => if 0 ≤ c ∧ c = d then some (.tup (dropT c.toNat as)) else none
  | _, _ => none
theorem aCutL1_ok : Snd2 ns aCutL1 cutLT := by
  intro x y c t t' e h h'
  cases x <;> cases y <;> simp only [aCutL1, reduceCtorEq, Option.ite_none_right_eq_some, Option.some.injEq] at e
  case lst.int =>
    obtain ⟨xs, rfl, h1, h2, h3⟩ := h
    obtain ⟨i, rfl, h4, h5⟩ := h'
    refine ⟨_, rfl, ?_⟩
    split at e
    · cases e
      have k := cut_lo xs (j := i) (by omega)
      exact ⟨_, rfl, by omega, by omega, fun z hz => h3 z (cut_mem hz)⟩
    · cases e
      have k := cut_len' xs (some i) none
      exact ⟨_, rfl, by omega, by omega, fun z hz => h3 z (cut_mem hz)⟩
  case str.int =>
    obtain ⟨xs, rfl, h1, h2⟩ := h
    obtain ⟨i, rfl, h4, h5⟩ := h'
    refine ⟨_, rfl, ?_⟩
    split at e
    · cases e
      have k := cut_lo xs (j := i) (by omega)
      exact ⟨_, rfl, by omega, by omega⟩
    · cases e
      have k := cut_len' xs (some i) none
      exact ⟨_, rfl, by omega, by omega⟩
  case tup.int as c0 d0 =>
    obtain ⟨hz, rfl⟩ := e
    obtain ⟨xs, rfl, h1⟩ := h
    obtain ⟨i, rfl, h4, h5⟩ := h'
    refine ⟨_, rfl, ?_⟩
    have hi : i = c0 := by omega
    have : cut xs (some i) none = xs.drop i.toNat := by
      unfold cut
      simp only [cut1]
      rw [if_neg (by omega)]
      by_cases hk : i.toNat ≤ xs.length
      · rw [Nat.min_eq_left hk, List.take_of_length_le (by rw [List.length_drop]; exact Nat.le_refl _)]
      · rw [Nat.min_eq_right (by omega), List.drop_length, List.drop_of_length_le (by omega), List.take_nil]
    rw [this]
    subst hi
    exact ⟨_, rfl, dropT_ok h1⟩
end
end Cab

set_option linter.all false
set_option maxRecDepth 100000
namespace Cab
/-! Built-in functions over told data. -/
def intOnly : A → Bool
  | .bot => true
  | .or a b => intOnly a && intOnly b
  | .int _ _ => true
  | _ => false
def strOnly : A → Bool
  | .bot => true
  | .or a b => strOnly a && strOnly b
  | .str _ _ => true
  | _ => false
def blOnly : A → Bool
  | .bot => true
  | .or a b => blOnly a && blOnly b
  | .bl _ => true
  | _ => false
section
variable {ns : List Int}
theorem intOnly_ok : ∀ {a : A} {t : T}, intOnly a = true → γ ns a t → ∃ i, t = .int i := by
  intro a
  induction a using A.rec (motive_2 := fun _ => True) with
  | bot => intro t _ g; exact g.elim
  | or a b iha ihb =>
    intro t h g
    simp only [intOnly, Bool.and_eq_true] at h
    rcases g with g | g
    · exact iha h.1 g
    · exact ihb h.2 g
  | int lo hi => intro t _ ⟨i, e, _⟩; exact ⟨i, e⟩
  | nil => trivial
  | cons => trivial
  | _ => intro t h; simp [intOnly] at h
theorem strOnly_ok : ∀ {a : A} {t : T}, strOnly a = true → γ ns a t → ∃ i, t = .str i := by
  intro a
  induction a using A.rec (motive_2 := fun _ => True) with
  | bot => intro t _ g; exact g.elim
  | or a b iha ihb =>
    intro t h g
    simp only [strOnly, Bool.and_eq_true] at h
    rcases g with g | g
    · exact iha h.1 g
    · exact ihb h.2 g
  | str lo hi => intro t _ ⟨i, e, _⟩; exact ⟨i, e⟩
  | nil => trivial
  | cons => trivial
  | _ => intro t h; simp [strOnly] at h
theorem blOnly_ok : ∀ {a : A} {t : T}, blOnly a = true → γ ns a t → ∃ i, t = .bl i := by
  intro a
  induction a using A.rec (motive_2 := fun _ => True) with
  | bot => intro t _ g; exact g.elim
  | or a b iha ihb =>
    intro t h g
    simp only [blOnly, Bool.and_eq_true] at h
    rcases g with g | g
    · exact iha h.1 g
    · exact ihb h.2 g
  | bl b => intro t _ g; exact ⟨b, g⟩
  | nil => trivial
  | cons => trivial
  | _ => intro t h; simp [blOnly] at h
theorem all_of {α : Type} {f : T → Option α} {g : α → T} (hf : ∀ a, f (g a) = some a) : ∀ {xs : List T}, (∀ x ∈ xs, ∃ a, x = g a) → ∃ as : List α, optAll f xs = some as ∧ xs = as.map g
  | [], _ => ⟨[], rfl, rfl⟩
  | x :: xs, h => by
    obtain ⟨a, rfl⟩ := h x List.mem_cons_self
    obtain ⟨as, e1, rfl⟩ := all_of hf fun y hy => h y (List.mem_cons_of_mem _ hy)
    exact ⟨a :: as, by simp only [optAll, hf, e1], rfl⟩
theorem allInt_ok {xs : List T} (h : ∀ x ∈ xs, ∃ i, x = .int i) : ∃ is, allInt xs = some is ∧ xs = is.map .int := all_of (f := fun t => match t with
    | .int i => some i
    | _ => none) (g := T.int) (fun _ => rfl) h
theorem allStr_ok {xs : List T} (h : ∀ x ∈ xs, ∃ i, x = .str i) : ∃ is, allStr xs = some is ∧ xs = is.map .str := all_of (f := fun t => match t with
    | .str i => some i
    | _ => none) (g := T.str) (fun _ => rfl) h
theorem allBl_ok {xs : List T} (h : ∀ x ∈ xs, ∃ i, x = .bl i) : ∃ is, allBl xs = some is ∧ xs = is.map .bl := all_of (f := fun t => match t with
    | .bl i => some i
    | _ => none) (g := T.bl) (fun _ => rfl) h
theorem sortT_ok {xs : List T} (h : (∀ x ∈ xs, ∃ i, x = .int i) ∨ ∀ x ∈ xs, ∃ i, x = .str i) : ∃ ys, sortT xs = some ys ∧ ys.length = xs.length ∧ ∀ y ∈ ys, y ∈ xs := by
  rcases h with h | h
  · obtain ⟨is, e, rfl⟩ := allInt_ok h
    refine ⟨(is.mergeSort fun a b => decide (a ≤ b)).map .int, by simp only [sortT, e], by simp [List.length_mergeSort], fun y hy => ?_⟩
    obtain ⟨i, hi, rfl⟩ := List.mem_map.mp hy
    exact List.mem_map.mpr ⟨i, (List.mergeSort_perm _ _).mem_iff.mp hi, rfl⟩
  · cases ei : allInt xs with
    | some is =>
      refine ⟨(is.mergeSort fun a b => decide (a ≤ b)).map .int, by simp only [sortT, ei], ?_, fun y hy => ?_⟩
      · have : ∀ {xs : List T} {is : List Int}, allInt xs = some is → xs = is.map .int := by
          intro xs
          induction xs with
          | nil => intro is e; cases e; rfl
          | cons x xs ih =>
            intro is e
            cases x <;> simp only [allInt, optAll, reduceCtorEq] at e
            cases e2 : allInt xs with
            | none => simp only [allInt] at e2; rw [e2] at e; cases e
            | some js =>
              have e3 := e2
              simp only [allInt] at e2
              rw [e2] at e
              cases e
              rw [ih e3]
              rfl
        have := this ei
        subst this
        simp [List.length_mergeSort]
      · cases xs with
        | nil => cases ei; simp at hy
        | cons x xs =>
          obtain ⟨i, rfl⟩ := h x List.mem_cons_self
          simp only [allInt, optAll] at ei
          cases ei
    | none =>
      obtain ⟨is, e, rfl⟩ := allStr_ok h
      refine ⟨(is.mergeSort strLe).map .str, by simp only [sortT, ei, e], by simp [List.length_mergeSort], fun y hy => ?_⟩
      obtain ⟨i, hi, rfl⟩ := List.mem_map.mp hy
      exact List.mem_map.mpr ⟨i, (List.mergeSort_perm _ _).mem_iff.mp hi, rfl⟩
/-! ### dicts that are built -/
theorem kput_keys {α : Type} {k : Ky} {a : α} : ∀ {l : List (Ky × α)} {x : Ky}, x ∈ (kput k a l).map (·.1) ↔ x = k ∨ x ∈ l.map (·.1)
  | [], x => by simp [kput]
  | p :: r, x => by
    unfold kput
    split
    · rename_i h
      subst h
      simp
    · rw [List.map_cons, List.mem_cons, kput_keys, List.map_cons, List.mem_cons]
      constructor
      · rintro (h | h | h)
        · exact .inr (.inl h)
        · exact .inl h
        · exact .inr (.inr h)
      · rintro (h | h | h)
        · exact .inr (.inl h)
        · exact .inl h
        · exact .inr (.inr h)
theorem kput_nd {α : Type} {k : Ky} {a : α} : ∀ {l : List (Ky × α)}, (l.map (·.1)).Nodup → ((kput k a l).map (·.1)).Nodup
  | [], _ => by simp [kput]
  | p :: r, h => by
    have h' : p.1 ∉ r.map (·.1) ∧ (r.map (·.1)).Nodup := List.nodup_cons.mp h
    unfold kput
    split
    · rename_i e
      subst e
      exact h
    · rename_i e
      refine List.nodup_cons.mpr ⟨fun z => ?_, kput_nd h'.2⟩
      rcases kput_keys.mp z with z | z
      · exact e z
      · exact h'.1 z
theorem kput_mem {α : Type} {k : Ky} {a : α} : ∀ {l : List (Ky × α)} {p : Ky × α}, p ∈ kput k a l → p = (k, a) ∨ p ∈ l
  | [], p, h => by
    simp [kput] at h
    exact .inl h
  | q :: r, p, h => by
    unfold kput at h
    split at h
    · rcases List.mem_cons.mp h with h | h
      · exact .inl h
      · exact .inr (List.mem_cons_of_mem _ h)
    · rcases List.mem_cons.mp h with h | h
      · exact .inr (h ▸ List.mem_cons_self)
      · rcases kput_mem h with h | h
        · exact .inl h
        · exact .inr (List.mem_cons_of_mem _ h)
theorem kput_len {α : Type} {k : Ky} {a : α} : ∀ {l : List (Ky × α)}, l.length ≤ (kput k a l).length ∧ (kput k a l).length ≤ l.length + 1 ∧ 1 ≤ (kput k a l).length
  | [] => by simp [kput]
  | q :: r => by
    unfold kput
    have ih := kput_len (k := k) (a := a) (l := r)
    split <;> simp only [List.length_cons] <;> omega
theorem merge_ok {α : Type} {P : Ky × α → Prop} : ∀ {ps acc : List (Ky × α)}, (acc.map (·.1)).Nodup → (∀ p ∈ acc, P p) → (∀ p ∈ ps, P p) → ((merge acc ps).map (·.1)).Nodup ∧ (∀ p ∈ merge acc ps, P p) ∧ acc.length ≤ (merge acc ps).length ∧ (merge acc ps).length ≤ acc.length + ps.length ∧ (ps ≠ [] → 1 ≤ (merge acc ps).length)
  | [], acc, h1, h2, _ => ⟨h1, h2, Nat.le_refl _, by simp [merge], fun h => absurd rfl h⟩
  | (k, a) :: ps, acc, h1, h2, h3 => by
    have hl := kput_len (k := k) (a := a) (l := acc)
    obtain ⟨r1, r2, r3, r4, r5⟩ := merge_ok (P := P) (ps := ps) (acc := kput k a acc) (kput_nd h1) (fun p hp => (kput_mem hp).elim (fun e => e ▸ h3 _ List.mem_cons_self) (h2 p)) fun p hp => h3 p (List.mem_cons_of_mem _ hp)
    simp only [merge, List.length_cons]
    refine ⟨r1, r2, ?_, ?_, fun _ => ?_⟩ <;> omega
/-! ### the functions -/
def joinT : AT → A
  | .nil => .bot
  | .cons a as => join a (joinT as)
theorem joinT_ok : ∀ {as : AT} {ts : List T}, γt ns as ts → ∀ t ∈ ts, γ ns (joinT as) t
  | .nil, ts, h, t, ht => by
    cases (show ts = [] from h)
    cases ht
  | .cons a as, ts, h, t, ht => by
    obtain ⟨u, r, rfl, h1, h2⟩ := h
    rcases List.mem_cons.mp ht with e | ht
    · rw [e]
      exact join_l h1
    · exact join_r (joinT_ok h2 t ht)
def repT (a : A) : Nat → AT
  | 0 => .nil
  | n + 1 => .cons a (repT a n)
theorem repT_ok {a : A} : ∀ {n : Nat} {ts : List T}, ts.length = n → (∀ t ∈ ts, γ ns a t) → γt ns (repT a n) ts
  | 0, ts, h, _ => List.eq_nil_of_length_eq_zero h
  | n + 1, ts, h, g => by
    cases ts with
    | nil => cases h
    | cons t r => exact ⟨t, r, rfl, g t List.mem_cons_self, repT_ok (Nat.succ.inj h) fun u hu => g u (List.mem_cons_of_mem _ hu)⟩
/-- signs of a whole number's text -/
def decLen (m : Nat) : Nat := if m < 1000 then 3 else if m < 10 ^ 6 then 6 else if m < 10 ^ 13 then 13 else if m < 10 ^ 40 then 40 else if m < 10 ^ 200 then 200 else 0
theorem decLen_ok {m n : Nat} (h : decLen m ≠ 0) (hn : n ≤ m) : (digits n).length ≤ decLen m ∧ n.log2 < 1920 ∧ 1 ≤ (digits n).length := by
  have key : ∀ k : Nat, 0 < k → k ≤ 200 → n < 10 ^ k → (digits n).length ≤ k ∧ n.log2 < 1920 ∧ 1 ≤ (digits n).length := by
    intro k h0 h1 h2
    refine ⟨?_, ?_, ?_⟩
    · unfold digits
      rw [List.length_map]
      exact (Nat.length_toDigits_le_iff (by decide) h0).mpr h2
    · by_cases hz : n = 0
      · subst hz
        decide
      · refine (Nat.log2_lt hz).mpr (Nat.lt_of_lt_of_le h2 ?_)
        refine Nat.le_trans (Nat.pow_le_pow_right (by decide) h1) ?_
        decide +kernel
    · unfold digits
      rw [List.length_map]
      exact Nat.length_toDigits_pos
  unfold decLen at *
  split
  · exact key 3 (by decide) (by decide) (by omega)
  · split
    · exact key 6 (by decide) (by decide) (by omega)
    · split
      · exact key 13 (by decide) (by decide) (by omega)
      · split
        · exact key 40 (by decide) (by decide) (by omega)
        · split
          · exact key 200 (by decide) (by decide) (by omega)
          · rename_i h1 h2 h3 h4 h5
            simp [h1, h2, h3, h4, h5] at h
def aPrm1 (p : Prm) (x : A) : Option A := match p, x with
  | .len, x => aLen1 x
  | .abs, .int a b => some (.int 0 (mx (-a) b))
  | .int, .int a b => some (.int a b)
  | .int, .bl b => some (.int (b2i b) (b2i b))
  | .str, .int a b => if decLen a.natAbs ≠ 0 ∧ decLen b.natAbs ≠ 0 then some (.str 1 (max (decLen a.natAbs) (decLen b.natAbs) + 1)) else none
  | .list, .lst lo hi a => some (.lst lo hi a)
  | .list, .tup as => some (.lst (lenT as) (lenT as) (joinT as))
  | .list, .dct true lo hi _ => some (.lst lo hi (.str 0 KW))
  | .tuple, .tup as => some (.tup as)
  | .tuple, .lst lo hi a => if lo = hi ∧ hi < 20 then some (.tup (repT a lo)) else none
  | .sorted, .lst lo hi a => if hi < 64 ∧ (intOnly a || strOnly a) then some (.lst lo hi a) else none
  | .sorted, .dct true lo hi _ => if hi < 64 then some (.lst lo hi (.str 0 KW)) else none
  | .dict, .lst lo hi (.tup (.cons (.str _ h) (.cons v .nil))) => if h ≤ KW then some (.dct true (min lo 1) hi v) else none
  | .dict, .lst _ 0 _ => some (.dct true 0 0 .bot)
  | .values, .dct _ lo hi a => some (.lst lo hi a)
  | .all, .lst _ _ a => if blOnly a then some (aB true true) else none
  | .any, .lst _ _ a => if blOnly a then some (aB true true) else none
  | .sum, .lst _ hi (.int c d) => some (.int (hi * mn c 0) (hi * mx d 0))
  | _, _ => none
def aPrm2 (p : Prm) (x y : A) : Option A := match p, x, y with
  | .min, .int a b, .int c d => some (.int (mn a c) (mn b d))
  | .max, .int a b, .int c d => some (.int (mx a c) (mx b d))
  | .maxd, .lst _ _ (.int a b), .int c d => some (.int (mn a c) (mx b d))
  | .mind, .lst _ _ (.int a b), .int c d => some (.int (mn a c) (mx b d))
  | .maxd, .lst _ 0 _, .int c d => some (.int c d)
  | .mind, .lst _ 0 _, .int c d => some (.int c d)
  | .join, .str _ b, .lst _ hi a => (match a with
    | .str _ d => if hi * d + hi * b ≤ LIM then some (.str 0 (hi * d + hi * b)) else none
    | _ => if hi = 0 then some (.str 0 0) else none)
  | .get1, .dct _ _ _ a, k => if keyA k then some (join .non a) else none
  | _, _, _ => none
theorem sum_box {c d : Int} : ∀ {is : List Int}, (∀ i ∈ is, c ≤ i ∧ i ≤ d) → (is.length : Int) * mn c 0 ≤ is.sum ∧ is.sum ≤ (is.length : Int) * mx d 0
  | [], _ => by simp
  | i :: is, h => by
    obtain ⟨h1, h2⟩ := sum_box (is := is) fun j hj => h j (List.mem_cons_of_mem _ hj)
    have h3 := h i List.mem_cons_self
    have h4 := mn_l c 0
    have h5 := mx_l d 0
    simp only [List.length_cons, List.sum_cons, Int.natCast_succ, Int.add_mul, Int.one_mul]
    omega
theorem fold_mx {c d : Int} : ∀ {is : List Int} {a : Int}, c ≤ a → a ≤ d → (∀ i ∈ is, c ≤ i ∧ i ≤ d) → c ≤ is.foldl (fun a y => if a < y then y else a) a ∧ is.foldl (fun a y => if a < y then y else a) a ≤ d
  | [], a, h1, h2, _ => ⟨h1, h2⟩
  | i :: is, a, h1, h2, h => by
    have h3 := h i List.mem_cons_self
    exact fold_mx (is := is) (by simp only; split <;> omega) (by simp only; split <;> omega) fun j hj => h j (List.mem_cons_of_mem _ hj)
theorem fold_mn {c d : Int} : ∀ {is : List Int} {a : Int}, c ≤ a → a ≤ d → (∀ i ∈ is, c ≤ i ∧ i ≤ d) → c ≤ is.foldl (fun a y => if y < a then y else a) a ∧ is.foldl (fun a y => if y < a then y else a) a ≤ d
  | [], a, h1, h2, _ => ⟨h1, h2⟩
  | i :: is, a, h1, h2, h => by
    have h3 := h i List.mem_cons_self
    exact fold_mn (is := is) (by simp only; split <;> omega) (by simp only; split <;> omega) fun j hj => h j (List.mem_cons_of_mem _ hj)
theorem ints_in {is : List Int} {a b : Int} (h : ∀ x ∈ is.map T.int, γ ns (.int a b) x) : ∀ i ∈ is, a ≤ i ∧ i ≤ b := fun i hi => by
  obtain ⟨j, e, h1, h2⟩ := h (.int i) (List.mem_map.mpr ⟨i, hi, rfl⟩)
  cases e
  exact ⟨h1, h2⟩
def prmT1 (p : Prm) (t : T) : Option T := primT p [t]
def prmT2 (p : Prm) (t t' : T) : Option T := primT p [t, t']
theorem keys_strA {s : Bool} {a : A} {kvs : List (Ky × T)} (hs : s = true) (h : ∀ p ∈ kvs, KeyIn s p.1 ∧ γ ns a p.2) : ∀ x ∈ kvs.map (fun p => kyT p.1), γ ns (.str 0 KW) x := by
  intro x hx
  obtain ⟨p, hp, rfl⟩ := List.mem_map.mp hx
  have := (h p hp).1
  cases ek : p.1 with
  | i n =>
    rw [ek] at this
    rw [show s = false from this] at hs
    cases hs
  | s y =>
    rw [ek] at this
    exact ⟨y, rfl, Nat.zero_le _, this⟩
theorem aPrm1_ok (p : Prm) : Snd1 ns (aPrm1 p) (prmT1 p) := by
  intro x c t e h
  unfold aPrm1 at e
  split at e
  · obtain ⟨w, w1, w2⟩ := aLen1_ok _ _ _ e h
    refine ⟨w, ?_, w2⟩
    cases t <;> simp only [lenTT, lenU, Option.map_none, reduceCtorEq, Option.map_eq_some_iff] at w1
    · obtain ⟨n, h1, rfl⟩ := w1
      simp only [Option.ite_none_right_eq_some, Option.some.injEq] at h1
      obtain ⟨h1, rfl⟩ := h1
      simp only [prmT1, primT]
      rw [if_pos h1]
    · obtain ⟨n, h1, rfl⟩ := w1
      cases h1
      rfl
    · obtain ⟨n, h1, rfl⟩ := w1
      cases h1
      rfl
    · obtain ⟨n, h1, rfl⟩ := w1
      cases h1
      rfl
  · cases e
    obtain ⟨i, rfl, h1, h2⟩ := h
    refine ⟨_, rfl, _, rfl, ?_, ?_⟩
    · split <;> omega
    · unfold mx
      split <;> split <;> omega
  · cases e
    obtain ⟨i, rfl, h1, h2⟩ := h
    exact ⟨_, rfl, _, rfl, h1, h2⟩
  · cases e
    cases (show t = _ from h)
    exact ⟨_, rfl, _, rfl, Int.le_refl _, Int.le_refl _⟩
  · split at e
    · rename_i a b hz
      cases e
      obtain ⟨i, rfl, h1, h2⟩ := h
      have hi : i.natAbs ≤ max a.natAbs b.natAbs := by omega
      have key : (digits i.natAbs).length ≤ max (decLen a.natAbs) (decLen b.natAbs) ∧ i.natAbs.log2 < 1920 ∧ 1 ≤ (digits i.natAbs).length := by
        rcases Nat.le_total a.natAbs b.natAbs with hl | hl
        · have := decLen_ok hz.2 (show i.natAbs ≤ b.natAbs by omega)
          exact ⟨by omega, this.2⟩
        · have := decLen_ok hz.1 (show i.natAbs ≤ a.natAbs by omega)
          exact ⟨by omega, this.2⟩
      refine ⟨.str (intText i), ?_, _, rfl, ?_, ?_⟩
      · simp only [prmT1, primT]
        rw [if_pos key.2.1]
      · unfold intText
        split
        · rw [List.length_cons]
          omega
        · exact key.2.2
      · unfold intText
        split
        · rw [List.length_cons]
          omega
        · omega
    · cases e
  · cases e
    obtain ⟨xs, rfl, h1, h2, h3⟩ := h
    exact ⟨_, rfl, xs, rfl, h1, h2, h3⟩
  · cases e
    obtain ⟨xs, rfl, h1⟩ := h
    have hl := γt_len h1
    exact ⟨_, rfl, xs, rfl, by omega, by omega, joinT_ok h1⟩
  · cases e
    obtain ⟨kvs, rfl, h1, h2, h3, h4⟩ := h
    exact ⟨_, rfl, _, rfl, by rw [List.length_map]; exact h1, by rw [List.length_map]; exact h2, keys_strA rfl h4⟩
  · cases e
    obtain ⟨xs, rfl, h1⟩ := h
    exact ⟨_, rfl, xs, rfl, h1⟩
  · split at e
    · rename_i hz
      cases e
      obtain ⟨xs, rfl, h1, h2, h3⟩ := h
      exact ⟨_, rfl, xs, rfl, repT_ok (by omega) h3⟩
    · cases e
  · split at e
    · rename_i hz
      cases e
      obtain ⟨xs, rfl, h1, h2, h3⟩ := h
      have hk : (∀ x ∈ xs, ∃ i, x = .int i) ∨ ∀ x ∈ xs, ∃ i, x = .str i := by
        rcases (Bool.or_eq_true _ _ ▸ hz.2 : _ ∨ _) with z | z
        · exact .inl fun x hx => intOnly_ok z (h3 x hx)
        · exact .inr fun x hx => strOnly_ok z (h3 x hx)
      obtain ⟨ys, e1, e2, e3⟩ := sortT_ok hk
      refine ⟨.lst ys, ?_, ys, rfl, by omega, by omega, fun y hy => h3 y (e3 y hy)⟩
      simp only [prmT1, primT]
      rw [if_pos (by omega), e1]
      rfl
    · cases e
  · split at e
    · rename_i hz
      cases e
      obtain ⟨kvs, rfl, h1, h2, h3, h4⟩ := h
      have hk := keys_strA rfl h4
      obtain ⟨ys, e1, e2, e3⟩ := sortT_ok (xs := kvs.map fun p => kyT p.1) (.inr fun x hx => by
        obtain ⟨y, e, _⟩ := hk x hx
        exact ⟨y, e⟩)
      rw [List.length_map] at e2
      refine ⟨.lst ys, ?_, ys, rfl, by omega, by omega, fun y hy => hk y (e3 y hy)⟩
      simp only [prmT1, primT]
      rw [if_pos (by omega), e1]
      rfl
    · cases e
  · split at e
    · rename_i lo hi l hh v hz
      cases e
      obtain ⟨xs, rfl, h1, h2, h3⟩ := h
      have : ∃ ps : List (Ky × T), allPair xs = some ps ∧ ps.length = xs.length ∧ ∀ p ∈ ps, KeyIn true p.1 ∧ γ ns v p.2 := by
        clear h1 h2
        induction xs with
        | nil => exact ⟨[], rfl, rfl, fun p hp => by cases hp⟩
        | cons x xs ih =>
          obtain ⟨ps, e1, e2, e3⟩ := ih fun y hy => h3 y (List.mem_cons_of_mem _ hy)
          obtain ⟨ts, rfl, g⟩ := h3 x List.mem_cons_self
          obtain ⟨k, r, rfl, g1, g2⟩ := g
          obtain ⟨w, r2, rfl, g3, g4⟩ := g2
          cases (show r2 = [] from g4)
          obtain ⟨y, rfl, g5, g6⟩ := g1
          refine ⟨(.s y, w) :: ps, ?_, by simp [e2], fun p hp => ?_⟩
          · unfold allPair at e1 ⊢
            rw [optAll]
            simp only [e1]
            rfl
          · rcases List.mem_cons.mp hp with hp | hp
            · rw [hp]
              exact ⟨by show y.length ≤ KW; omega, g3⟩
            · exact e3 p hp
      obtain ⟨ps, e1, e2, e3⟩ := this
      obtain ⟨r1, r2, r3, r4, r5⟩ := merge_ok (P := fun p => KeyIn true p.1 ∧ γ ns v p.2) (ps := ps) (acc := []) List.nodup_nil (fun p hp => by cases hp) e3
      refine ⟨.dct (merge [] ps), by simp only [prmT1, primT, e1, Option.map_some], _, rfl, ?_, ?_, r1, r2⟩
      · by_cases hp : ps = []
        · subst hp
          simp at e2
          omega
        · have := r5 hp
          omega
      · simp at r4
        omega
    · cases e
  · cases e
    obtain ⟨xs, rfl, h1, h2, h3⟩ := h
    have : xs = [] := List.eq_nil_of_length_eq_zero (by omega)
    subst this
    exact ⟨.dct [], rfl, [], rfl, Nat.zero_le _, Nat.le_refl _, List.nodup_nil, fun p hp => by cases hp⟩
  · cases e
    obtain ⟨kvs, rfl, h1, h2, h3, h4⟩ := h
    refine ⟨_, rfl, _, rfl, by rw [List.length_map]; exact h1, by rw [List.length_map]; exact h2, fun x hx => ?_⟩
    obtain ⟨p, hp, rfl⟩ := List.mem_map.mp hx
    exact (h4 p hp).2
  · split at e
    · rename_i hz
      cases e
      obtain ⟨xs, rfl, h1, h2, h3⟩ := h
      obtain ⟨is, e1, _⟩ := allBl_ok fun x hx => blOnly_ok hz (h3 x hx)
      exact ⟨.bl (is.all id), by simp only [prmT1, primT, e1, Option.map_some], aB_ok (fun _ => rfl) fun _ => rfl⟩
    · cases e
  · split at e
    · rename_i hz
      cases e
      obtain ⟨xs, rfl, h1, h2, h3⟩ := h
      obtain ⟨is, e1, _⟩ := allBl_ok fun x hx => blOnly_ok hz (h3 x hx)
      exact ⟨.bl (is.any id), by simp only [prmT1, primT, e1, Option.map_some], aB_ok (fun _ => rfl) fun _ => rfl⟩
    · cases e
  · rename_i lo hi cc dd
    cases e
    obtain ⟨xs, rfl, h1, h2, h3⟩ := h
    obtain ⟨is, e1, rfl⟩ := allInt_ok fun x hx => intOnly_ok (a := .int cc dd) rfl (h3 x hx)
    have hb := sum_box (ints_in h3)
    rw [List.length_map] at h1 h2
    refine ⟨.int is.sum, by simp only [prmT1, primT, e1, Option.map_some], _, rfl, Int.le_trans ?_ hb.1, Int.le_trans hb.2 ?_⟩
    · exact Int.mul_le_mul_of_nonpos_right (by omega) (mn_r _ _)
    · exact Int.mul_le_mul_of_nonneg_right (by omega) (mx_r _ _)
  · cases e
theorem aPrm2_ok (p : Prm) : Snd2 ns (aPrm2 p) (prmT2 p) := by
  intro x y c t t' e h h'
  unfold aPrm2 at e
  split at e
  · cases e
    obtain ⟨i, rfl, h1, h2⟩ := h
    obtain ⟨j, rfl, h3, h4⟩ := h'
    refine ⟨_, rfl, _, rfl, ?_, ?_⟩ <;> unfold mn <;> split <;> split <;> omega
  · cases e
    obtain ⟨i, rfl, h1, h2⟩ := h
    obtain ⟨j, rfl, h3, h4⟩ := h'
    refine ⟨_, rfl, _, rfl, ?_, ?_⟩ <;> unfold mx <;> split <;> split <;> omega
  · rename_i a b c d
    cases e
    obtain ⟨xs, rfl, h1, h2, h3⟩ := h
    obtain ⟨j, rfl, h4, h5⟩ := h'
    obtain ⟨is, e1, rfl⟩ := allInt_ok fun x hx => intOnly_ok (a := .int a b) rfl (h3 x hx)
    have hi := ints_in h3
    refine ⟨.int (maxL j is), by simp only [prmT2, primT, e1, Option.map_some], _, rfl, ?_⟩
    have k1 := mn_l a c
    have k2 := mn_r a c
    have k3 := mx_l b d
    have k4 := mx_r b d
    cases is with
    | nil => exact ⟨by simp only [maxL]; omega, by simp only [maxL]; omega⟩
    | cons i is =>
      have := fold_mx (c := a) (d := b) (is := is) (hi i List.mem_cons_self).1 (hi i List.mem_cons_self).2 fun j hj => hi j (List.mem_cons_of_mem _ hj)
      exact ⟨by simp only [maxL]; omega, by simp only [maxL]; omega⟩
  · rename_i a b c d
    cases e
    obtain ⟨xs, rfl, h1, h2, h3⟩ := h
    obtain ⟨j, rfl, h4, h5⟩ := h'
    obtain ⟨is, e1, rfl⟩ := allInt_ok fun x hx => intOnly_ok (a := .int a b) rfl (h3 x hx)
    have hi := ints_in h3
    refine ⟨.int (minL j is), by simp only [prmT2, primT, e1, Option.map_some], _, rfl, ?_⟩
    have k1 := mn_l a c
    have k2 := mn_r a c
    have k3 := mx_l b d
    have k4 := mx_r b d
    cases is with
    | nil => exact ⟨by simp only [minL]; omega, by simp only [minL]; omega⟩
    | cons i is =>
      have := fold_mn (c := a) (d := b) (is := is) (hi i List.mem_cons_self).1 (hi i List.mem_cons_self).2 fun j hj => hi j (List.mem_cons_of_mem _ hj)
      exact ⟨by simp only [minL]; omega, by simp only [minL]; omega⟩
  · cases e
    obtain ⟨xs, rfl, h1, h2, h3⟩ := h
    obtain ⟨j, rfl, h4, h5⟩ := h'
    have : xs = [] := List.eq_nil_of_length_eq_zero (by omega)
    subst this
    exact ⟨.int j, rfl, j, rfl, h4, h5⟩
  · cases e
    obtain ⟨xs, rfl, h1, h2, h3⟩ := h
    obtain ⟨j, rfl, h4, h5⟩ := h'
    have : xs = [] := List.eq_nil_of_length_eq_zero (by omega)
    subst this
    exact ⟨.int j, rfl, j, rfl, h4, h5⟩
  · obtain ⟨sp, rfl, k1, k2⟩ := h
    obtain ⟨xs, rfl, h1, h2, h3⟩ := h'
    split at e
    · rename_i b _ hi _ c0 d
      split at e
      · rename_i hz
        cases e
        obtain ⟨ss, e1, rfl⟩ := allStr_ok fun x hx => strOnly_ok (a := .str c0 d) rfl (h3 x hx)
        rw [List.length_map] at h1 h2
        have hs : (ss.map List.length).sum ≤ ss.length * d := by
          clear h1 h2 e1
          induction ss with
          | nil => simp
          | cons s ss ih =>
            have := ih fun x hx => h3 x (List.mem_cons_of_mem _ hx)
            obtain ⟨z, ez, _, g2⟩ := h3 (.str s) List.mem_cons_self
            cases ez
            simp only [List.map_cons, List.sum_cons, List.length_cons, Nat.succ_mul]
            omega
        have b1 : ss.length * d ≤ hi * d := Nat.mul_le_mul_right _ h2
        have b2 : ss.length * sp.length ≤ hi * b := Nat.mul_le_mul h2 k2
        have hl : (inter sp ss).length ≤ (ss.map List.length).sum + ss.length * sp.length := by
          clear h1 h2 h3 e1 hs b1 b2
          induction ss with
          | nil => simp [inter]
          | cons s ss ih =>
            cases ss with
            | nil => simp [inter]
            | cons s2 ss =>
              simp only [inter, List.length_append, List.map_cons, List.sum_cons, List.length_cons] at ih ⊢
              have : (ss.length + 1 + 1) * sp.length = (ss.length + 1) * sp.length + sp.length := by rw [Nat.succ_mul]
              omega
        refine ⟨.str (inter sp ss), ?_, _, rfl, Nat.zero_le _, by omega⟩
        simp only [prmT2, primT, e1, Option.bind_some]
        rw [if_pos (by omega)]
      · cases e
    · split at e
      · cases e
        have : xs = [] := List.eq_nil_of_length_eq_zero (by omega)
        subst this
        exact ⟨.str [], by simp [prmT2, primT, allStr, optAll, inter], [], rfl, Nat.le_refl _, Nat.le_refl _⟩
      · cases e
  · rename_i s lo hi a k
    split at e
    · rename_i hz
      cases e
      obtain ⟨kvs, rfl, h1, h2, h3, h4⟩ := h
      have hk : ∃ q, tKy t' = some q := by
        cases y <;> simp only [keyA, Bool.false_eq_true] at hz
        · obtain ⟨i, rfl, _⟩ := h'
          exact ⟨_, rfl⟩
        · obtain ⟨i, rfl, _⟩ := h'
          exact ⟨_, rfl⟩
      obtain ⟨q, hq⟩ := hk
      refine ⟨(kget q kvs).getD .non, by simp only [prmT2, primT, hq, Option.map_some], ?_⟩
      cases eg : kget q kvs with
      | none => exact join_l rfl
      | some w =>
        have : ∀ {l : List (Ky × T)}, kget q l = some w → ∃ r ∈ l, r.2 = w := by
          intro l
          induction l with
          | nil => intro h; cases h
          | cons r l ih =>
            intro h
            unfold kget at h
            split at h
            · cases h
              exact ⟨r, List.mem_cons_self, rfl⟩
            · obtain ⟨r', h1, h2⟩ := ih h
              exact ⟨r', List.mem_cons_of_mem _ h1, h2⟩
        obtain ⟨r, hr, rfl⟩ := this eg
        exact join_r (h4 r hr).2
    · cases e
  · cases e
end
end Cab

set_option linter.all false
set_option maxRecDepth 100000
namespace Cab
/-! Names and stores told by bounds; what a test tells of its names. -/
inductive AU where
  | v (a : A)
  | ref (k : Nat)
abbrev AEnv := List (Option AU)
/-- what names have to do with one another -/
inductive Fa where
  | ix (i v : Nat)
  | key (i v : Nat)
  | keys (s v : Nat)
  deriving DecidableEq
structure AS where
  env : AEnv
  fc : List Fa
  st : List A
  p : Nat
def map0 (g : A → A) : A → A
  | .bot => .bot
  | .or a b => (match map0 g a, map0 g b with
    | .bot, y => y
    | x, .bot => x
    | x, y => .or x y)
  | x => g x
def mapA (g : A → A) : A → A
  | .bot => .bot
  | .or a b => (match mapA g a, mapA g b with
    | .bot, y => y
    | x, .bot => x
    | x, y => .or x y)
  | .any d p => map0 g (exA d p)
  | x => g x
def updA (env : AEnv) (i : Nat) (g : A → A) : AEnv := match env[i]? with
  | some (some (.v a)) => env.set i (some (.v (mapA g a)))
  | _ => env
/-- bounds behind a comparing that held -/
def intR (op : Cop) (b : Bool) (k : Int) : A → A
  | .int lo hi =>
    let m (lo hi : Int) : A := if lo ≤ hi then .int lo hi else .bot
    (match op, b with
    | .lt, true => m lo (mn hi (k - 1))
    | .lt, false => m (mx lo k) hi
    | .le, true => m lo (mn hi k)
    | .le, false => m (mx lo (k + 1)) hi
    | .gt, true => m (mx lo (k + 1)) hi
    | .gt, false => m lo (mn hi k)
    | .ge, true => m (mx lo k) hi
    | .ge, false => m lo (mn hi (k - 1))
    | .eq, true => m (mx lo k) (mn hi k)
    | .ne, false => m (mx lo k) (mn hi k)
    | .eq, false => if lo = k then m (lo + 1) hi else if hi = k then m lo (hi - 1) else .int lo hi
    | .ne, true => if lo = k then m (lo + 1) hi else if hi = k then m lo (hi - 1) else .int lo hi
    | _, _ => .int lo hi)
  | x => x
/-- a row, a record: with something in it, or without -/
def emptR (full : Bool) : A → A
  | .lst lo hi a => if full then (if hi = 0 then .bot else .lst (max lo 1) hi a) else (if lo = 0 then .lst 0 0 .bot else .bot)
  | .dct s lo hi a => if full then (if hi = 0 then .bot else .dct s (max lo 1) hi a) else (if lo = 0 then .dct s 0 0 .bot else .bot)
  | x => x
def refine : E → Bool → AEnv → AEnv
  | .not c, b, env => refine c (!b) env
  | .and c d, true, env => refine d true (refine c true env)
  | .or c d, false, env => refine d false (refine c false env)
  | .isi (.var i) ks, b, env => updA env i fun x => if kA1 ks x = some (!b) then .bot else x
  | .cmp op (.var i) (.con (.int k)), b, env => updA env i (intR op b k)
  | .cmp .ne (.var i) (.lstd .nil), b, env => updA env i (emptR b)
  | .cmp .eq (.var i) (.lstd .nil), b, env => updA env i (emptR !b)
  | .cmp .ne (.var i) (.dctd [] .nil), b, env => updA env i (emptR b)
  | .cmp .eq (.var i) (.dctd [] .nil), b, env => updA env i (emptR !b)
  | .cmp .is (.var i) (.con .non), b, env => updA env i fun x => if isNonA x = some (!b) then .bot else x
  | .cmp .isn (.var i) (.con .non), b, env => updA env i fun x => if isNonA x = some b then .bot else x
  | _, _, env => env
def deadU : Option AU → Bool
  | some (.v .bot) => true
  | _ => false
def dead (env : AEnv) : Bool := env.any deadU
section
variable {ns : List Int}
theorem map0_ok {g : A → A} {t : T} (hg : ∀ x, γ ns x t → γ ns (g x) t) : ∀ {a : A}, γ ns a t → γ ns (map0 g a) t := by
  intro a
  induction a using A.rec (motive_2 := fun _ => True) with
  | bot => intro h; exact h.elim
  | or a b iha ihb =>
    intro h
    have key : γ ns (map0 g a) t ∨ γ ns (map0 g b) t := h.elim (fun h => .inl (iha h)) fun h => .inr (ihb h)
    simp only [map0]
    split
    · rename_i e
      rw [e] at key
      rcases key with k | k
      · exact k.elim
      · exact k
    · rename_i e _
      rw [e] at key
      rcases key with k | k
      · exact k
      · exact k.elim
    · exact key
  | nil => trivial
  | cons => trivial
  | _ => intro h; exact hg _ h
theorem mapA_ok {g : A → A} {t : T} (hg : ∀ x, γ ns x t → γ ns (g x) t) : ∀ {a : A}, γ ns a t → γ ns (mapA g a) t := by
  intro a
  induction a using A.rec (motive_2 := fun _ => True) with
  | bot => intro h; exact h.elim
  | or a b iha ihb =>
    intro h
    have key : γ ns (mapA g a) t ∨ γ ns (mapA g b) t := h.elim (fun h => .inl (iha h)) fun h => .inr (ihb h)
    simp only [mapA]
    split
    · rename_i e
      rw [e] at key
      rcases key with k | k
      · exact k.elim
      · exact k
    · rename_i e _
      rw [e] at key
      rcases key with k | k
      · exact k
      · exact k.elim
    · exact key
  | any d p => intro h; exact map0_ok hg (exA_ok h)
  | nil => trivial
  | cons => trivial
  | _ => intro h; exact hg _ h
/-- what data the names hold -/
def VOk (ns : List Int) (env : AEnv) (ρ : Env) : Prop := ∀ (i : Nat) (a : A), env[i]? = some (some (AU.v a)) → ∃ t : T, ρ[i]? = some (some (U.v t)) ∧ γ ns a t
def RefSame (env env' : AEnv) : Prop := env'.length = env.length ∧ ∀ (i k : Nat), env'[i]? = some (some (AU.ref k)) → env[i]? = some (some (AU.ref k))
theorem RefSame.refl {env : AEnv} : RefSame env env := ⟨rfl, fun _ _ h => h⟩
theorem RefSame.trans {a b c : AEnv} (h : RefSame a b) (k : RefSame b c) : RefSame a c := ⟨k.1.trans h.1, fun i j e => h.2 i j (k.2 i j e)⟩
theorem get_set {α : Type} {l : List α} {i j : Nat} {x y : α} (h : (l.set i x)[j]? = some y) : (i = j ∧ y = x) ∨ l[j]? = some y := by
  by_cases e : i = j
  · subst e
    by_cases hl : i < l.length
    · rw [List.getElem?_set_self hl] at h
      exact .inl ⟨rfl, (Option.some.inj h).symm⟩
    · rw [List.getElem?_eq_none (by rw [List.length_set]; omega)] at h
      cases h
  · rw [List.getElem?_set_ne e] at h
    exact .inr h
theorem updA_ok {env : AEnv} {ρ : Env} {i : Nat} {g : A → A} (h : VOk ns env ρ) (hg : ∀ x t, ρ[i]? = some (some (.v t)) → γ ns x t → γ ns (g x) t) : VOk ns (updA env i g) ρ ∧ RefSame env (updA env i g) := by
  unfold updA
  split
  · rename_i a e
    refine ⟨fun j b e2 => ?_, by rw [List.length_set], fun j k e2 => ?_⟩
    · rcases get_set e2 with ⟨rfl, e3⟩ | e3
      · cases e3
        obtain ⟨t, h1, h2⟩ := h _ _ e
        exact ⟨t, h1, mapA_ok (fun x hx => hg x t h1 hx) h2⟩
      · exact h _ _ e3
    · rcases get_set e2 with ⟨rfl, e3⟩ | e3
      · cases e3
      · exact e3
  · exact ⟨h, RefSame.refl⟩
theorem intR_ok {op : Cop} {b : Bool} {k : Int} {x : A} {t : T} (h : γ ns x t) (hc : cmpT op t (.int k) = some b) : γ ns (intR op b k x) t := by
  cases x <;> try exact h
  rename_i lo hi
  obtain ⟨i, rfl, h1, h2⟩ := h
  have m : ∀ lo hi : Int, lo ≤ i → i ≤ hi → γ ns (if lo ≤ hi then A.int lo hi else .bot) (.int i) := by
    intro lo hi h3 h4
    rw [if_pos (by omega)]
    exact ⟨i, rfl, h3, h4⟩
  have n1 : ∀ a b : Int, i ≤ a → i ≤ b → i ≤ mn a b := by intro a b h3 h4; unfold mn; split <;> omega
  have n2 : ∀ a b : Int, a ≤ i → b ≤ i → mx a b ≤ i := by intro a b h3 h4; unfold mx; split <;> omega
  have self : γ ns (A.int lo hi) (.int i) := ⟨i, rfl, h1, h2⟩
  cases op <;> cases b <;> simp only [intR] <;> try exact self
  all_goals (first
    | rw [cmp_eqi] at hc
    | rw [cmp_nei] at hc
    | rw [cmp_lti] at hc
    | rw [cmp_lei] at hc
    | rw [cmp_gti] at hc
    | rw [cmp_gei] at hc)
  all_goals simp only [Option.some.injEq, decide_eq_true_eq, decide_eq_false_iff_not, Bool.not_eq_true', Bool.not_eq_false', Bool.not_eq_eq_eq_not, Bool.not_true, Bool.not_false] at hc
  · split
    · exact m _ _ (by omega) h2
    · split
      · exact m _ _ h1 (by omega)
      · exact self
  · exact m _ _ (n2 _ _ h1 (by omega)) (n1 _ _ h2 (by omega))
  · exact m _ _ (n2 _ _ h1 (by omega)) (n1 _ _ h2 (by omega))
  · split
    · exact m _ _ (by omega) h2
    · split
      · exact m _ _ h1 (by omega)
      · exact self
  · exact m _ _ (n2 _ _ h1 (by omega)) h2
  · exact m _ _ h1 (n1 _ _ h2 (by omega))
  · exact m _ _ (n2 _ _ h1 (by omega)) h2
  · exact m _ _ h1 (n1 _ _ h2 (by omega))
  · exact m _ _ h1 (n1 _ _ h2 (by omega))
  · exact m _ _ (n2 _ _ h1 (by omega)) h2
  · exact m _ _ h1 (n1 _ _ h2 (by omega))
  · exact m _ _ (n2 _ _ h1 (by omega)) h2
/-- a row with something in it -/
def fullT : T → Bool
  | .lst xs => !xs.isEmpty
  | .dct xs => !xs.isEmpty
  | _ => false
theorem emptR_ok {b : Bool} {x : A} {t : T} (h : γ ns x t) (hb : fullT t = b ∨ ∀ xs, t ≠ .lst xs ∧ ∀ ys, t ≠ .dct ys) : γ ns (emptR b x) t := by
  cases x <;> try exact h
  · obtain ⟨xs, rfl, h1, h2, h3⟩ := h
    rcases hb with hb | hb
    · simp only [fullT] at hb
      cases b with
      | true =>
        have : xs ≠ [] := by simpa using hb
        have := List.length_pos_iff.mpr this
        simp only [emptR, if_true]
        rw [if_neg (by omega)]
        exact ⟨xs, rfl, by omega, h2, h3⟩
      | false =>
        have : xs = [] := by simpa using hb
        subst this
        simp only [List.length_nil] at h1
        simp only [emptR, Bool.false_eq_true, if_false]
        rw [if_pos (by omega)]
        exact ⟨[], rfl, Nat.zero_le _, Nat.le_refl _, fun x hx => by cases hx⟩
    · exact absurd rfl (hb xs).1
  · obtain ⟨xs, rfl, h1, h2, h3, h4⟩ := h
    rcases hb with hb | hb
    · simp only [fullT] at hb
      cases b with
      | true =>
        have : xs ≠ [] := by simpa using hb
        have := List.length_pos_iff.mpr this
        simp only [emptR, if_true]
        rw [if_neg (by omega)]
        exact ⟨xs, rfl, by omega, h2, h3, h4⟩
      | false =>
        have : xs = [] := by simpa using hb
        subst this
        simp only [List.length_nil] at h1
        simp only [emptR, Bool.false_eq_true, if_false]
        rw [if_pos (by omega)]
        exact ⟨[], rfl, Nat.zero_le _, Nat.le_refl _, List.nodup_nil, fun x hx => by cases hx⟩
    · exact absurd rfl ((hb []).2 xs)
/-- a comparing of a name with a constant, read back -/
theorem cmp_back {G : Glo} {C : Call} {op : Cop} {i : Nat} {d : E} {w t : T} {ρ : Env} {s s' : Store} {u : U} {b : Bool} (hd : ∀ s, ev G C d ρ s = .ok (.v w) s) (e : ev G C (.cmp op (.var i) d) ρ s = .ok u s') (hb : truth s' u = some b) (hi : ρ[i]? = some (some (.v t))) : cmpT op t w = some b := by
  rw [ev_cmp, ev_var, hi] at e
  simp only [bind_ok, hd] at e
  have hc : cmpU op s (.v t) (.v w) = cmpT op t w := by cases op <;> first | rfl | simp
  rw [hc] at e
  cases ec : cmpT op t w with
  | none =>
    rw [ec] at e
    cases e
  | some b' =>
    rw [ec] at e
    cases e
    rw [truth_bl] at hb
    exact hb
theorem eq_nil_full {t : T} {b : Bool} : (cmpT .ne t (.lst []) = some b ∨ cmpT .ne t (.dct []) = some b) → fullT t = b ∨ ∀ xs, t ≠ .lst xs ∧ ∀ ys, t ≠ .dct ys := by
  intro h
  cases t with
  | lst xs =>
    rcases h with h | h
    · cases xs <;> simp [cmpT, neOk, pyEq, eqL] at h <;> (subst h; exact .inl rfl)
    · cases xs <;> simp [cmpT, neOk] at h
  | dct xs =>
    rcases h with h | h
    · cases xs <;> simp [cmpT, neOk] at h
    · cases xs <;> simp [cmpT, neOk, pyEq, eqK] at h <;> (subst h; exact .inl rfl)
  | _ => exact .inr fun xs => ⟨fun h => (by cases h), fun _ h => (by cases h)⟩
theorem eq_nil_full' {t : T} {b : Bool} : (cmpT .eq t (.lst []) = some b ∨ cmpT .eq t (.dct []) = some b) → fullT t = (!b) ∨ ∀ xs, t ≠ .lst xs ∧ ∀ ys, t ≠ .dct ys := by
  intro h
  cases t with
  | lst xs =>
    rcases h with h | h
    · cases xs <;> simp [cmpT, eqOk, zipAll, kget, pyEq, eqL] at h <;> (subst h; exact .inl rfl)
    · cases xs <;> simp [cmpT, eqOk, zipAll, kget] at h
  | dct xs =>
    rcases h with h | h
    · cases xs <;> simp [cmpT, eqOk, zipAll, kget] at h
    · cases xs <;> simp [cmpT, eqOk, zipAll, kget, pyEq, eqK] at h <;> (subst h; exact .inl rfl)
  | _ => exact .inr fun xs => ⟨fun h => (by cases h), fun _ h => (by cases h)⟩
theorem isNon_ok {x : A} {b : Bool} {t : T} (e : isNonA x = some b) (h : γ ns x t) : cmpT .is t .non = some b ∧ cmpT .isn t .non = some !b := by
  cases x <;> simp only [isNonA, reduceCtorEq, Option.some.injEq] at e <;> subst e
  all_goals
    (first
      | cases (show t = _ from h)
      | obtain ⟨_, rfl, _⟩ := h)
    exact ⟨rfl, rfl⟩
theorem bind_inv {α β : Type} {r : R α} {f : α → Store → R β} {u : β} {s' : Store} (h : r.bind f = .ok u s') : ∃ w s1, r = .ok w s1 ∧ f w s1 = .ok u s' := by
  cases r with
  | ok w s1 => exact ⟨w, s1, rfl, h⟩
  | exc x s1 => cases h
  | bad => cases h
theorem refine_ok {G : Glo} {C : Call} {ρ : Env} : ∀ (c : E) (b : Bool) {env : AEnv} {s s' : Store} {u : U}, VOk ns env ρ → ev G C c ρ s = .ok u s' → truth s' u = some b → VOk ns (refine c b env) ρ ∧ RefSame env (refine c b env) := by
  intro c
  induction c using E.rec (motive_2 := fun _ => True) (motive_3 := fun _ => True) with
  | not c ih =>
    intro b env s s' u h e hb
    rw [ev_not] at e
    obtain ⟨w, s1, e1, e2⟩ := bind_inv e
    cases eb : asBl w with
    | none =>
      rw [eb] at e2
      cases e2
    | some b' =>
      rw [eb] at e2
      cases e2
      rw [truth_bl] at hb
      have hb : b' = !b := by
        have := Option.some.inj hb
        rw [← this, Bool.not_not]
      refine ih (!b) h e1 ?_
      have hw : w = .v (.bl b') := by
        cases w with
        | v t => cases t <;> simp only [asBl, reduceCtorEq, Option.some.injEq] at eb; rw [eb]
        | _ => cases eb
      rw [hw, truth_bl, hb]
  | and c d ihc ihd =>
    intro b env s s' u h e hb
    cases b with
    | false => exact ⟨h, RefSame.refl⟩
    | true =>
      rw [ev_and] at e
      obtain ⟨w, s1, e1, e2⟩ := bind_inv e
      cases eb : asBl w with
      | none =>
        rw [eb] at e2
        cases e2
      | some b' =>
        rw [eb] at e2
        have hw : w = .v (.bl b') := by
          cases w with
          | v t => cases t <;> simp only [asBl, reduceCtorEq, Option.some.injEq] at eb; rw [eb]
          | _ => cases eb
        cases b' with
        | false =>
          cases e2
          cases hb
        | true =>
          obtain ⟨k1, k2⟩ := ihc true h e1 (by rw [hw]; rfl)
          obtain ⟨k3, k4⟩ := ihd true k1 e2 hb
          exact ⟨k3, k2.trans k4⟩
  | or c d ihc ihd =>
    intro b env s s' u h e hb
    cases b with
    | true => exact ⟨h, RefSame.refl⟩
    | false =>
      rw [ev_or] at e
      obtain ⟨w, s1, e1, e2⟩ := bind_inv e
      cases eb : asBl w with
      | none =>
        rw [eb] at e2
        cases e2
      | some b' =>
        rw [eb] at e2
        have hw : w = .v (.bl b') := by
          cases w with
          | v t => cases t <;> simp only [asBl, reduceCtorEq, Option.some.injEq] at eb; rw [eb]
          | _ => cases eb
        cases b' with
        | true =>
          cases e2
          cases hb
        | false =>
          obtain ⟨k1, k2⟩ := ihc false h e1 (by rw [hw]; rfl)
          obtain ⟨k3, k4⟩ := ihd false k1 e2 hb
          exact ⟨k3, k2.trans k4⟩
  | isi a ks _ =>
    intro b env s s' u h e hb
    cases a with
    | var i =>
      refine updA_ok h fun x t ht hx => ?_
      rw [ev_isi, ev_var, ht] at e
      simp only [bind_ok, kdU_v, Option.map_some, okO_some] at e
      cases e
      rw [truth_bl] at hb
      split
      · rename_i hk
        have := kA1_ok hk hx
        rw [this] at hb
        cases b <;> cases hb
      · exact hx
    | _ => exact ⟨h, RefSame.refl⟩
  | cmp op a d _ _ =>
    intro b env s s' u h e hb
    cases a with
    | var i =>
      cases d with
      | con w =>
        have cb : ∀ {t : T}, ρ[i]? = some (some (.v t)) → cmpT op t w = some b := fun ht => cmp_back (fun s => by simp) e hb ht
        cases w with
        | int k =>
          have hr : refine (.cmp op (.var i) (.con (.int k))) b env = updA env i (intR op b k) := by cases op <;> rfl
          rw [hr]
          exact updA_ok h fun x t ht hx => intR_ok hx (cb ht)
        | non =>
          cases op <;> first | exact ⟨h, RefSame.refl⟩ | skip
          · refine updA_ok h fun x t ht hx => ?_
            split
            · rename_i hk
              have h1 := (isNon_ok hk hx).1
              rw [cb ht] at h1
              cases b <;> cases h1
            · exact hx
          · refine updA_ok h fun x t ht hx => ?_
            split
            · rename_i hk
              have h1 := (isNon_ok hk hx).2
              rw [cb ht] at h1
              cases b <;> cases h1
            · exact hx
        | _ => cases op <;> exact ⟨h, RefSame.refl⟩
      | lstd es =>
        cases es with
        | nil =>
          have cb : ∀ {t : T}, ρ[i]? = some (some (.v t)) → cmpT op t (.lst []) = some b := fun ht => cmp_back (fun s => by simp) e hb ht
          cases op <;> first | exact ⟨h, RefSame.refl⟩ | skip
          · exact updA_ok h fun x t ht hx => emptR_ok hx (eq_nil_full' (.inl (cb ht)))
          · exact updA_ok h fun x t ht hx => emptR_ok hx (eq_nil_full (.inl (cb ht)))
        | cons x es => cases op <;> exact ⟨h, RefSame.refl⟩
      | dctd ks es =>
        cases ks with
        | nil =>
          cases es with
          | nil =>
            have hd : ∀ s, ev G C (.dctd [] .nil) ρ s = .ok (.v (.dct [])) s := fun s => by simp [ev, evs, merge]
            have cb : ∀ {t : T}, ρ[i]? = some (some (.v t)) → cmpT op t (.dct []) = some b := fun ht => cmp_back hd e hb ht
            cases op <;> first | exact ⟨h, RefSame.refl⟩ | skip
            · exact updA_ok h fun x t ht hx => emptR_ok hx (eq_nil_full' (.inr (cb ht)))
            · exact updA_ok h fun x t ht hx => emptR_ok hx (eq_nil_full (.inr (cb ht)))
          | cons x es => cases op <;> exact ⟨h, RefSame.refl⟩
        | cons k ks => cases op <;> exact ⟨h, RefSame.refl⟩
      | _ => cases op <;> exact ⟨h, RefSame.refl⟩
    | _ => cases op <;> exact ⟨h, RefSame.refl⟩
  | nil => trivial
  | cons => trivial
  | it => trivial
  | rng1 => trivial
  | rng2 => trivial
  | rng3 => trivial
  | items => trivial
  | values => trivial
  | enm => trivial
  | rev => trivial
  | _ => intro b env s s' u h e hb; exact ⟨h, RefSame.refl⟩
theorem not_dead {env : AEnv} {ρ : Env} (h : VOk ns env ρ) : dead env = false := by
  unfold dead
  rw [List.any_eq_false]
  intro x hx
  obtain ⟨i, hi, rfl⟩ := List.mem_iff_getElem.mp hx
  intro hd
  have : env[i] = some (.v .bot) := by
    cases e : env[i] with
    | none => rw [e] at hd; cases hd
    | some au =>
      rw [e] at hd
      cases au with
      | ref k => cases hd
      | v a => cases a <;> first | rfl | (cases hd; done)
  obtain ⟨t, _, g⟩ := h i .bot (by rw [List.getElem?_eq_getElem hi, this])
  exact g
end
end Cab

set_option linter.all false
set_option maxRecDepth 100000
namespace Cab
/-! Expressions over told names: a value without a change of the store. -/
def dataA : AU → Option A
  | .v a => some a
  | .ref _ => none
def viewA (st : List A) : AU → Option A
  | .v a => some a
  | .ref k => st[k]?
def optM {α β : Type} (f : α → Option β) : List α → Option (List β)
  | [] => some []
  | a :: r => (f a).bind fun b => (optM f r).map fun bs => b :: bs
/-- truths alone: can be true, can be false -/
def bools : A → Option (Bool × Bool)
  | .bot => some (false, false)
  | .or a b => (bools a).bind fun p => (bools b).map fun q => (p.1 || q.1, p.2 || q.2)
  | .bl b => some (b, !b)
  | _ => none
def truA (a : A) : Option (Bool × Bool) := (lift1A aTru1 a).bind bools
def scalA : A → Bool
  | .bot => true
  | .or a b => scalA a && scalA b
  | .non => true
  | .bl _ => true
  | .int _ _ => true
  | .str _ _ => true
  | _ => false
def dctOnly : A → Bool
  | .bot => true
  | .or a b => dctOnly a && dctOnly b
  | .dct _ _ _ _ => true
  | _ => false
def modLen (v : Nat) : E → Bool
  | .bin .mod _ (.len (.var w)) => v == w
  | _ => false
/-- what a place that is there may hold -/
def elem1 : A → Option A
  | .lst _ _ a => some a
  | .str _ _ => some (.str 1 1)
  | _ => none
def elemD1 : A → Option A
  | .dct _ _ _ a => some a
  | _ => none
def isData : Option (Option AU) → Bool
  | some (some (.v _)) => true
  | _ => false
/-- places that are there by what the names tell -/
def spIx (σ : AS) (a b : E) (x : A) : Option A := match a, b with
  | .var v, .var i => if Fa.ix i v ∈ σ.fc then lift1A elem1 x else if Fa.key i v ∈ σ.fc then lift1A elemD1 x else none
  | .var v, b => if modLen v b then lift1A elem1 x else none
  | .prm .sorted (.cons (.var v) .nil), b => if modLen v b && isData σ.env[v]? then lift1A elem1 x else none
  | _, _ => none
def aCmpU (st : List A) (op : Cop) (x y : AU) : Option A := match op with
  | .is => (dataA x).bind fun x => (dataA y).bind fun y => aCmp .is x y
  | .isn => (dataA x).bind fun x => (dataA y).bind fun y => aCmp .isn x y
  | op => (viewA st x).bind fun x => (viewA st y).bind fun y => aCmp op x y
def joinL : List A → A
  | [] => .bot
  | a :: r => join a (joinL r)
def nthL (xs : List A) (lo : Nat) : Nat → Option A
  | 0 => xs[lo]?
  | n + 1 => joinO xs[lo]? (nthL xs (lo + 1) n)
/-- the places that numbers tell -/
def pick1 (xs : List A) : A → Option A
  | .int c d => if 0 ≤ c ∧ c ≤ d ∧ d < xs.length then nthL xs c.toNat (d - c).toNat else none
  | _ => none
def toAT' : List A → AT
  | [] => .nil
  | a :: r => .cons a (toAT' r)
def aCutB1 : A → Option A
  | .lst _ hi a => some (.lst 0 hi a)
  | .str _ hi => some (.str 0 hi)
  | _ => none
def rev1 : A → Option A
  | .lst lo hi a => some (.lst lo hi a)
  | .str lo hi => some (.str lo hi)
  | _ => none
def kyOkA : Ky → Bool
  | .s x => decide (x.length ≤ KW)
  | .i _ => true
def strKy : Ky → Bool
  | .s _ => true
  | .i _ => false
/-- keys and values in turn: names of texts alone?, what they hold -/
def pairsA : List A → Option (Bool × A)
  | [] => some (true, .bot)
  | .str _ h :: x :: r => if h ≤ KW then (pairsA r).map fun p => (p.1, join x p.2) else none
  | .int _ _ :: x :: r => (pairsA r).map fun p => (false, join x p.2)
  | _ => none
def int1 : A → Option (Int × Int)
  | .int a b => some (a, b)
  | _ => none
def aWipe (env : AEnv) : List Nat → AEnv
  | [] => env
  | i :: is => (aWipe env is).set i none
def aMany (env : AEnv) : List Nat → AT → Option AEnv
  | [], .nil => some env
  | i :: is, .cons a as => aMany (env.set i (some (.v a))) is as
  | _, _ => none
def aBind (tg : Tgt) (x : A) (env : AEnv) : Option AEnv := match tg, x with
  | .one i, x => some (env.set i (some (.v x)))
  | .many is, .tup as => aMany env is as
  | _, _ => none
def tgL : Tgt → List Nat
  | .one i => [i]
  | .many is => is
def Fa.slots : Fa → List Nat
  | .ix i v => [i, v]
  | .key i v => [i, v]
  | .keys s v => [s, v]
def dropF (is : List Nat) (fc : List Fa) : List Fa := fc.filter fun f => f.slots.all fun j => !(is.contains j)
def isDct : Option (Option AU) → Bool
  | some (some (.v (.dct _ _ _ _))) => true
  | _ => false
/-- what a walk tells of its name -/
def srcFa (src : Src) (i : Nat) (σ : AS) : List Fa := match src with
  | .rng1 (.len (.var v)) => if isData σ.env[v]? then [.ix i v] else []
  | .it (.var v) => (if isDct σ.env[v]? then [.key i v] else []) ++ σ.fc.filterMap fun f => match f with
    | .keys w d => if w = v then some (.key i d) else none
    | _ => none
  | .it (.prm .sorted (.cons (.var v) .nil)) => if isDct σ.env[v]? then [.key i v] else []
  | .it (.cutL (.prm .sorted (.cons (.var v) .nil)) (.con (.int _))) => if isDct σ.env[v]? then [.key i v] else []
  | _ => []
/-- within a comprehension -/
def inner (own : List Nat) (tg : Tgt) (src : Src) (x : A) (σ : AS) : Option AS := (aBind tg x (aWipe σ.env own)).map fun env =>
  { σ with env := env, fc := (match tg with
    | .one i => if i < σ.env.length then (srcFa src i σ).filter fun f => match f with
      | .ix _ v => !((i :: own).contains v)
      | .key _ v => !((i :: own).contains v)
      | _ => false else []
    | _ => []) ++ dropF (own ++ tgL tg) σ.fc }
mutual
def aE (G : Glo) (CA : Nat → List A → Option A) : E → AS → Option AU
  | .var i, σ => (match σ.env[i]? with
    | some (some au) => some au
    | _ => none)
  | .con t, _ => if okA t then some (.v (toA t)) else none
  | .glo g, _ => (match G g with
    | some t => if okA t then some (.v (toA t)) else none
    | none => none)
  | .bin op a b, σ => (aE G CA a σ).bind fun x => (aE G CA b σ).bind fun y => (viewA σ.st x).bind fun x => (viewA σ.st y).bind fun y => (aBin op x y).map .v
  | .neg a, σ => (aE G CA a σ).bind fun x => (dataA x).bind fun x => (lift1A aNeg1 x).map .v
  | .not a, σ => (aE G CA a σ).bind fun x => (dataA x).bind fun x => (lift1A aNot1 x).map .v
  | .and a b, σ => (aE G CA a σ).bind fun x => (dataA x).bind fun x => (bools x).bind fun p =>
    if p.1 && !dead (refine a true σ.env) then (aE G CA b { σ with env := refine a true σ.env }).bind fun y => (dataA y).map fun y => .v (join (if p.2 then .bl false else .bot) y)
    else some (.v (.bl false))
  | .or a b, σ => (aE G CA a σ).bind fun x => (dataA x).bind fun x => (bools x).bind fun p =>
    if p.2 && !dead (refine a false σ.env) then (aE G CA b { σ with env := refine a false σ.env }).bind fun y => (dataA y).map fun y => .v (join (if p.1 then .bl true else .bot) y)
    else some (.v (.bl true))
  | .cmp op a b, σ => (aE G CA a σ).bind fun x => (aE G CA b σ).bind fun y => (aCmpU σ.st op x y).map .v
  | .chn o1 o2 a b c, σ => (aE G CA a σ).bind fun x => (aE G CA b σ).bind fun y => (aCmpU σ.st o1 x y).bind fun r => (bools r).bind fun _ => (aE G CA c σ).bind fun z => (aCmpU σ.st o2 y z).map fun q => .v (join (.bl false) q)
  | .ite c a b, σ => (aE G CA c σ).bind fun x => (dataA x).bind fun x => (truA x).bind fun p =>
    (if p.1 && !dead (refine c true σ.env) then (aE G CA a { σ with env := refine c true σ.env }).bind dataA else some .bot).bind fun y =>
    (if p.2 && !dead (refine c false σ.env) then (aE G CA b { σ with env := refine c false σ.env }).bind dataA else some .bot).map fun z => .v (join y z)
  | .call md f as, σ => (aEs G CA as σ).bind fun xs => (optM (viewA σ.st) xs).bind fun ys => (CA f ys).bind fun r => if md = .v ∧ ((optM dataA xs).isSome || scalA r) then some (.v r) else none
  | .prm p as, σ => (aEs G CA as σ).bind fun xs => (optM (viewA σ.st) xs).bind fun ys => (match ys with
    | [x] => lift1A (aPrm1 p) x
    | [x, y] => lift2A (aPrm2 p) x y
    | _ => none).map .v
  | .len a, σ => (aE G CA a σ).bind fun x => (viewA σ.st x).bind fun x => (lift1A aLen1 x).map .v
  | .isi a ks, σ => (aE G CA a σ).bind fun x => (dataA x).bind fun x => (lift1A (aIsi1 ks) x).map .v
  | .idx a b, σ => (aE G CA a σ).bind fun x => (dataA x).bind fun x => (aE G CA b σ).bind fun y => (dataA y).bind fun y => (match aLits G CA a σ with
    | some xs => (lift1A (pick1 xs) y).map .v
    | none => (match spIx σ a b x with
      | some r => some (.v r)
      | none => (lift2A aIdx1 x y).map .v))
  | .cutL a lo, σ => (aE G CA a σ).bind fun x => (viewA σ.st x).bind fun x => (aE G CA lo σ).bind fun y => (dataA y).bind fun y => (lift2A aCutL1 x y).map .v
  | .cutR a hi, σ => (aE G CA a σ).bind fun x => (viewA σ.st x).bind fun x => (aE G CA hi σ).bind fun y => (dataA y).bind fun y => (lift2A aCutR1 x y).map .v
  | .cutB a lo hi, σ => (aE G CA a σ).bind fun x => (viewA σ.st x).bind fun x => (aE G CA lo σ).bind fun y => (dataA y).bind fun y => (aE G CA hi σ).bind fun z => (dataA z).bind fun z => if intOnly y && intOnly z then (lift1A aCutB1 x).map .v else none
  | .tupd es, σ => (aEs G CA es σ).bind fun xs => (optM dataA xs).bind fun xs => if xs.length ≤ LIM then some (.v (.tup (toAT' xs))) else none
  | .lstd es, σ => (aEs G CA es σ).bind fun xs => (optM dataA xs).bind fun xs => if xs.length ≤ LIM then some (.v (.lst xs.length xs.length (joinL xs))) else none
  | .dctd ks vs, σ => (aEs G CA vs σ).bind fun xs => (optM dataA xs).bind fun xs => if ks.length = xs.length ∧ ks.length ≤ 15 ∧ ks.all kyOkA then some (.v (.dct (ks.all strKy) (min ks.length 1) ks.length (joinL xs))) else none
  | .dctE es, σ => (aEs G CA es σ).bind fun xs => (optM dataA xs).bind fun xs => (pairsA xs).bind fun p => if xs.length ≤ 30 then some (.v (.dct p.1 (min xs.length 1) (xs.length / 2) p.2)) else none
  | .lc own tg src elt, σ => (aSrc G CA src σ).bind fun q => if q.2.2 ≤ LIM then (if q.2.2 = 0 then some (.v (.lst 0 0 .bot)) else (inner own tg src q.1 σ).bind fun σ' => (aE G CA elt σ').bind fun y => (dataA y).map fun y => .v (.lst q.2.1 q.2.2 y)) else none
  | .lcI own tg src c elt, σ => (aSrc G CA src σ).bind fun q => if q.2.2 ≤ LIM then (if q.2.2 = 0 then some (.v (.lst 0 0 .bot)) else (inner own tg src q.1 σ).bind fun σ' => (aE G CA c σ').bind fun x => (dataA x).bind fun x => (truA x).bind fun p => if p.1 && !dead (refine c true σ'.env) then (aE G CA elt { σ' with env := refine c true σ'.env }).bind fun y => (dataA y).map fun y => .v (.lst 0 q.2.2 y) else some (.v (.lst 0 0 .bot))) else none
  | .meth p a es, σ => (aE G CA a σ).bind fun x => (aEs G CA es σ).bind fun ys => (match p, ys with
    | .join, [y] => (dataA x).bind fun x => (viewA σ.st y).bind fun y => if strOnly x then lift2A (aPrm2 .join) x y else none
    | .get1, [y] => (viewA σ.st x).bind fun x => (dataA y).bind fun y => if dctOnly x then lift2A (aPrm2 .get1) x y else none
    | .values, [] => (viewA σ.st x).bind fun x => if dctOnly x then lift1A (aPrm1 .values) x else none
    | _, _ => none).map .v
  | .revS a, σ => (aE G CA a σ).bind fun x => (viewA σ.st x).bind fun x => (lift1A rev1 x).map .v
  | _, _ => none
/-- a written row's places -/
def aLits (G : Glo) (CA : Nat → List A → Option A) : E → AS → Option (List A)
  | .lstd es, σ => (aEs G CA es σ).bind fun xs => (optM dataA xs).bind fun xs => if xs.length ≤ LIM then some xs else none
  | _, _ => none
def aEs (G : Glo) (CA : Nat → List A → Option A) : Es → AS → Option (List AU)
  | .nil, _ => some []
  | .cons e es, σ => (aE G CA e σ).bind fun x => (aEs G CA es σ).map fun xs => x :: xs
/-- what is walked: each of it, how many at least, at most -/
def aSrc (G : Glo) (CA : Nat → List A → Option A) : Src → AS → Option (A × Nat × Nat)
  | .it e, σ => (aE G CA e σ).bind fun x => (viewA σ.st x).bind fun y => (match x, y with
    | _, .lst lo hi a => some (a, lo, hi)
    | .v _, .tup as => some (joinT as, lenT as, lenT as)
    | .v _, .str lo hi => some (.str 1 1, lo, hi)
    | .v _, .dct true lo hi _ => some (.str 0 KW, lo, hi)
    | _, _ => none)
  | .rng1 a, σ => (aE G CA a σ).bind fun x => (dataA x).bind fun x => (int1 x).bind fun p => if inRng p.1 && inRng p.2 then some (.int 0 (p.2 - 1), p.1.toNat, p.2.toNat) else none
  | .rng2 a b, σ => (aE G CA a σ).bind fun x => (dataA x).bind fun x => (int1 x).bind fun p => (aE G CA b σ).bind fun y => (dataA y).bind fun y => (int1 y).bind fun q => if inRng p.1 && inRng p.2 && inRng q.1 && inRng q.2 then some (.int p.1 (q.2 - 1), (q.1 - p.2).toNat, (q.2 - p.1).toNat) else none
  | .items e, σ => (aE G CA e σ).bind fun x => (dataA x).bind fun x => (match x with
    | .dct true lo hi a => some (.tup (.cons (.str 0 KW) (.cons a .nil)), lo, hi)
    | _ => none)
  | .values e, σ => (aE G CA e σ).bind fun x => (dataA x).bind fun x => (match x with
    | .dct _ lo hi a => some (a, lo, hi)
    | _ => none)
  | _, _ => none
end
end Cab

set_option linter.all false
set_option maxRecDepth 100000
set_option maxHeartbeats 1000000
namespace Cab
/-! The told values of expressions are right. -/
def DataO (t : T) (o : O) : Prop := match t with
  | .lst ts => o = .lst (ts.map .v)
  | .dct kvs => o = .dct (kvs.map fun p => (p.1, .v p.2))
  | _ => False
def γU (ns : List Int) (τ : Nat → Nat) (s : Store) : AU → U → Prop
  | .v a, u => ∃ t, u = .v t ∧ γ ns a t
  | .ref k, u => ∃ j, u = .ref j ∧ τ j = k ∧ j < s.length
def γF (ρ : Env) : Fa → Prop
  | .ix i v => ∃ (k : Int) (n : Nat) (t : T), ρ[i]? = some (some (U.v (.int k))) ∧ ρ[v]? = some (some (U.v t)) ∧ lenU [] (.v t) = some n ∧ 0 ≤ k ∧ k < n
  | .key i v => ∃ (t : T) (q : Ky) (kvs : List (Ky × T)), ρ[i]? = some (some (U.v t)) ∧ tKy t = some q ∧ ρ[v]? = some (some (U.v (.dct kvs))) ∧ (kget q kvs).isSome = true
  | .keys w v => ∃ (ts : List T) (kvs : List (Ky × T)), ρ[w]? = some (some (U.v (.lst ts))) ∧ ρ[v]? = some (some (U.v (.dct kvs))) ∧ ∀ t ∈ ts, ∃ q, tKy t = some q ∧ (kget q kvs).isSome = true
structure Ok (ns : List Int) (σ : AS) (τ : Nat → Nat) (ρ : Env) (s : Store) : Prop where
  v : VOk ns σ.env ρ
  r : ∀ (i k : Nat), σ.env[i]? = some (some (AU.ref k)) → ∃ j, ρ[i]? = some (some (U.ref j)) ∧ τ j = k ∧ j < s.length
  f : ∀ f ∈ σ.fc, γF ρ f
  s : ∀ (j : Nat) o, s[j]? = some o → ∃ a t, σ.st[τ j]? = some a ∧ γ ns a t ∧ DataO t o
  l : ρ.length = σ.env.length
def γUs (ns : List Int) (τ : Nat → Nat) (s : Store) : List AU → List U → Prop
  | [], us => us = []
  | x :: xs, us => ∃ u r, us = u :: r ∧ γU ns τ s x u ∧ γUs ns τ s xs r
def γl (ns : List Int) : List A → List T → Prop
  | [], ts => ts = []
  | a :: as, ts => ∃ t r, ts = t :: r ∧ γ ns a t ∧ γl ns as r
section
variable {ns : List Int} {σ : AS} {τ : Nat → Nat} {ρ : Env} {s : Store}
theorem dataU {x : AU} {u : U} {a : A} (h : γU ns τ s x u) (e : dataA x = some a) : ∃ t, u = .v t ∧ γ ns a t := by
  cases x with
  | v b =>
    cases e
    exact h
  | ref k => cases e
theorem kv_unKV : ∀ kvs : List (Ky × T), optAll unKV (kvs.map fun p => (p.1, U.v p.2)) = some kvs
  | [] => rfl
  | p :: r => by simp [optAll, unKV, kv_unKV r]
theorem kv_view {n : Nat} : ∀ kvs : List (Ky × T), optAll (fun p : Ky × U => (view (n + 1) s p.2).map fun t => (p.1, t)) (kvs.map fun p => (p.1, U.v p.2)) = some kvs
  | [] => rfl
  | p :: r => by
    simp only [List.map_cons, optAll, view_v1, Option.map_some, kv_view r]
theorem ref_at (ok : Ok ns σ τ ρ s) {j k : Nat} {a : A} (hj : τ j = k) (hl : j < s.length) (e : σ.st[k]? = some a) : ∃ t o, s[j]? = some o ∧ γ ns a t ∧ DataO t o := by
  obtain ⟨b, t, e1, g, d⟩ := ok.s j s[j] (List.getElem?_eq_getElem hl)
  rw [hj, e] at e1
  cases e1
  exact ⟨t, s[j], List.getElem?_eq_getElem hl, g, d⟩
theorem view_refL {n : Nat} {j : Nat} {ts : List T} (h : s[j]? = some (.lst (ts.map .v))) : view (n + 2) s (.ref j) = some (.lst ts) := by
  rw [view]
  simp only [h, view_v, Option.map_some]
theorem view_refK {n : Nat} {j : Nat} {kvs : List (Ky × T)} (h : s[j]? = some (.dct (kvs.map fun p => (p.1, .v p.2)))) : view (n + 2) s (.ref j) = some (.dct kvs) := by
  rw [view]
  simp only [h, kv_view, Option.map_some]
theorem viewU (ok : Ok ns σ τ ρ s) {x : AU} {u : U} {a : A} (h : γU ns τ s x u) (e : viewA σ.st x = some a) : ∃ t, asT s u = some t ∧ view 64 s u = some t ∧ γ ns a t ∧ lenU s u = lenU [] (.v t) ∧ ((∃ b, x = .v b) → u = .v t) := by
  cases x with
  | v b =>
    cases e
    obtain ⟨t, rfl, g⟩ := h
    exact ⟨t, rfl, view_v1 _ _ _, g, lenU_any t, fun _ => rfl⟩
  | ref k =>
    obtain ⟨j, rfl, hj, hl⟩ := h
    obtain ⟨t, o, h1, g, d⟩ := ref_at ok hj hl e
    refine ⟨t, ?_, ?_, g, ?_, fun ⟨b, h⟩ => by cases h⟩
    · cases t <;> simp only [DataO] at d <;> subst d
      · simp only [asT, h1, unV_v, Option.map_some]
      · simp only [asT, h1, kv_unKV, Option.map_some]
    · cases t <;> simp only [DataO] at d <;> subst d
      · exact view_refL (n := 62) h1
      · exact view_refK (n := 62) h1
    · cases t <;> simp only [DataO] at d <;> subst d
      · simp only [lenU, h1, List.length_map]
      · simp only [lenU, h1, List.length_map]
theorem datasU {xs : List AU} : ∀ {us : List U} {as : List A}, γUs ns τ s xs us → optM dataA xs = some as → ∃ ts, us = ts.map .v ∧ γl ns as ts := by
  induction xs with
  | nil =>
    intro us as h e
    cases e
    cases (show us = [] from h)
    exact ⟨[], rfl, rfl⟩
  | cons x xs ih =>
    intro us as h e
    obtain ⟨u, r, rfl, h1, h2⟩ := h
    simp only [optM, Option.bind_eq_some_iff, Option.map_eq_some_iff] at e
    obtain ⟨a, e1, as, e2, rfl⟩ := e
    obtain ⟨t, rfl, g⟩ := dataU h1 e1
    obtain ⟨ts, rfl, g2⟩ := ih h2 e2
    exact ⟨t :: ts, rfl, t, ts, rfl, g, g2⟩
theorem viewsU (ok : Ok ns σ τ ρ s) {xs : List AU} : ∀ {us : List U} {as : List A}, γUs ns τ s xs us → optM (viewA σ.st) xs = some as → ∃ ts, optAll (view 64 s) us = some ts ∧ optAll (asT s) us = some ts ∧ γl ns as ts := by
  induction xs with
  | nil =>
    intro us as h e
    cases e
    cases (show us = [] from h)
    exact ⟨[], rfl, rfl, rfl⟩
  | cons x xs ih =>
    intro us as h e
    obtain ⟨u, r, rfl, h1, h2⟩ := h
    simp only [optM, Option.bind_eq_some_iff, Option.map_eq_some_iff] at e
    obtain ⟨a, e1, as, e2, rfl⟩ := e
    obtain ⟨t, v1, v2, g, _⟩ := viewU ok h1 e1
    obtain ⟨ts, w1, w2, g2⟩ := ih h2 e2
    exact ⟨t :: ts, by simp only [optAll, v2, w1], by simp only [optAll, v1, w2], t, ts, rfl, g, g2⟩
theorem bools_ok : ∀ {a : A} {p : Bool × Bool} {t : T}, bools a = some p → γ ns a t → ∃ b, t = .bl b ∧ (b = true → p.1 = true) ∧ (b = false → p.2 = true) := by
  intro a
  induction a using A.rec (motive_2 := fun _ => True) with
  | bot => intro p t _ g; exact g.elim
  | or a b iha ihb =>
    intro p t e g
    simp only [bools, Option.bind_eq_some_iff, Option.map_eq_some_iff] at e
    obtain ⟨q, e1, r, e2, rfl⟩ := e
    rcases g with g | g
    · obtain ⟨b', h1, h2, h3⟩ := iha e1 g
      exact ⟨b', h1, fun z => by rw [h2 z]; rfl, fun z => by rw [h3 z]; rfl⟩
    · obtain ⟨b', h1, h2, h3⟩ := ihb e2 g
      exact ⟨b', h1, fun z => by rw [h2 z]; exact Bool.or_true _, fun z => by rw [h3 z]; exact Bool.or_true _⟩
  | bl b =>
    intro p t e g
    cases e
    exact ⟨b, g, fun z => z, fun z => by rw [z]; rfl⟩
  | nil => trivial
  | cons => trivial
  | _ => intro p t e; cases e
theorem truA_ok {a : A} {p : Bool × Bool} {t : T} (e : truA a = some p) (g : γ ns a t) : ∃ b, truth s (.v t) = some b ∧ (b = true → p.1 = true) ∧ (b = false → p.2 = true) := by
  unfold truA at e
  obtain ⟨c, e1, e2⟩ := Option.bind_eq_some_iff.mp e
  obtain ⟨w, w1, w2⟩ := aTru1_ok.lift _ _ _ e1 g
  obtain ⟨b, rfl, h1, h2⟩ := bools_ok e2 w2
  simp only [truT, Option.map_eq_some_iff, T.bl.injEq] at w1
  obtain ⟨b', w1, rfl⟩ := w1
  exact ⟨b', by rw [truth_any]; exact w1, h1, h2⟩
theorem scalA_ok : ∀ {a : A} {t : T}, scalA a = true → γ ns a t → isScalar t = true := by
  intro a
  induction a using A.rec (motive_2 := fun _ => True) with
  | bot => intro t _ g; exact g.elim
  | or a b iha ihb =>
    intro t h g
    simp only [scalA, Bool.and_eq_true] at h
    rcases g with g | g
    · exact iha h.1 g
    · exact ihb h.2 g
  | non => intro t _ g; cases (show t = _ from g); rfl
  | bl b => intro t _ g; cases (show t = _ from g); rfl
  | int lo hi => intro t _ ⟨i, e, _⟩; rw [e]; rfl
  | str lo hi => intro t _ ⟨i, e, _⟩; rw [e]; rfl
  | nil => trivial
  | cons => trivial
  | _ => intro t h; simp [scalA] at h
theorem dctOnly_ok : ∀ {a : A} {t : T}, dctOnly a = true → γ ns a t → ∃ kvs, t = .dct kvs := by
  intro a
  induction a using A.rec (motive_2 := fun _ => True) with
  | bot => intro t _ g; exact g.elim
  | or a b iha ihb =>
    intro t h g
    simp only [dctOnly, Bool.and_eq_true] at h
    rcases g with g | g
    · exact iha h.1 g
    · exact ihb h.2 g
  | dct s lo hi a => intro t _ ⟨i, e, _⟩; exact ⟨i, e⟩
  | nil => trivial
  | cons => trivial
  | _ => intro t h; simp [dctOnly] at h
theorem elem1_ok {x c : A} {t : T} {n : Nat} {k : Int} (e : lift1A elem1 x = some c) (g : γ ns x t) (hl : lenU [] (.v t) = some n) (h0 : 0 ≤ k) (h1 : k < n) : ∃ w, idxT t (.int k) = some w ∧ γ ns c w := by
  induction x using A.rec (motive_2 := fun _ => True) generalizing c with
  | bot => exact g.elim
  | or a b iha ihb =>
    obtain ⟨x, y, e1, e2, rfl⟩ := joinO_some e
    rcases g with g | g
    · obtain ⟨w, w1, w2⟩ := iha e1 g
      exact ⟨w, w1, join_l w2⟩
    · obtain ⟨w, w1, w2⟩ := ihb e2 g
      exact ⟨w, w1, join_r w2⟩
  | lst lo hi a =>
    cases e
    obtain ⟨xs, rfl, _, _, g⟩ := g
    cases hl
    obtain ⟨z, hz1, hz2⟩ := atI_in (xs := xs) (i := k) (by omega) h1
    exact ⟨z, hz2, g z hz1⟩
  | str lo hi =>
    cases e
    obtain ⟨xs, rfl, _, _⟩ := g
    simp only [lenU, Option.ite_none_right_eq_some, Option.some.injEq] at hl
    obtain ⟨_, rfl⟩ := hl
    obtain ⟨z, hz1, hz2⟩ := atI_in (xs := xs) (i := k) (by omega) h1
    exact ⟨.str [z], by simp only [idxT, hz2, Option.map_some], [z], rfl, Nat.le_refl _, Nat.le_refl _⟩
  | nil => trivial
  | cons => trivial
  | _ => cases e
theorem kget_memA {q : Ky} {w : T} : ∀ {l : List (Ky × T)}, kget q l = some w → ∃ r ∈ l, r.2 = w
  | [], h => by cases h
  | r :: l, h => by
    unfold kget at h
    split at h
    · cases h
      exact ⟨r, List.mem_cons_self, rfl⟩
    · obtain ⟨r', h1, h2⟩ := kget_memA h
      exact ⟨r', List.mem_cons_of_mem _ h1, h2⟩
theorem elemD_ok {x c : A} {kvs : List (Ky × T)} {t : T} {q : Ky} (e : lift1A elemD1 x = some c) (g : γ ns x (.dct kvs)) (hq : tKy t = some q) (hs : (kget q kvs).isSome = true) : ∃ w, idxT (.dct kvs) t = some w ∧ γ ns c w := by
  induction x using A.rec (motive_2 := fun _ => True) generalizing c with
  | bot => exact g.elim
  | or a b iha ihb =>
    obtain ⟨x, y, e1, e2, rfl⟩ := joinO_some e
    rcases g with g | g
    · obtain ⟨w, w1, w2⟩ := iha e1 g
      exact ⟨w, w1, join_l w2⟩
    · obtain ⟨w, w1, w2⟩ := ihb e2 g
      exact ⟨w, w1, join_r w2⟩
  | dct s lo hi a =>
    cases e
    obtain ⟨xs, ex, _, _, _, g⟩ := g
    cases ex
    obtain ⟨w, hw⟩ := Option.isSome_iff_exists.mp hs
    obtain ⟨r, hr, rfl⟩ := kget_memA hw
    exact ⟨r.2, by simp only [idxT, hq, Option.bind_some, hw], (g r hr).2⟩
  | nil => trivial
  | cons => trivial
  | _ => cases e
theorem nthL_ok {xs : List A} {ts : List T} (h : γl ns xs ts) : ∀ {n lo k : Nat} {a : A}, nthL xs lo n = some a → lo ≤ k → k ≤ lo + n → ∃ t, ts[k]? = some t ∧ γ ns a t := by
  have at_ : ∀ {xs : List A} {ts : List T} {k : Nat} {a : A}, γl ns xs ts → xs[k]? = some a → ∃ t, ts[k]? = some t ∧ γ ns a t := by
    intro xs
    induction xs with
    | nil => intro ts k a _ e; simp at e
    | cons x xs ih =>
      intro ts k a h e
      obtain ⟨t, r, rfl, h1, h2⟩ := h
      cases k with
      | zero =>
        cases e
        exact ⟨t, rfl, h1⟩
      | succ k =>
        have := ih (k := k) h2 (by simpa using e)
        simpa using this
  intro n
  induction n with
  | zero =>
    intro lo k a e h1 h2
    have : k = lo := by omega
    subst this
    exact at_ h e
  | succ n ih =>
    intro lo k a e h1 h2
    obtain ⟨x, y, e1, e2, rfl⟩ := joinO_some e
    by_cases hk : k = lo
    · subst hk
      obtain ⟨t, ht, g⟩ := at_ h e1
      exact ⟨t, ht, join_l g⟩
    · obtain ⟨t, ht, g⟩ := ih (lo := lo + 1) (k := k) e2 (by omega) (by omega)
      exact ⟨t, ht, join_r g⟩
theorem γl_len {xs : List A} : ∀ {ts : List T}, γl ns xs ts → ts.length = xs.length := by
  induction xs with
  | nil => intro ts h; cases (show ts = [] from h); rfl
  | cons x xs ih =>
    intro ts h
    obtain ⟨t, r, rfl, h1, h2⟩ := h
    rw [List.length_cons, ih h2]
    rfl
theorem pick1_ok {xs : List A} {ts : List T} (h : γl ns xs ts) : Snd1 ns (pick1 xs) (idxT (.lst ts)) := by
  intro x c t e g
  cases x <;> simp only [pick1, reduceCtorEq, Option.ite_none_right_eq_some] at e
  obtain ⟨hz, e⟩ := e
  obtain ⟨i, rfl, h1, h2⟩ := g
  obtain ⟨w, w1, w2⟩ := nthL_ok h (k := i.toNat) e (by omega) (by omega)
  refine ⟨w, ?_, w2⟩
  simp only [idxT, Cab.atI]
  rw [if_pos (by omega)]
  exact w1
theorem joinL_ok {xs : List A} : ∀ {ts : List T}, γl ns xs ts → ∀ t ∈ ts, γ ns (joinL xs) t := by
  induction xs with
  | nil => intro ts h t ht; cases (show ts = [] from h); cases ht
  | cons x xs ih =>
    intro ts h t ht
    obtain ⟨u, r, rfl, h1, h2⟩ := h
    rcases List.mem_cons.mp ht with e | ht
    · rw [e]
      exact join_l h1
    · exact join_r (ih h2 t ht)
theorem toAT'_ok {xs : List A} : ∀ {ts : List T}, γl ns xs ts → γt ns (toAT' xs) ts := by
  induction xs with
  | nil => intro ts h; exact h
  | cons x xs ih =>
    intro ts h
    obtain ⟨u, r, rfl, h1, h2⟩ := h
    exact ⟨u, r, rfl, h1, ih h2⟩
theorem aCmpU_ok (ok : Ok ns σ τ ρ s) {op : Cop} {x y : AU} {c : A} {u w : U} (e : aCmpU σ.st op x y = some c) (h : γU ns τ s x u) (h' : γU ns τ s y w) : ∃ b, cmpU op s u w = some b ∧ γ ns c (.bl b) := by
  have data : ∀ op', op = op' → ((dataA x).bind fun x => (dataA y).bind fun y => aCmp op' x y) = some c → (∀ t t', cmpU op s (.v t) (.v t') = cmpT op' t t') → ∃ b, cmpU op s u w = some b ∧ γ ns c (.bl b) := by
    intro op' ho e hc
    simp only [Option.bind_eq_some_iff] at e
    obtain ⟨a, e1, b, e2, e3⟩ := e
    obtain ⟨t, rfl, g⟩ := dataU h e1
    obtain ⟨t', rfl, g'⟩ := dataU h' e2
    obtain ⟨r, r1, r2⟩ := aCmp_ok e3 g g'
    exact ⟨r, by rw [hc, r1], r2⟩
  have views : ((viewA σ.st x).bind fun x => (viewA σ.st y).bind fun y => aCmp op x y) = some c → (∀ t t', asT s u = some t → asT s w = some t' → view 64 s u = some t → view 64 s w = some t' → cmpU op s u w = cmpT op t t') → ∃ b, cmpU op s u w = some b ∧ γ ns c (.bl b) := by
    intro e hc
    simp only [Option.bind_eq_some_iff] at e
    obtain ⟨a, e1, b, e2, e3⟩ := e
    obtain ⟨t, a1, v1, g, _⟩ := viewU ok h e1
    obtain ⟨t', a2, v2, g', _⟩ := viewU ok h' e2
    obtain ⟨r, r1, r2⟩ := aCmp_ok e3 g g'
    exact ⟨r, by rw [hc t t' a1 a2 v1 v2, r1], r2⟩
  cases op with
  | is => exact data .is rfl e fun _ _ => rfl
  | isn => exact data .isn rfl e fun _ _ => rfl
  | eq => exact views e fun t t' a1 a2 v1 v2 => by simp only [cmpU, v1, v2]
  | ne => exact views e fun t t' a1 a2 v1 v2 => by simp only [cmpU, v1, v2]
  | lt => exact views e fun t t' a1 a2 v1 v2 => by simp only [cmpU, a1, a2]
  | le => exact views e fun t t' a1 a2 v1 v2 => by simp only [cmpU, a1, a2]
  | gt => exact views e fun t t' a1 a2 v1 v2 => by simp only [cmpU, a1, a2]
  | ge => exact views e fun t t' a1 a2 v1 v2 => by simp only [cmpU, a1, a2]
  | mem => exact views e fun t t' a1 a2 v1 v2 => by simp only [cmpU, a1, a2]
  | nmem => exact views e fun t t' a1 a2 v1 v2 => by simp only [cmpU, a1, a2]
/-- the names behind a test -/
theorem Ok.refine {G : Glo} {C : Call} {c : E} {b : Bool} {s' : Store} {u : U} (ok : Ok ns σ τ ρ s) (e : ev G C c ρ s = .ok u s') (hb : truth s' u = some b) : Ok ns { σ with env := Cab.refine c b σ.env } τ ρ s ∧ dead (Cab.refine c b σ.env) = false := by
  obtain ⟨h1, h2⟩ := refine_ok c b ok.v e hb
  exact ⟨⟨h1, fun i k h => ok.r i k (h2.2 i k h), ok.f, ok.s, ok.l.trans h2.1.symm⟩, not_dead h1⟩
/-! ### the names within a block -/
theorem aWipe_len {env : AEnv} : ∀ is : List Nat, (aWipe env is).length = env.length
  | [] => rfl
  | i :: is => by simp only [aWipe, List.length_set, aWipe_len is]
theorem wipeE_len {ρ : Env} : ∀ is : List Nat, (wipeE ρ is).length = ρ.length
  | [] => rfl
  | i :: is => by simp only [wipeE, List.length_set, wipeE_len is]
theorem aWipe_get {env : AEnv} {j : Nat} {au : AU} : ∀ {is : List Nat}, (aWipe env is)[j]? = some (some au) → env[j]? = some (some au) ∧ j ∉ is
  | [], h => ⟨h, by simp⟩
  | i :: is, h => by
    simp only [aWipe] at h
    rcases get_set h with ⟨rfl, e⟩ | e
    · cases e
    · by_cases hij : i = j
      · subst hij
        by_cases hl : i < (aWipe env is).length
        · rw [List.getElem?_set_self hl] at h
          cases h
        · rw [List.getElem?_eq_none (by omega)] at e
          cases e
      · obtain ⟨h1, h2⟩ := aWipe_get e
        exact ⟨h1, fun z => (List.mem_cons.mp z).elim (fun z => hij z.symm) h2⟩
theorem wipeE_get {ρ : Env} {j : Nat} : ∀ {is : List Nat}, j ∉ is → (wipeE ρ is)[j]? = ρ[j]?
  | [], _ => rfl
  | i :: is, h => by
    simp only [wipeE]
    rw [List.getElem?_set_ne (show i ≠ j from fun e => h (by rw [e]; exact List.mem_cons_self)), wipeE_get fun z => h (List.mem_cons_of_mem _ z)]
theorem aMany_ok : ∀ {is : List Nat} {as : AT} {env env' : AEnv} {ts : List T} {ρ : Env}, aMany env is as = some env' → γt ns as ts → ρ.length = env.length → VOk ns env ρ → ∃ ρ', bindMany ρ is (ts.map .v) = some ρ' ∧ ts.length = is.length ∧ ρ'.length = env'.length ∧ VOk ns env' ρ' ∧ (∀ j, j ∉ is → ρ'[j]? = ρ[j]?) ∧ ∀ (j k : Nat), env'[j]? = some (some (AU.ref k)) → env[j]? = some (some (AU.ref k)) ∧ j ∉ is
  | [], .nil, env, env', ts, ρ, e, g, hl, h => by
    cases e
    cases (show ts = [] from g)
    exact ⟨ρ, rfl, rfl, hl, h, fun _ _ => rfl, fun j k h => ⟨h, by simp⟩⟩
  | i :: is, .cons a as, env, env', ts, ρ, e, g, hl, h => by
    obtain ⟨t, r, rfl, g1, g2⟩ := g
    have h1 : VOk ns (env.set i (some (.v a))) (ρ.set i (some (.v t))) := by
      intro j b hj
      by_cases hij : i = j
      · subst hij
        have hlt : i < env.length := by
          have := (List.getElem?_eq_some_iff.mp hj).1
          simpa using this
        rw [List.getElem?_set_self hlt] at hj
        cases hj
        exact ⟨t, by rw [List.getElem?_set_self (by rw [hl]; exact hlt)], g1⟩
      · rw [List.getElem?_set_ne hij] at hj
        obtain ⟨t', e1, e2⟩ := h j b hj
        exact ⟨t', by rw [List.getElem?_set_ne hij]; exact e1, e2⟩
    have e' : aMany (env.set i (some (.v a))) is as = some env' := e
    obtain ⟨ρ', r1, r2, r3, r4, r5, r6⟩ := aMany_ok (ρ := ρ.set i (some (.v t))) e' g2 (by rw [List.length_set, List.length_set, hl]) h1
    refine ⟨ρ', r1, by rw [List.length_cons, List.length_cons, r2], r3, r4, fun j hj => ?_, fun j k hj => ?_⟩
    · rw [r5 j fun z => hj (List.mem_cons_of_mem _ z), List.getElem?_set_ne (show i ≠ j from fun e => hj (by rw [e]; exact List.mem_cons_self))]
    · obtain ⟨h5, h6⟩ := r6 j k hj
      by_cases hij : i = j
      · subst hij
        have hlt : i < env.length := by
          have := (List.getElem?_eq_some_iff.mp h5).1
          simpa using this
        rw [List.getElem?_set_self hlt] at h5
        cases h5
      · rw [List.getElem?_set_ne hij] at h5
        exact ⟨h5, fun z => (List.mem_cons.mp z).elim (fun z => hij z.symm) h6⟩
  | [], .cons _ _, _, _, _, _, e, _, _, _ => by cases e
  | _ :: _, .nil, _, _, _, _, e, _, _, _ => by cases e
theorem aBind_ok {tg : Tgt} {x : A} {env env' : AEnv} {t : T} {ρ : Env} (e : aBind tg x env = some env') (g : γ ns x t) (hl : ρ.length = env.length) (h : VOk ns env ρ) : ∃ ρ', bindT tg (.v t) ρ = some ρ' ∧ ρ'.length = env'.length ∧ VOk ns env' ρ' ∧ (∀ j, j ∉ tgL tg → ρ'[j]? = ρ[j]?) ∧ (∀ (j k : Nat), env'[j]? = some (some (AU.ref k)) → env[j]? = some (some (AU.ref k)) ∧ j ∉ tgL tg) ∧ ∀ i, tg = .one i → i < ρ.length → ρ'[i]? = some (some (U.v t)) := by
  cases tg with
  | one i =>
    cases e
    have g2 : γt ns (.cons x .nil) [t] := ⟨t, [], rfl, g, rfl⟩
    obtain ⟨ρ', r1, r2, r3, r4, r5, r6⟩ := aMany_ok (is := [i]) (as := .cons x .nil) (env := env) rfl g2 hl h
    cases r1
    refine ⟨_, rfl, r3, r4, r5, r6, fun i' e hi => ?_⟩
    cases e
    exact List.getElem?_set_self hi
  | many is =>
    cases x <;> simp only [aBind, reduceCtorEq] at e
    obtain ⟨ts, rfl, g⟩ := g
    obtain ⟨ρ', r1, r2, r3, r4, r5, r6⟩ := aMany_ok e g hl h
    refine ⟨ρ', ?_, r3, r4, r5, r6, fun i e => by cases e⟩
    simp only [bindT, partsU, Option.bind_some, List.length_map, r2, if_true]
    exact r1
theorem γF_same {ρ ρ' : Env} {f : Fa} (h : ∀ j ∈ f.slots, ρ'[j]? = ρ[j]?) (g : γF ρ f) : γF ρ' f := by
  cases f with
  | ix i v =>
    obtain ⟨k, n, t, h1, h2, h3⟩ := g
    exact ⟨k, n, t, by rw [h i (by simp [Fa.slots])]; exact h1, by rw [h v (by simp [Fa.slots])]; exact h2, h3⟩
  | key i v =>
    obtain ⟨t, q, kvs, h1, h2, h3, h4⟩ := g
    exact ⟨t, q, kvs, by rw [h i (by simp [Fa.slots])]; exact h1, h2, by rw [h v (by simp [Fa.slots])]; exact h3, h4⟩
  | keys w v =>
    obtain ⟨ts, kvs, h1, h2, h3⟩ := g
    exact ⟨ts, kvs, by rw [h w (by simp [Fa.slots])]; exact h1, by rw [h v (by simp [Fa.slots])]; exact h2, h3⟩
theorem dropF_mem {is : List Nat} {fc : List Fa} {f : Fa} (h : f ∈ dropF is fc) : f ∈ fc ∧ ∀ j ∈ f.slots, j ∉ is := by
  unfold dropF at h
  obtain ⟨h1, h2⟩ := List.mem_filter.mp h
  refine ⟨h1, fun j hj hi => ?_⟩
  have := List.all_eq_true.mp h2 j hj
  simp [hi] at this
end
end Cab

set_option linter.all false
set_option maxRecDepth 100000
set_option maxHeartbeats 2000000
namespace Cab
theorem allInt_inv : ∀ {xs : List T} {is : List Int}, allInt xs = some is → xs = is.map .int := by
  intro xs
  induction xs with
  | nil => intro is e; cases e; rfl
  | cons x xs ih =>
    intro is e
    cases x <;> simp only [allInt, optAll, reduceCtorEq] at e
    cases e2 : allInt xs with
    | none => simp only [allInt] at e2; rw [e2] at e; cases e
    | some js =>
      have e3 := e2
      simp only [allInt] at e2
      rw [e2] at e
      cases e
      rw [ih e3]
      rfl
theorem allStr_inv : ∀ {xs : List T} {is : List (List Nat)}, allStr xs = some is → xs = is.map .str := by
  intro xs
  induction xs with
  | nil => intro is e; cases e; rfl
  | cons x xs ih =>
    intro is e
    cases x <;> simp only [allStr, optAll, reduceCtorEq] at e
    cases e2 : allStr xs with
    | none => simp only [allStr] at e2; rw [e2] at e; cases e
    | some js =>
      have e3 := e2
      simp only [allStr] at e2
      rw [e2] at e
      cases e
      rw [ih e3]
      rfl
theorem sortT_mem {xs ys : List T} (h : sortT xs = some ys) : ys.length = xs.length ∧ ∀ y ∈ ys, y ∈ xs := by
  unfold sortT at h
  split at h
  · rename_i is e
    cases h
    have := allInt_inv e
    subst this
    refine ⟨by simp [List.length_mergeSort], fun y hy => ?_⟩
    obtain ⟨i, hi, rfl⟩ := List.mem_map.mp hy
    exact List.mem_map.mpr ⟨i, (List.mergeSort_perm _ _).mem_iff.mp hi, rfl⟩
  · split at h
    · rename_i is e
      cases h
      have := allStr_inv e
      subst this
      refine ⟨by simp [List.length_mergeSort], fun y hy => ?_⟩
      obtain ⟨i, hi, rfl⟩ := List.mem_map.mp hy
      exact List.mem_map.mpr ⟨i, (List.mergeSort_perm _ _).mem_iff.mp hi, rfl⟩
    · cases h
theorem mem_rangeL {u : U} : ∀ {n : Nat} {a : Int}, u ∈ rangeL a n → ∃ i : Nat, i < n ∧ u = .v (.int (a + i))
  | 0, a, h => by cases h
  | n + 1, a, h => by
    rcases List.mem_cons.mp h with h | h
    · exact ⟨0, by omega, by rw [h]; simp⟩
    · obtain ⟨i, hi, e⟩ := mem_rangeL h
      exact ⟨i + 1, by omega, by rw [e]; congr 2; omega⟩
theorem map_v_inj : ∀ {xs ys : List T}, xs.map U.v = ys.map U.v → xs = ys
  | [], [], _ => rfl
  | [], _ :: _, h => by cases h
  | _ :: _, [], h => by cases h
  | x :: xs, y :: ys, h => by
    simp only [List.map_cons, List.cons.injEq, U.v.injEq] at h
    rw [h.1, map_v_inj h.2]
/-- of a thing that is walked, what the walk tells -/
def FaT (ρ : Env) (t : T) : Fa → Prop
  | .ix _ v => ∃ (k : Int) (n : Nat) (t' : T), t = .int k ∧ ρ[v]? = some (some (U.v t')) ∧ lenU [] (.v t') = some n ∧ 0 ≤ k ∧ k < n
  | .key _ v => ∃ (q : Ky) (kvs : List (Ky × T)), tKy t = some q ∧ ρ[v]? = some (some (U.v (.dct kvs))) ∧ (kget q kvs).isSome = true
  | .keys _ _ => True
def Fa.one : Fa → Nat
  | .ix i _ => i
  | .key i _ => i
  | .keys s _ => s
theorem kget_some {q : Ky} : ∀ {l : List (Ky × T)}, q ∈ l.map (·.1) → (kget q l).isSome = true
  | [], h => by cases h
  | r :: l, h => by
    unfold kget
    split
    · rfl
    · rename_i hne
      rcases List.mem_cons.mp h with h | h
      · exact absurd h.symm hne
      · exact kget_some h
theorem tKy_kyT (q : Ky) : tKy (kyT q) = some q := by cases q <;> rfl
section
variable {ns : List Int} {σ : AS} {τ : Nat → Nat} {ρ : Env} {s : Store} {G : Glo} {C : Call}
theorem walks_eq {us : List U} {ts : List T} (h : Walks (.xs us) s (ts.map .v)) : us = ts.map .v := by
  refine List.ext_getElem? fun k => ?_
  have := h.1 k
  simpa [wkAt] using this
theorem rng1_inv {a : E} {w : Wk} {s s' : Store} (e : evSrc G C (.rng1 a) ρ s = .ok w s') : ∃ j, ev G C a ρ s = .ok (.v (.int j)) s' ∧ w = .xs (rangeL 0 j.toNat) := by
  rw [evSrc_rng1] at e
  obtain ⟨u, s1, e1, e2⟩ := bind_inv e
  cases u with
  | v t =>
    cases t with
    | int j =>
      simp only at e2
      cases hb : inRng j with
      | true =>
        rw [hb, if_pos rfl] at e2
        cases e2
        exact ⟨j, e1, rfl⟩
      | false =>
        rw [hb, if_neg Bool.false_ne_true] at e2
        cases e2
    | _ => cases e2
  | _ => cases e2
theorem srcFa_ok {src : Src} {i : Nat} {w : Wk} {ts : List T} (ok : Ok ns σ τ ρ s) (e : evSrc G C src ρ s = .ok w s) (hw : Walks w s (ts.map .v)) : ∀ f ∈ srcFa src i σ, f.one = i ∧ ∀ t ∈ ts, FaT ρ t f := by
  intro f hf
  have dctCase : ∀ {v : Nat}, isDct σ.env[v]? = true → ∃ kvs, ρ[v]? = some (some (U.v (.dct kvs))) := by
    intro v h
    unfold isDct at h
    split at h
    · rename_i e
      obtain ⟨t, h1, h2⟩ := ok.v _ _ e
      obtain ⟨kvs, rfl, _⟩ := h2
      exact ⟨kvs, h1⟩
    · cases h
  unfold srcFa at hf
  split at hf
  · rename_i v
    split at hf
    · rename_i hd
      rw [List.mem_singleton.mp hf]
      refine ⟨rfl, fun t ht => ?_⟩
      unfold isData at hd
      split at hd
      · rename_i a ea
        obtain ⟨t', h1, h2⟩ := ok.v _ _ ea
        obtain ⟨j0, e2, rfl⟩ := rng1_inv e
        rw [ev_len, ev_var, h1] at e2
        simp only [bind_ok] at e2
        cases el : lenU s (.v t') with
        | none =>
          rw [el] at e2
          cases e2
        | some n =>
          rw [el] at e2
          cases e2
          have := walks_eq hw
          rw [Int.toNat_natCast] at this
          have hm : U.v t ∈ rangeL 0 n := by rw [this]; exact List.mem_map.mpr ⟨t, ht, rfl⟩
          obtain ⟨j, hj, ej⟩ := mem_rangeL hm
          cases ej
          exact ⟨_, n, t', rfl, h1, by rw [← lenU_any (s := s)]; exact el, by omega, by omega⟩
      · cases hd
    · cases hf
  · rename_i v
    rcases List.mem_append.mp hf with hf | hf
    · split at hf
      · rename_i hd
        rw [List.mem_singleton.mp hf]
        obtain ⟨kvs, h1⟩ := dctCase hd
        refine ⟨rfl, fun t ht => ?_⟩
        rw [evSrc_it, ev_var, h1] at e
        simp only [bind_ok, wkU_dct, okO_some] at e
        cases e
        have := walks_eq hw
        have hm : U.v t ∈ kvs.map fun p => U.v (kyT p.1) := by rw [this]; exact List.mem_map.mpr ⟨t, ht, rfl⟩
        obtain ⟨p, hp, ep⟩ := List.mem_map.mp hm
        cases ep
        exact ⟨p.1, kvs, tKy_kyT _, h1, kget_some (List.mem_map.mpr ⟨p, hp, rfl⟩)⟩
      · cases hf
    · obtain ⟨f', hf', ef⟩ := List.mem_filterMap.mp hf
      have g := ok.f f' hf'
      cases f' with
      | ix _ _ => cases ef
      | key _ _ => cases ef
      | keys w' d =>
        simp only [Option.ite_none_right_eq_some, Option.some.injEq] at ef
        obtain ⟨rfl, rfl⟩ := ef
        obtain ⟨ts0, kvs, h1, h2, h3⟩ := g
        refine ⟨rfl, fun t ht => ?_⟩
        rw [evSrc_it, ev_var, h1] at e
        simp only [bind_ok, wkU_lst, okO_some] at e
        cases e
        have := map_v_inj (walks_eq hw)
        subst this
        obtain ⟨q, q1, q2⟩ := h3 t ht
        exact ⟨q, kvs, q1, h2, q2⟩
  · rename_i v
    split at hf
    · rename_i hd
      rw [List.mem_singleton.mp hf]
      obtain ⟨kvs, h1⟩ := dctCase hd
      refine ⟨rfl, fun t ht => ?_⟩
      rw [evSrc_it, ev_prm, evs_cons, ev_var, h1] at e
      simp only [bind_ok, evs_nil, optAll_cons, asT_v, optAll_nil, primT] at e
      split at e
      · cases es : sortT (kvs.map fun p => kyT p.1) with
        | none =>
          rw [es] at e
          cases e
        | some ys =>
          rw [es] at e
          simp only [Option.map_some, okO_some, bind_ok, wkU_lst] at e
          cases e
          have := map_v_inj (walks_eq hw)
          subst this
          obtain ⟨p, hp, ep⟩ := List.mem_map.mp ((sortT_mem es).2 t ht)
          subst ep
          exact ⟨p.1, kvs, tKy_kyT _, h1, kget_some (List.mem_map.mpr ⟨p, hp, rfl⟩)⟩
      · cases e
    · cases hf
  · rename_i v i0
    split at hf
    · rename_i hd
      rw [List.mem_singleton.mp hf]
      obtain ⟨kvs, h1⟩ := dctCase hd
      refine ⟨rfl, fun t ht => ?_⟩
      have ec : ev G C (.cutL (.prm .sorted (.cons (.var v) .nil)) (.con (.int i0))) ρ s = (ev G C (.prm .sorted (.cons (.var v) .nil)) ρ s).bind fun u s => lift1 (cutT (some i0) none) s u := by
        simp only [ev, bind_ok]
      rw [evSrc_it, ec, ev_prm, evs_cons, ev_var, h1] at e
      simp only [bind_ok, evs_nil, optAll_cons, asT_v, optAll_nil, primT] at e
      split at e
      · cases es : sortT (kvs.map fun p => kyT p.1) with
        | none =>
          rw [es] at e
          cases e
        | some ys =>
          rw [es] at e
          simp only [Option.map_some, okO_some, bind_ok, lift1_v, cutT, wkU_lst] at e
          cases e
          have := map_v_inj (walks_eq hw)
          subst this
          obtain ⟨p, hp, ep⟩ := List.mem_map.mp ((sortT_mem es).2 t (cut_mem ht))
          subst ep
          exact ⟨p.1, kvs, tKy_kyT _, h1, kget_some (List.mem_map.mpr ⟨p, hp, rfl⟩)⟩
      · cases e
    · cases hf
  · cases hf
theorem inner_ok {own : List Nat} {tg : Tgt} {src : Src} {x : A} {σ' : AS} {w : Wk} {ts : List T} (ok : Ok ns σ τ ρ s) (e : inner own tg src x σ = some σ') (es : evSrc G C src ρ s = .ok w s) (hw : Walks w s (ts.map .v)) : ∀ t ∈ ts, γ ns x t → ∃ ρ', bindT tg (.v t) (wipeE ρ own) = some ρ' ∧ Ok ns σ' τ ρ' s ∧ σ'.st = σ.st := by
  intro t ht g
  unfold inner at e
  obtain ⟨env, e1, rfl⟩ := Option.map_eq_some_iff.mp e
  have hv : VOk ns (aWipe σ.env own) (wipeE ρ own) := by
    intro i a hi
    obtain ⟨h1, h2⟩ := aWipe_get hi
    obtain ⟨t', h3, h4⟩ := ok.v i a h1
    exact ⟨t', by rw [wipeE_get h2]; exact h3, h4⟩
  obtain ⟨ρ', b1, b2, b3, b4, b5, b6⟩ := aBind_ok (ρ := wipeE ρ own) e1 g (by rw [wipeE_len, aWipe_len]; exact ok.l) hv
  have same : ∀ j, j ∉ own → j ∉ tgL tg → ρ'[j]? = ρ[j]? := fun j h1 h2 => by rw [b4 j h2, wipeE_get h1]
  refine ⟨ρ', b1, ⟨b3, fun i k hi => ?_, fun f hf => ?_, ok.s, b2⟩, rfl⟩
  · obtain ⟨h1, h2⟩ := b5 i k hi
    obtain ⟨h3, h4⟩ := aWipe_get h1
    obtain ⟨j, h5, h6⟩ := ok.r i k h3
    exact ⟨j, by rw [same i h4 h2]; exact h5, h6⟩
  · rcases List.mem_append.mp hf with hf | hf
    · cases tg with
      | many is => cases hf
      | one i =>
        simp only at hf
        split at hf
        · rename_i hi
          obtain ⟨hf1, hf2⟩ := List.mem_filter.mp hf
          obtain ⟨h1, h2⟩ := srcFa_ok ok es hw f hf1
          have hρ : ρ'[i]? = some (some (U.v t)) := b6 i rfl (by rw [wipeE_len, ok.l]; exact hi)
          have h3 := h2 t ht
          cases f with
          | ix i' v =>
            cases h1
            obtain ⟨k, n, t', rfl, h4, h5⟩ := h3
            have hn : v ∉ i' :: own := by simpa [Fa.one] using hf2
            exact ⟨k, n, t', hρ, by rw [same v (fun z => hn (List.mem_cons_of_mem _ z)) (fun z => hn (by simp [tgL] at z; rw [z]; exact List.mem_cons_self))]; exact h4, h5⟩
          | key i' v =>
            cases h1
            obtain ⟨q, kvs, h4, h5, h6⟩ := h3
            have hn : v ∉ i' :: own := by simpa [Fa.one] using hf2
            exact ⟨t, q, kvs, hρ, h4, by rw [same v (fun z => hn (List.mem_cons_of_mem _ z)) (fun z => hn (by simp [tgL] at z; rw [z]; exact List.mem_cons_self))]; exact h5, h6⟩
          | keys w' d => simp at hf2
        · cases hf
    · obtain ⟨h1, h2⟩ := dropF_mem hf
      refine γF_same (fun j hj => ?_) (ok.f f h1)
      have := h2 j hj
      exact same j (fun z => this (List.mem_append_left _ z)) fun z => this (List.mem_append_right _ z)
/-- the place that a remainder tells -/
theorem modLen_back {v : Nat} {b : E} {t : T} {u : U} (hb : modLen v b = true) (hv : ρ[v]? = some (some (U.v t))) (e : ev G C b ρ s = .ok u s) : ∃ (k : Int) (n : Nat), u = .v (.int k) ∧ lenU [] (.v t) = some n ∧ 0 ≤ k ∧ k < n := by
  unfold modLen at hb
  split at hb
  · rename_i a w
    have hb := eq_of_beq hb
    subst hb
    rw [ev_bin] at e
    obtain ⟨x, s1, e1, e2⟩ := bind_inv e
    obtain ⟨y, s2, e3, e4⟩ := bind_inv e2
    rw [ev_len, ev_var, hv] at e3
    simp only [bind_ok] at e3
    rw [lenU_any] at e3
    cases el : lenU [] (.v t) with
    | none =>
      rw [el] at e3
      cases e3
    | some n =>
      rw [el] at e3
      cases e3
      unfold lift2 at e4
      cases ex : asT s1 x with
      | none =>
        rw [ex] at e4
        cases e4
      | some tx =>
        rw [ex] at e4
        simp only [asT_v] at e4
        cases eb : binT .mod tx (.int n) with
        | none =>
          rw [eb] at e4
          cases e4
        | some z =>
          rw [eb] at e4
          cases e4
          cases tx <;> simp only [binT, reduceCtorEq, Option.ite_none_right_eq_some, Option.some.injEq] at eb
          obtain ⟨hn, rfl⟩ := eb
          exact ⟨_, n, rfl, rfl, Int.emod_nonneg _ (by omega), Int.emod_lt_of_pos _ hn⟩
  · cases hb
theorem spIx_ok (ok : Ok ns σ τ ρ s) {a b : E} {x r : A} {t : T} {u : U} (e : spIx σ a b x = some r) (ea : ev G C a ρ s = .ok (.v t) s) (eb : ev G C b ρ s = .ok u s) (g : γ ns x t) : ∃ k w, u = .v k ∧ idxT t k = some w ∧ γ ns r w := by
  have mod : ∀ {v : Nat}, a = .var v → (if modLen v b then lift1A elem1 x else none) = some r → ∃ k w, u = .v k ∧ idxT t k = some w ∧ γ ns r w := by
    intro v ha e'
    subst ha
    split at e'
    · rename_i hm
      have hv : ρ[v]? = some (some (U.v t)) := by
        rw [ev_var] at ea
        split at ea
        · rename_i h
          cases ea
          exact h
        · cases ea
      obtain ⟨k, n, rfl, h1, h2, h3⟩ := modLen_back hm hv eb
      obtain ⟨w, w1, w2⟩ := elem1_ok e' g h1 h2 h3
      exact ⟨_, w, rfl, w1, w2⟩
    · cases e'
  unfold spIx at e
  split at e
  · rename_i v i
    have at_ : ∀ {j : Nat} {u' : U}, ev G C (.var j) ρ s = .ok u' s → ρ[j]? = some (some u') := by
      intro j u' h
      rw [ev_var] at h
      split at h
      · rename_i h'
        cases h
        exact h'
      · cases h
    have ha := at_ ea
    have hb := at_ eb
    split at e
    · rename_i hf
      obtain ⟨k, n, t', h1, h2, h3, h4, h5⟩ := ok.f _ hf
      rw [hb] at h1
      cases h1
      rw [ha] at h2
      cases h2
      obtain ⟨w, w1, w2⟩ := elem1_ok e g h3 h4 h5
      exact ⟨_, w, rfl, w1, w2⟩
    · split at e
      · rename_i hf
        obtain ⟨t', q, kvs, h1, h2, h3, h4⟩ := ok.f _ hf
        rw [hb] at h1
        cases h1
        rw [ha] at h3
        cases h3
        obtain ⟨w, w1, w2⟩ := elemD_ok e g h2 h4
        exact ⟨_, w, rfl, w1, w2⟩
      · cases e
  · exact mod rfl e
  · rename_i v
    split at e
    · rename_i hm
      rw [Bool.and_eq_true] at hm
      obtain ⟨hm, hd⟩ := hm
      rw [ev_prm, evs_cons, ev_var] at ea
      split at ea
      · rename_i u0 hv
        simp only [bind_ok, evs_nil, optAll_cons, optAll_nil] at ea
        cases eu : asT s u0 with
        | none =>
          rw [eu] at ea
          cases ea
        | some t0 =>
          rw [eu] at ea
          simp only at ea
          cases ep : primT .sorted [t0] with
          | none =>
            rw [ep] at ea
            cases ea
          | some y =>
            rw [ep] at ea
            simp only [Option.map_some, okO_some, R.ok.injEq, U.v.injEq, and_true] at ea
            subst ea
            have len : lenU [] (.v y) = lenU [] (.v t0) := by
              cases t0 <;> simp only [primT, reduceCtorEq, Option.ite_none_right_eq_some, Option.map_eq_some_iff] at ep
              · obtain ⟨_, ys, e1, rfl⟩ := ep
                simp only [lenU, (sortT_mem e1).1]
              · obtain ⟨_, ys, e1, rfl⟩ := ep
                simp only [lenU, (sortT_mem e1).1, List.length_map]
            have hm2 : ∃ (k : Int) (n : Nat), u = .v (.int k) ∧ lenU [] (.v t0) = some n ∧ 0 ≤ k ∧ k < n := by
              cases u0 with
              | v t1 =>
                cases eu
                exact modLen_back hm hv eb
              | tup us =>
                simp only [asT, Option.map_eq_some_iff] at eu
                obtain ⟨_, _, rfl⟩ := eu
                simp [primT] at ep
              | ref j =>
                exfalso
                unfold isData at hd
                split at hd
                · rename_i a0 ea0
                  obtain ⟨t1, h1, _⟩ := ok.v _ _ ea0
                  rw [hv] at h1
                  cases h1
                · cases hd
            obtain ⟨k, n, rfl, h1, h2, h3⟩ := hm2
            obtain ⟨w, w1, w2⟩ := elem1_ok e g (by rw [len]; exact h1) h2 h3
            exact ⟨_, w, rfl, w1, w2⟩
      · cases ea
    · cases e
  · cases e
end
end Cab

set_option linter.all false
set_option maxRecDepth 100000
set_option maxHeartbeats 2000000
namespace Cab
section
variable {ns : List Int} {G : Glo} {C : Call} {CA : Nat → List A → Option A}
theorem lift2_as {f : T → T → Option T} {s : Store} {u w : U} {t t' : T} (h : asT s u = some t) (h' : asT s w = some t') : lift2 f s u w = okO ((f t t').map .v) s := by
  simp only [lift2, h, h']
theorem lift1_as {f : T → Option T} {s : Store} {u : U} {t : T} (h : asT s u = some t) : lift1 f s u = okO ((f t).map .v) s := by
  simp only [lift1, h]
theorem ev_neg (a : E) (ρ : Env) (s : Store) : ev G C (.neg a) ρ s = (ev G C a ρ s).bind fun u s => (match u with
    | .v (.int i) => .ok (.v (.int (-i))) s
    | _ => .bad) := by
  simp only [ev]
  all_goals rfl
theorem ev_chn (o1 o2 : Cop) (a b c : E) (ρ : Env) (s : Store) : ev G C (.chn o1 o2 a b c) ρ s = (ev G C a ρ s).bind fun u s => (ev G C b ρ s).bind fun w s => (match cmpU o1 s u w with
    | some true => (ev G C c ρ s).bind fun z s => okO ((cmpU o2 s w z).map fun b => .v (.bl b)) s
    | some false => .ok (.v (.bl false)) s
    | none => .bad) := by
  simp only [ev]
  all_goals rfl
theorem ev_ite (c a b : E) (ρ : Env) (s : Store) : ev G C (.ite c a b) ρ s = (ev G C c ρ s).bind fun u s => (match truth s u with
    | some true => ev G C a ρ s
    | some false => ev G C b ρ s
    | none => .bad) := by
  simp only [ev]
  all_goals rfl
theorem ev_glo (g : Nat) (ρ : Env) (s : Store) : ev G C (.glo g) ρ s = (match G g with
    | some t => .ok (.v t) s
    | none => .bad) := by
  simp only [ev]
  all_goals rfl
theorem ev_cutL (a lo : E) (ρ : Env) (s : Store) : ev G C (.cutL a lo) ρ s = (ev G C a ρ s).bind fun u s => (ev G C lo ρ s).bind fun w s => (match w with
    | .v (.int i) => lift1 (cutT (some i) none) s u
    | _ => .bad) := by
  simp only [ev]
  all_goals rfl
theorem ev_cutB (a lo hi : E) (ρ : Env) (s : Store) : ev G C (.cutB a lo hi) ρ s = (ev G C a ρ s).bind fun u s => (ev G C lo ρ s).bind fun w s => (match w with
    | .v (.int i) => (ev G C hi ρ s).bind fun z s => (match z with
      | .v (.int j) => lift1 (cutT (some i) (some j)) s u
      | _ => .bad)
    | _ => .bad) := by
  simp only [ev]
  all_goals rfl
theorem ev_dctd (ks : List Ky) (vs : Es) (ρ : Env) (s : Store) : ev G C (.dctd ks vs) ρ s = (evs G C vs ρ s).bind fun ws s => if ks.length = ws.length ∧ ks.length ≤ 15 then okO ((optAll unV ws).map fun ts => .v (.dct (merge [] (ks.zip ts)))) s else .bad := by
  simp only [ev]
theorem ev_dctE (es : Es) (ρ : Env) (s : Store) : ev G C (.dctE es) ρ s = (evs G C es ρ s).bind fun us s => (match pairsU us with
    | some ps => if ps.length ≤ 15 then okO ((optAll unKV ps).map fun ts => .v (.dct (merge [] ts))) s else .bad
    | none => .bad) := by
  simp only [ev]
  all_goals rfl
theorem ev_meth (p : Prm) (a : E) (es : Es) (ρ : Env) (s : Store) : ev G C (.meth p a es) ρ s = (ev G C a ρ s).bind fun u s => if headOk p s u then (evs G C es ρ s).bind fun us s => (match asT s u, optAll (asT s) us with
    | some t, some ts => if metOk p us then okO ((primT p (t :: ts)).map .v) s else .bad
    | _, _ => .bad) else .bad := by
  simp only [ev]
  all_goals rfl
theorem ev_revS (a : E) (ρ : Env) (s : Store) : ev G C (.revS a) ρ s = (ev G C a ρ s).bind fun u s => lift1 revT s u := by
  simp only [ev]
theorem evSrc_rng2 (a b : E) (ρ : Env) (s : Store) : evSrc G C (.rng2 a b) ρ s = (ev G C a ρ s).bind fun u s => (ev G C b ρ s).bind fun w s => (match u, w with
    | .v (.int i), .v (.int j) => if inRng i && inRng j then .ok (.xs (rangeL i (j - i).toNat)) s else .bad
    | _, _ => .bad) := by
  simp only [evSrc]
  all_goals rfl
theorem evSrc_items (e : E) (ρ : Env) (s : Store) : evSrc G C (.items e) ρ s = (ev G C e ρ s).bind fun u s => (match u with
    | .v (.dct kvs) => .ok (.xs (kvs.map fun p => .v (.tup [kyT p.1, p.2]))) s
    | _ => .bad) := by
  simp only [evSrc]
  all_goals rfl
theorem evSrc_values (e : E) (ρ : Env) (s : Store) : evSrc G C (.values e) ρ s = (ev G C e ρ s).bind fun u s => (match u with
    | .v (.dct kvs) => .ok (.xs (kvs.map fun p => .v p.2)) s
    | _ => .bad) := by
  simp only [evSrc]
  all_goals rfl
theorem γl_one {a : A} {ts : List T} (h : γl ns [a] ts) : ∃ t, ts = [t] ∧ γ ns a t := by
  obtain ⟨t, r, rfl, h1, h2⟩ := h
  cases (show r = [] from h2)
  exact ⟨t, rfl, h1⟩
theorem γl_two {a b : A} {ts : List T} (h : γl ns [a, b] ts) : ∃ t t', ts = [t, t'] ∧ γ ns a t ∧ γ ns b t' := by
  obtain ⟨t, r, rfl, h1, h2⟩ := h
  obtain ⟨t', rfl, h3⟩ := γl_one h2
  exact ⟨t, t', rfl, h1, h3⟩
theorem aCutB1_ok (i j : Int) : Snd1 ns aCutB1 (cutT (some i) (some j)) := by
  intro x c t e h
  cases x <;> simp only [aCutB1, reduceCtorEq, Option.some.injEq] at e <;> subst e
  · obtain ⟨xs, rfl, h1, h2⟩ := h
    exact ⟨_, rfl, _, rfl, Nat.zero_le _, Nat.le_trans (cut_len' _ _ _) h2⟩
  · obtain ⟨xs, rfl, h1, h2, h3⟩ := h
    exact ⟨_, rfl, _, rfl, Nat.zero_le _, Nat.le_trans (cut_len' _ _ _) h2, fun z hz => h3 z (cut_mem hz)⟩
theorem rev1_ok : Snd1 ns rev1 revT := by
  intro x c t e h
  cases x <;> simp only [rev1, reduceCtorEq, Option.some.injEq] at e <;> subst e
  · obtain ⟨xs, rfl, h1, h2⟩ := h
    exact ⟨_, rfl, _, rfl, by simpa using h1, by simpa using h2⟩
  · obtain ⟨xs, rfl, h1, h2, h3⟩ := h
    exact ⟨_, rfl, _, rfl, by simpa using h1, by simpa using h2, fun z hz => h3 z (by simpa using hz)⟩
theorem zip_pairs {ks : List Ky} {ts : List T} {a : A} {p : Ky × T} (h : p ∈ ks.zip ts) (hk : ks.all kyOkA = true) (g : ∀ t ∈ ts, γ ns a t) : KeyIn (ks.all strKy) p.1 ∧ γ ns a p.2 := by
  obtain ⟨h1, h2⟩ := List.of_mem_zip (show (p.1, p.2) ∈ ks.zip ts from h)
  refine ⟨?_, g _ h2⟩
  have hk1 := List.all_eq_true.mp hk _ h1
  cases ek : p.1 with
  | s x =>
    rw [ek] at hk1
    show x.length ≤ KW
    exact of_decide_eq_true hk1
  | i n =>
    show ks.all strKy = false
    rw [List.all_eq_false]
    exact ⟨.i n, ek ▸ h1, by simp [strKy]⟩
theorem pairsA_ok : ∀ {xs : List A} {p : Bool × A} {ts : List T}, pairsA xs = some p → γl ns xs ts → ∃ ps : List (Ky × T), pairsU (ts.map .v) = some (ps.map fun q => (q.1, U.v q.2)) ∧ 2 * ps.length = xs.length ∧ ∀ q ∈ ps, KeyIn p.1 q.1 ∧ γ ns p.2 q.2
  | [], p, ts, e, h => by
    cases e
    cases (show ts = [] from h)
    exact ⟨[], rfl, rfl, fun q hq => by cases hq⟩
  | [x], p, ts, e, h => by cases x <;> cases e
  | k :: x :: r, p, ts, e, h => by
    obtain ⟨t, r1, rfl, h1, h2⟩ := h
    obtain ⟨t', r2, rfl, h3, h4⟩ := h2
    have kin : ∀ {b b' : Bool} {q : Ky}, KeyIn b q → (b' = true → b = true) → KeyIn b' q := by
      intro b b' q h hb
      cases q with
      | s x => exact h
      | i n =>
        cases b' with
        | false => rfl
        | true =>
          rw [show b = false from h] at hb
          cases hb rfl
    cases k <;> simp only [pairsA, reduceCtorEq, Option.ite_none_right_eq_some, Option.map_eq_some_iff] at e
    · obtain ⟨q, e1, rfl⟩ := e
      obtain ⟨ps, p1, p2, p3⟩ := pairsA_ok e1 h4
      obtain ⟨n, rfl, _⟩ := h1
      refine ⟨(.i n, t') :: ps, by simp only [List.map_cons, pairsU, tKy, p1], by simp only [List.length_cons]; omega, fun z hz => ?_⟩
      rcases List.mem_cons.mp hz with hz | hz
      · rw [hz]
        exact ⟨rfl, join_l h3⟩
      · exact ⟨kin (p3 z hz).1 (fun h => by cases h), join_r (p3 z hz).2⟩
    · obtain ⟨hk, q, e1, rfl⟩ := e
      obtain ⟨ps, p1, p2, p3⟩ := pairsA_ok e1 h4
      obtain ⟨y, rfl, _, hy⟩ := h1
      refine ⟨(.s y, t') :: ps, by simp only [List.map_cons, pairsU, tKy, p1], by simp only [List.length_cons]; omega, fun z hz => ?_⟩
      rcases List.mem_cons.mp hz with hz | hz
      · rw [hz]
        exact ⟨by show y.length ≤ KW; omega, join_l h3⟩
      · exact ⟨(p3 z hz).1, join_r (p3 z hz).2⟩
theorem rangeL_map (n : Nat) : ((List.range n).map fun (k : Nat) => T.int k).map U.v = rangeL 0 n := by
  rw [List.map_map]
  refine List.ext_getElem (by simp [rangeL_len]) fun i h1 h2 => ?_
  rw [rangeL_at]
  simp
theorem rangeL_mapA (a : Int) (n : Nat) : ((List.range n).map fun (k : Nat) => T.int (a + k)).map U.v = rangeL a n := by
  rw [List.map_map]
  refine List.ext_getElem (by simp [rangeL_len]) fun i h1 h2 => ?_
  rw [rangeL_at]
  simp
theorem dct_head {σ : AS} {τ : Nat → Nat} {ρ : Env} {s : Store} {x : AU} {u : U} {kvs : List (Ky × T)} (ok : Ok ns σ τ ρ s) (g : γU ns τ s x u) (a1 : asT s u = some (.dct kvs)) : (dctU s u).isSome = true := by
  cases u with
  | v t =>
    cases a1
    rfl
  | tup us =>
    simp only [asT, Option.map_eq_some_iff] at a1
    obtain ⟨_, _, h⟩ := a1
    cases h
  | ref j =>
    simp only [asT] at a1
    cases e : s[j]? with
    | none => rw [e] at a1; cases a1
    | some o =>
      rw [e] at a1
      cases o with
      | lst us =>
        simp only [Option.map_eq_some_iff] at a1
        obtain ⟨_, _, h⟩ := a1
        cases h
      | dct us => simp only [dctU, e]; rfl
      | ins c fs => cases a1
/-- what a comprehension's turns make, one by one -/
theorem choose_map {α : Type} {P : α → T → Prop} {xs : List α} (h : ∀ x ∈ xs, ∃ y, P x y) : ∃ g : α → T, ∀ x ∈ xs, P x (g x) := by
  classical
  refine ⟨fun x => if hx : ∃ y, P x y then hx.choose else .non, fun x hx => ?_⟩
  have := h x hx
  simp only [this, dif_pos]
  exact this.choose_spec
theorem asBl_v (b : Bool) : asBl (.v (.bl b)) = some b := rfl
mutual
theorem aE_ok (hC : ∀ f as a, CA f as = some a → ∀ ts, γl ns as ts → ∃ t, γ ns a t ∧ Ans C f ts t) : ∀ (e : E) {σ : AS} {au : AU}, aE G CA e σ = some au → ∀ {τ : Nat → Nat} {ρ : Env} {s : Store}, Ok ns σ τ ρ s → ∃ u, ev G C e ρ s = .ok u s ∧ γU ns τ s au u
  | .var i, σ, au, h, τ, ρ, s, ok => by
    simp only [aE] at h
    split at h
    · rename_i au' e
      cases h
      cases au with
      | v a =>
        obtain ⟨t, h1, h2⟩ := ok.v i a e
        exact ⟨.v t, by rw [ev_var, h1], t, rfl, h2⟩
      | ref k =>
        obtain ⟨j, h1, h2⟩ := ok.r i k e
        exact ⟨.ref j, by rw [ev_var, h1], j, rfl, h2⟩
    · cases h
  | .con t, σ, au, h, τ, ρ, s, ok => by
    simp only [aE, Option.ite_none_right_eq_some, Option.some.injEq] at h
    obtain ⟨h1, rfl⟩ := h
    exact ⟨.v t, ev_con t, t, rfl, toA_ok h1⟩
  | .glo g, σ, au, h, τ, ρ, s, ok => by
    simp only [aE] at h
    split at h
    · rename_i t e
      simp only [Option.ite_none_right_eq_some, Option.some.injEq] at h
      obtain ⟨h1, rfl⟩ := h
      exact ⟨.v t, by rw [ev_glo, e], t, rfl, toA_ok h1⟩
    · cases h
  | .bin op a b, σ, au, h, τ, ρ, s, ok => by
    simp only [aE, Option.bind_eq_some_iff, Option.map_eq_some_iff] at h
    obtain ⟨x, hx, y, hy, x', hx', y', hy', z, hz, rfl⟩ := h
    obtain ⟨u, e1, g1⟩ := aE_ok hC a hx ok
    obtain ⟨w, e2, g2⟩ := aE_ok hC b hy ok
    obtain ⟨t, a1, _, k1, _⟩ := viewU ok g1 hx'
    obtain ⟨t', a2, _, k2, _⟩ := viewU ok g2 hy'
    obtain ⟨r, r1, r2⟩ := aBin_ok hz k1 k2
    exact ⟨.v r, by rw [ev_bin, e1, bind_ok, e2, bind_ok, lift2_as a1 a2, r1]; rfl, r, rfl, r2⟩
  | .neg a, σ, au, h, τ, ρ, s, ok => by
    simp only [aE, Option.bind_eq_some_iff, Option.map_eq_some_iff] at h
    obtain ⟨x, hx, x', hx', z, hz, rfl⟩ := h
    obtain ⟨u, e1, g1⟩ := aE_ok hC a hx ok
    obtain ⟨t, rfl, k1⟩ := dataU g1 hx'
    obtain ⟨r, r1, r2⟩ := aNeg1_ok.lift _ _ _ hz k1
    cases t <;> simp only [reduceCtorEq, Option.some.injEq] at r1
    subst r1
    exact ⟨_, by rw [ev_neg, e1]; rfl, _, rfl, r2⟩
  | .not a, σ, au, h, τ, ρ, s, ok => by
    simp only [aE, Option.bind_eq_some_iff, Option.map_eq_some_iff] at h
    obtain ⟨x, hx, x', hx', z, hz, rfl⟩ := h
    obtain ⟨u, e1, g1⟩ := aE_ok hC a hx ok
    obtain ⟨t, rfl, k1⟩ := dataU g1 hx'
    obtain ⟨r, r1, r2⟩ := aNot1_ok.lift _ _ _ hz k1
    cases t <;> simp only [reduceCtorEq, Option.some.injEq] at r1
    subst r1
    exact ⟨_, by rw [ev_not, e1]; rfl, _, rfl, r2⟩
  | .and a b, σ, au, h, τ, ρ, s, ok => by
    simp only [aE, Option.bind_eq_some_iff] at h
    obtain ⟨x, hx, x', hx', p, hp, h⟩ := h
    obtain ⟨u, e1, g1⟩ := aE_ok hC a hx ok
    obtain ⟨t, rfl, k1⟩ := dataU g1 hx'
    obtain ⟨q, rfl, q1, q2⟩ := bools_ok hp k1
    rw [ev_and, e1, bind_ok, asBl_v]
    cases q with
    | true =>
      obtain ⟨ok2, dd⟩ := ok.refine (b := true) e1 rfl
      rw [q1 rfl, dd] at h
      simp only [Bool.not_false, Bool.and_self, if_true, Option.bind_eq_some_iff, Option.map_eq_some_iff] at h
      obtain ⟨y, hy, y', hy', rfl⟩ := h
      obtain ⟨w, e2, g2⟩ := aE_ok hC b hy ok2
      obtain ⟨t', rfl, k2⟩ := dataU g2 hy'
      exact ⟨.v t', e2, t', rfl, join_r k2⟩
    | false =>
      refine ⟨.v (.bl false), rfl, ?_⟩
      split at h
      · simp only [Option.bind_eq_some_iff, Option.map_eq_some_iff] at h
        obtain ⟨y, hy, y', hy', rfl⟩ := h
        rw [q2 rfl]
        exact ⟨.bl false, rfl, join_l rfl⟩
      · cases h
        exact ⟨.bl false, rfl, rfl⟩
  | .or a b, σ, au, h, τ, ρ, s, ok => by
    simp only [aE, Option.bind_eq_some_iff] at h
    obtain ⟨x, hx, x', hx', p, hp, h⟩ := h
    obtain ⟨u, e1, g1⟩ := aE_ok hC a hx ok
    obtain ⟨t, rfl, k1⟩ := dataU g1 hx'
    obtain ⟨q, rfl, q1, q2⟩ := bools_ok hp k1
    rw [ev_or, e1, bind_ok, asBl_v]
    cases q with
    | false =>
      obtain ⟨ok2, dd⟩ := ok.refine (b := false) e1 rfl
      rw [q2 rfl, dd] at h
      simp only [Bool.not_false, Bool.and_self, if_true, Option.bind_eq_some_iff, Option.map_eq_some_iff] at h
      obtain ⟨y, hy, y', hy', rfl⟩ := h
      obtain ⟨w, e2, g2⟩ := aE_ok hC b hy ok2
      obtain ⟨t', rfl, k2⟩ := dataU g2 hy'
      exact ⟨.v t', e2, t', rfl, join_r k2⟩
    | true =>
      refine ⟨.v (.bl true), rfl, ?_⟩
      split at h
      · simp only [Option.bind_eq_some_iff, Option.map_eq_some_iff] at h
        obtain ⟨y, hy, y', hy', rfl⟩ := h
        rw [q1 rfl]
        exact ⟨.bl true, rfl, join_l rfl⟩
      · cases h
        exact ⟨.bl true, rfl, rfl⟩
  | .cmp op a b, σ, au, h, τ, ρ, s, ok => by
    simp only [aE, Option.bind_eq_some_iff, Option.map_eq_some_iff] at h
    obtain ⟨x, hx, y, hy, z, hz, rfl⟩ := h
    obtain ⟨u, e1, g1⟩ := aE_ok hC a hx ok
    obtain ⟨w, e2, g2⟩ := aE_ok hC b hy ok
    obtain ⟨r, r1, r2⟩ := aCmpU_ok ok hz g1 g2
    exact ⟨.v (.bl r), by rw [ev_cmp, e1, bind_ok, e2, bind_ok, r1]; rfl, _, rfl, r2⟩
  | .chn o1 o2 a b c, σ, au, h, τ, ρ, s, ok => by
    simp only [aE, Option.bind_eq_some_iff, Option.map_eq_some_iff] at h
    obtain ⟨x, hx, y, hy, r0, hr, p, hp, z, hz, q, hq, rfl⟩ := h
    obtain ⟨u, e1, g1⟩ := aE_ok hC a hx ok
    obtain ⟨w, e2, g2⟩ := aE_ok hC b hy ok
    obtain ⟨v, e3, g3⟩ := aE_ok hC c hz ok
    obtain ⟨r, r1, r2⟩ := aCmpU_ok ok hr g1 g2
    obtain ⟨r', r3, r4⟩ := aCmpU_ok ok hq g2 g3
    rw [ev_chn, e1, bind_ok, e2, bind_ok, r1]
    cases r with
    | true => exact ⟨.v (.bl r'), by simp only [e3, bind_ok, r3, Option.map_some, okO_some], _, rfl, join_r r4⟩
    | false => exact ⟨.v (.bl false), rfl, _, rfl, join_l rfl⟩
  | .ite c a b, σ, au, h, τ, ρ, s, ok => by
    simp only [aE, Option.bind_eq_some_iff, Option.map_eq_some_iff] at h
    obtain ⟨x, hx, x', hx', p, hp, y, hy, z, hz, rfl⟩ := h
    obtain ⟨u, e1, g1⟩ := aE_ok hC c hx ok
    obtain ⟨t, rfl, k1⟩ := dataU g1 hx'
    obtain ⟨q, q0, q1, q2⟩ := truA_ok (s := s) hp k1
    rw [ev_ite, e1, bind_ok, q0]
    cases q with
    | true =>
      obtain ⟨ok2, dd⟩ := ok.refine (b := true) e1 q0
      rw [q1 rfl, dd] at hy
      simp only [Bool.not_false, Bool.and_self, if_true, Option.bind_eq_some_iff] at hy
      obtain ⟨y0, hy, hy'⟩ := hy
      obtain ⟨w, e2, g2⟩ := aE_ok hC a hy ok2
      obtain ⟨t', rfl, k2⟩ := dataU g2 hy'
      exact ⟨.v t', e2, t', rfl, join_l k2⟩
    | false =>
      obtain ⟨ok2, dd⟩ := ok.refine (b := false) e1 q0
      rw [q2 rfl, dd] at hz
      simp only [Bool.not_false, Bool.and_self, if_true, Option.bind_eq_some_iff] at hz
      obtain ⟨y0, hz, hz'⟩ := hz
      obtain ⟨w, e2, g2⟩ := aE_ok hC b hz ok2
      obtain ⟨t', rfl, k2⟩ := dataU g2 hz'
      exact ⟨.v t', e2, t', rfl, join_r k2⟩
  | .call md f as, σ, au, h, τ, ρ, s, ok => by
    simp only [aE, Option.bind_eq_some_iff, Option.ite_none_right_eq_some, Option.some.injEq] at h
    obtain ⟨xs, hx, ys, hy, r, hr, ⟨rfl, hs⟩, rfl⟩ := h
    obtain ⟨us, e1, g1⟩ := aEs_ok hC as hx ok
    obtain ⟨ts, v1, v2, k⟩ := viewsU ok g1 hy
    obtain ⟨t, kt, u', s', ea, ev⟩ := hC f ys r hr ts k
    refine ⟨.v t, ?_, t, rfl, kt⟩
    rw [ev_call, e1, bind_ok]
    have hv : (us.all isV || isScalar t) = true := by
      rw [Bool.or_eq_true] at hs ⊢
      rcases hs with hs | hs
      · obtain ⟨zs, hz⟩ := Option.isSome_iff_exists.mp hs
        obtain ⟨ts', rfl, _⟩ := datasU g1 hz
        exact .inl (isV_v ts')
      · exact .inr (scalA_ok hs kt)
    simp only [callM, v1, ea, ev, hv, if_true]
  | .prm p as, σ, au, h, τ, ρ, s, ok => by
    simp only [aE, Option.bind_eq_some_iff, Option.map_eq_some_iff] at h
    obtain ⟨xs, hx, ys, hy, z, hz, rfl⟩ := h
    obtain ⟨us, e1, g1⟩ := aEs_ok hC as hx ok
    obtain ⟨ts, v1, v2, k⟩ := viewsU ok g1 hy
    have key : ∃ w, primT p ts = some w ∧ γ ns z w := by
      split at hz
      · obtain ⟨t, rfl, k0⟩ := γl_one k
        exact (aPrm1_ok p).lift _ _ _ hz k0
      · obtain ⟨t, t', rfl, k0, k1⟩ := γl_two k
        exact (aPrm2_ok p).lift _ _ _ _ _ hz k0 k1
      · cases hz
    obtain ⟨w, w1, w2⟩ := key
    exact ⟨.v w, by rw [ev_prm, e1, bind_ok, v2]; simp only [w1, Option.map_some, okO_some], w, rfl, w2⟩
  | .len a, σ, au, h, τ, ρ, s, ok => by
    simp only [aE, Option.bind_eq_some_iff, Option.map_eq_some_iff] at h
    obtain ⟨x, hx, x', hx', z, hz, rfl⟩ := h
    obtain ⟨u, e1, g1⟩ := aE_ok hC a hx ok
    obtain ⟨t, _, _, k1, hl, _⟩ := viewU ok g1 hx'
    obtain ⟨r, r1, r2⟩ := aLen1_ok.lift _ _ _ hz k1
    simp only [lenTT, Option.map_eq_some_iff] at r1
    obtain ⟨n, n1, rfl⟩ := r1
    exact ⟨.v (.int n), by rw [ev_len, e1, bind_ok, hl, n1]; rfl, _, rfl, r2⟩
  | .isi a ks, σ, au, h, τ, ρ, s, ok => by
    simp only [aE, Option.bind_eq_some_iff, Option.map_eq_some_iff] at h
    obtain ⟨x, hx, x', hx', z, hz, rfl⟩ := h
    obtain ⟨u, e1, g1⟩ := aE_ok hC a hx ok
    obtain ⟨t, rfl, k1⟩ := dataU g1 hx'
    obtain ⟨r, r1, r2⟩ := (aIsi1_ok ks).lift _ _ _ hz k1
    cases r1
    exact ⟨_, by rw [ev_isi, e1]; rfl, _, rfl, r2⟩
  | .idx a b, σ, au, h, τ, ρ, s, ok => by
    simp only [aE, Option.bind_eq_some_iff] at h
    obtain ⟨x, hx, x', hx', y, hy, y', hy', h⟩ := h
    obtain ⟨u, e1, g1⟩ := aE_ok hC a hx ok
    obtain ⟨w, e2, g2⟩ := aE_ok hC b hy ok
    obtain ⟨t, rfl, k1⟩ := dataU g1 hx'
    obtain ⟨t', rfl, k2⟩ := dataU g2 hy'
    have fin : ∀ {z : A} {r : T}, au = .v z → idxT t t' = some r → γ ns z r → ∃ u, ev G C (.idx a b) ρ s = .ok u s ∧ γU ns τ s au u := by
      intro z r hz hr hg
      subst hz
      exact ⟨.v r, by rw [ev_idx, e1, bind_ok, e2, bind_ok, idxU_v, hr]; rfl, r, rfl, hg⟩
    split at h
    · rename_i xs hl
      obtain ⟨ts, e3, k3⟩ := aLits_ok hC a hl ok
      rw [e1] at e3
      cases e3
      simp only [Option.map_eq_some_iff] at h
      obtain ⟨z, hz, rfl⟩ := h
      obtain ⟨r, r1, r2⟩ := (pick1_ok k3).lift _ _ _ hz k2
      exact fin rfl r1 r2
    · split at h
      · rename_i r hr
        cases h
        obtain ⟨k, w, rfl', h1, h2⟩ := spIx_ok ok hr e1 e2 k1
        cases rfl'
        exact fin rfl h1 h2
      · simp only [Option.map_eq_some_iff] at h
        obtain ⟨z, hz, rfl⟩ := h
        obtain ⟨r, r1, r2⟩ := aIdx1_ok.lift _ _ _ _ _ hz k1 k2
        exact fin rfl r1 r2
  | .cutL a lo, σ, au, h, τ, ρ, s, ok => by
    simp only [aE, Option.bind_eq_some_iff, Option.map_eq_some_iff] at h
    obtain ⟨x, hx, x', hx', y, hy, y', hy', z, hz, rfl⟩ := h
    obtain ⟨u, e1, g1⟩ := aE_ok hC a hx ok
    obtain ⟨w, e2, g2⟩ := aE_ok hC lo hy ok
    obtain ⟨t, a1, _, k1, _⟩ := viewU ok g1 hx'
    obtain ⟨t', rfl, k2⟩ := dataU g2 hy'
    obtain ⟨r, r1, r2⟩ := aCutL1_ok.lift _ _ _ _ _ hz k1 k2
    cases t' <;> simp only [cutLT, reduceCtorEq] at r1
    exact ⟨.v r, by rw [ev_cutL, e1, bind_ok, e2, bind_ok]; simp only [lift1_as a1, r1, Option.map_some, okO_some], r, rfl, r2⟩
  | .cutR a hi, σ, au, h, τ, ρ, s, ok => by
    simp only [aE, Option.bind_eq_some_iff, Option.map_eq_some_iff] at h
    obtain ⟨x, hx, x', hx', y, hy, y', hy', z, hz, rfl⟩ := h
    obtain ⟨u, e1, g1⟩ := aE_ok hC a hx ok
    obtain ⟨w, e2, g2⟩ := aE_ok hC hi hy ok
    obtain ⟨t, a1, _, k1, _⟩ := viewU ok g1 hx'
    obtain ⟨t', rfl, k2⟩ := dataU g2 hy'
    obtain ⟨r, r1, r2⟩ := aCutR1_ok.lift _ _ _ _ _ hz k1 k2
    cases t' <;> simp only [cutRT, reduceCtorEq] at r1
    exact ⟨.v r, by rw [ev_cutR, e1, bind_ok, e2, bind_ok]; simp only [lift1_as a1, r1, Option.map_some, okO_some], r, rfl, r2⟩
  | .cutB a lo hi, σ, au, h, τ, ρ, s, ok => by
    simp only [aE, Option.bind_eq_some_iff, Option.ite_none_right_eq_some, Option.map_eq_some_iff] at h
    obtain ⟨x, hx, x', hx', y, hy, y', hy', q, hq, q', hq', hI, z, hz, rfl⟩ := h
    rw [Bool.and_eq_true] at hI
    obtain ⟨u, e1, g1⟩ := aE_ok hC a hx ok
    obtain ⟨w, e2, g2⟩ := aE_ok hC lo hy ok
    obtain ⟨v, e3, g3⟩ := aE_ok hC hi hq ok
    obtain ⟨t, a1, _, k1, _⟩ := viewU ok g1 hx'
    obtain ⟨t', rfl, k2⟩ := dataU g2 hy'
    obtain ⟨t'', rfl, k3⟩ := dataU g3 hq'
    obtain ⟨i, rfl⟩ := intOnly_ok hI.1 k2
    obtain ⟨j, rfl⟩ := intOnly_ok hI.2 k3
    obtain ⟨r, r1, r2⟩ := (aCutB1_ok i j).lift _ _ _ hz k1
    exact ⟨.v r, by rw [ev_cutB, e1, bind_ok, e2, bind_ok]; simp only [e3, bind_ok, lift1_as a1, r1, Option.map_some, okO_some], r, rfl, r2⟩
  | .tupd es, σ, au, h, τ, ρ, s, ok => by
    simp only [aE, Option.bind_eq_some_iff, Option.ite_none_right_eq_some, Option.some.injEq] at h
    obtain ⟨xs, hx, ys, hy, hl, rfl⟩ := h
    obtain ⟨us, e1, g1⟩ := aEs_ok hC es hx ok
    obtain ⟨ts, rfl, k⟩ := datasU g1 hy
    refine ⟨.v (.tup ts), ?_, _, rfl, ts, rfl, toAT'_ok k⟩
    rw [ev_tupd, e1, bind_ok, unV_v, List.length_map, γl_len k, if_pos hl]
  | .lstd es, σ, au, h, τ, ρ, s, ok => by
    simp only [aE, Option.bind_eq_some_iff, Option.ite_none_right_eq_some, Option.some.injEq] at h
    obtain ⟨xs, hx, ys, hy, hl, rfl⟩ := h
    obtain ⟨us, e1, g1⟩ := aEs_ok hC es hx ok
    obtain ⟨ts, rfl, k⟩ := datasU g1 hy
    have hk := γl_len k
    refine ⟨.v (.lst ts), ?_, _, rfl, ts, rfl, by omega, by omega, joinL_ok k⟩
    rw [ev_lstd, e1, bind_ok, unV_v, List.length_map, hk, if_pos hl]
    rfl
  | .dctd ks vs, σ, au, h, τ, ρ, s, ok => by
    simp only [aE, Option.bind_eq_some_iff, Option.ite_none_right_eq_some, Option.some.injEq] at h
    obtain ⟨xs, hx, ys, hy, ⟨h1, h2, h3⟩, rfl⟩ := h
    obtain ⟨us, e1, g1⟩ := aEs_ok hC vs hx ok
    obtain ⟨ts, rfl, k⟩ := datasU g1 hy
    have hk := γl_len k
    obtain ⟨r1, r2, r3, r4, r5⟩ := merge_ok (P := fun p => KeyIn (ks.all strKy) p.1 ∧ γ ns (joinL ys) p.2) (ps := ks.zip ts) (acc := []) List.nodup_nil (fun p hp => by cases hp) fun p hp => zip_pairs hp h3 (joinL_ok k)
    have hz : (ks.zip ts).length = ks.length := by rw [List.length_zip]; omega
    refine ⟨.v (.dct (merge [] (ks.zip ts))), ?_, _, rfl, _, rfl, ?_, ?_, r1, r2⟩
    · rw [ev_dctd, e1, bind_ok, unV_v, List.length_map, if_pos ⟨by omega, h2⟩]
      rfl
    · by_cases hn : ks.zip ts = []
      · rw [hn] at hz
        simp at hz
        omega
      · have := r5 hn
        omega
    · simp at r4
      omega
  | .dctE es, σ, au, h, τ, ρ, s, ok => by
    simp only [aE, Option.bind_eq_some_iff, Option.ite_none_right_eq_some, Option.some.injEq] at h
    obtain ⟨xs, hx, ys, hy, p, hp, hl, rfl⟩ := h
    obtain ⟨us, e1, g1⟩ := aEs_ok hC es hx ok
    obtain ⟨ts, rfl, k⟩ := datasU g1 hy
    obtain ⟨ps, p1, p2, p3⟩ := pairsA_ok hp k
    obtain ⟨r1, r2, r3, r4, r5⟩ := merge_ok (P := fun q => KeyIn p.1 q.1 ∧ γ ns p.2 q.2) (ps := ps) (acc := []) List.nodup_nil (fun p hp => by cases hp) p3
    refine ⟨.v (.dct (merge [] ps)), ?_, _, rfl, _, rfl, ?_, ?_, r1, r2⟩
    · rw [ev_dctE, e1, bind_ok, p1]
      simp only [List.length_map]
      rw [if_pos (by omega), kv_unKV]
      rfl
    · by_cases hn : ps = []
      · rw [hn] at p2
        simp at p2
        omega
      · have := r5 hn
        omega
    · simp at r4
      omega
  | .lc own tg src elt, σ, au, h, τ, ρ, s, ok => by
    simp only [aE, Option.bind_eq_some_iff, Option.ite_none_right_eq_some] at h
    obtain ⟨q, hq, hl, h⟩ := h
    obtain ⟨w, ts, e1, hw, l1, l2, g1⟩ := aSrc_ok hC src hq ok
    have hz : (ts.map U.v).length ≤ LIM := by rw [List.length_map]; omega
    split at h
    · rename_i h0
      cases h
      have : ts = [] := List.eq_nil_of_length_eq_zero (by omega)
      subst this
      exact ⟨.v (.lst []), ev_lc (xs := []) (fun _ => .non) e1 hw hz fun x hx => (by cases hx), _, rfl, [], rfl, Nat.zero_le _, Nat.le_refl _, fun x hx => by cases hx⟩
    · simp only [Option.bind_eq_some_iff, Option.map_eq_some_iff] at h
      obtain ⟨σ', hi, y, hy, y', hy', rfl⟩ := h
      have step : ∀ x ∈ ts.map U.v, ∃ t', ∃ ρ', bindT tg x (wipeE ρ own) = some ρ' ∧ ev G C elt ρ' s = .ok (.v t') s ∧ γ ns y' t' := by
        intro x hx
        obtain ⟨t, ht, rfl⟩ := List.mem_map.mp hx
        obtain ⟨ρ', b1, ok2, _⟩ := inner_ok (G := G) (C := C) ok hi e1 hw t ht (g1 t ht)
        obtain ⟨u, e2, g2⟩ := aE_ok hC elt hy ok2
        obtain ⟨t', rfl, k⟩ := dataU g2 hy'
        exact ⟨t', ρ', b1, e2, k⟩
      obtain ⟨g, hg⟩ := choose_map step
      refine ⟨.v (.lst ((ts.map U.v).map g)), ev_lc g e1 hw hz fun x hx => ?_, _, rfl, _, rfl, by simpa using l1, by simpa using l2, fun z hz' => ?_⟩
      · obtain ⟨ρ', b1, b2, _⟩ := hg x hx
        exact ⟨ρ', b1, b2⟩
      · obtain ⟨x, hx, rfl⟩ := List.mem_map.mp hz'
        obtain ⟨ρ', _, _, b3⟩ := hg x hx
        exact b3
  | .lcI own tg src c elt, σ, au, h, τ, ρ, s, ok => by
    simp only [aE, Option.bind_eq_some_iff, Option.ite_none_right_eq_some] at h
    obtain ⟨q, hq, hl, h⟩ := h
    obtain ⟨w, ts, e1, hw, l1, l2, g1⟩ := aSrc_ok hC src hq ok
    have hz : (ts.map U.v).length ≤ LIM := by rw [List.length_map]; omega
    split at h
    · rename_i h0
      cases h
      have : ts = [] := List.eq_nil_of_length_eq_zero (by omega)
      subst this
      exact ⟨.v (.lst []), ev_lcI (xs := []) (fun _ => true) (fun _ => .non) e1 hw hz fun x hx => (by cases hx), _, rfl, [], rfl, Nat.zero_le _, Nat.le_refl _, fun x hx => by cases hx⟩
    · simp only [Option.bind_eq_some_iff] at h
      obtain ⟨σ', hi, x0, hx0, x1, hx1, p, hp, h⟩ := h
      have step : ∀ x ∈ ts.map U.v, ∃ t', ∃ ρ' u b, bindT tg x (wipeE ρ own) = some ρ' ∧ ev G C c ρ' s = .ok u s ∧ truth s u = some b ∧ (b = true → ev G C elt ρ' s = .ok (.v t') s ∧ ∃ y', au = .v (.lst 0 q.2.2 y') ∧ γ ns y' t') := by
        intro x hx
        obtain ⟨t, ht, rfl⟩ := List.mem_map.mp hx
        obtain ⟨ρ', b1, ok2, _⟩ := inner_ok (G := G) (C := C) ok hi e1 hw t ht (g1 t ht)
        obtain ⟨u, e2, g2⟩ := aE_ok hC c hx0 ok2
        obtain ⟨tb, rfl, k⟩ := dataU g2 hx1
        obtain ⟨b, q0, q1, q2⟩ := truA_ok (s := s) hp k
        cases b with
        | false => exact ⟨.non, ρ', _, false, b1, e2, q0, fun z => by cases z⟩
        | true =>
          obtain ⟨ok3, dd⟩ := ok2.refine (b := true) e2 q0
          have h2 := h
          rw [q1 rfl, dd] at h2
          simp only [Bool.not_false, Bool.and_self, if_true, Option.bind_eq_some_iff, Option.map_eq_some_iff] at h2
          obtain ⟨y, hy, y', hy', rfl⟩ := h2
          obtain ⟨u', e3, g3⟩ := aE_ok hC elt hy ok3
          obtain ⟨t', rfl, k'⟩ := dataU g3 hy'
          exact ⟨t', ρ', _, true, b1, e2, q0, fun _ => ⟨e3, y', rfl, k'⟩⟩
      obtain ⟨g, hg⟩ := choose_map step
      have pb : ∃ pb : U → Bool, ∀ x ∈ ts.map U.v, ∃ ρ' u, bindT tg x (wipeE ρ own) = some ρ' ∧ ev G C c ρ' s = .ok u s ∧ truth s u = some (pb x) ∧ (pb x = true → ev G C elt ρ' s = .ok (.v (g x)) s ∧ ∃ y', au = .v (.lst 0 q.2.2 y') ∧ γ ns y' (g x)) := by
        classical
        refine ⟨fun x => if hx : x ∈ ts.map U.v then (hg x hx).choose_spec.choose_spec.choose else false, fun x hx => ?_⟩
        simp only [hx, dif_pos]
        exact ⟨_, _, (hg x hx).choose_spec.choose_spec.choose_spec⟩
      obtain ⟨pb, hpb⟩ := pb
      refine ⟨.v (.lst (((ts.map U.v).filter pb).map g)), ev_lcI pb g e1 hw hz fun x hx => ?_, ?_⟩
      · obtain ⟨ρ', u, b1, b2, b3, b4⟩ := hpb x hx
        exact ⟨ρ', u, b1, b2, b3, fun z => (b4 z).1⟩
      · have len : (((ts.map U.v).filter pb).map g).length ≤ q.2.2 := by
          rw [List.length_map]
          exact Nat.le_trans (List.length_filter_le _ _) (by rw [List.length_map]; exact l2)
        by_cases hn : ((ts.map U.v).filter pb) = []
        · have : ∃ y', au = .v (.lst 0 q.2.2 y') ∨ au = .v (.lst 0 0 .bot) := by
            split at h
            · simp only [Option.bind_eq_some_iff, Option.map_eq_some_iff] at h
              obtain ⟨y, hy, y', hy', rfl⟩ := h
              exact ⟨y', .inl rfl⟩
            · cases h
              exact ⟨.bot, .inr rfl⟩
          obtain ⟨y', e | e⟩ := this
          · rw [e, hn]
            exact ⟨_, rfl, [], rfl, Nat.zero_le _, Nat.zero_le _, fun x hx => by cases hx⟩
          · rw [e, hn]
            exact ⟨_, rfl, [], rfl, Nat.zero_le _, Nat.zero_le _, fun x hx => by cases hx⟩
        · obtain ⟨x0, r0, hx0⟩ := List.exists_cons_of_ne_nil hn
          have hm : x0 ∈ (ts.map U.v).filter pb := by rw [hx0]; exact List.mem_cons_self
          obtain ⟨m1, m2⟩ := List.mem_filter.mp hm
          obtain ⟨_, _, _, _, _, b4⟩ := hpb x0 m1
          obtain ⟨_, y', ey, _⟩ := b4 m2
          rw [ey]
          refine ⟨_, rfl, _, rfl, Nat.zero_le _, len, fun z hz' => ?_⟩
          obtain ⟨x, hx, rfl⟩ := List.mem_map.mp hz'
          obtain ⟨m3, m4⟩ := List.mem_filter.mp hx
          obtain ⟨_, _, _, _, _, b5⟩ := hpb x m3
          obtain ⟨_, y2, ey2, g2⟩ := b5 m4
          rw [ey] at ey2
          cases ey2
          exact g2
  | .meth p a es, σ, au, h, τ, ρ, s, ok => by
    simp only [aE, Option.bind_eq_some_iff, Option.map_eq_some_iff] at h
    obtain ⟨x, hx, ys, hy, z, hz, rfl⟩ := h
    obtain ⟨u, e1, g1⟩ := aE_ok hC a hx ok
    obtain ⟨us, e2, g2⟩ := aEs_ok hC es hy ok
    rw [ev_meth, e1, bind_ok]
    split at hz
    · simp only [Option.bind_eq_some_iff, Option.ite_none_right_eq_some] at hz
      obtain ⟨x', hx', y', hy', hs, hz⟩ := hz
      obtain ⟨t, rfl, k1⟩ := dataU g1 hx'
      obtain ⟨w, r, rfl, g3, g4⟩ := g2
      cases (show r = [] from g4)
      obtain ⟨t', a2, _, k2, _⟩ := viewU ok g3 hy'
      obtain ⟨sp, rfl⟩ := strOnly_ok hs k1
      obtain ⟨r, r1, r2⟩ := (aPrm2_ok .join).lift _ _ _ _ _ hz k1 k2
      refine ⟨.v r, ?_, r, rfl, r2⟩
      rw [show headOk .join s (.v (.str sp)) = true from rfl, if_pos rfl, e2, bind_ok]
      simp only [asT_v, optAll_cons, optAll_nil, a2]
      rw [show metOk .join [w] = true from rfl, if_pos rfl, show primT .join [.str sp, t'] = some r from r1]
      rfl
    · simp only [Option.bind_eq_some_iff, Option.ite_none_right_eq_some] at hz
      obtain ⟨x', hx', y', hy', hs, hz⟩ := hz
      obtain ⟨t, a1, _, k1, _⟩ := viewU ok g1 hx'
      obtain ⟨w, r, rfl, g3, g4⟩ := g2
      cases (show r = [] from g4)
      obtain ⟨t', rfl, k2⟩ := dataU g3 hy'
      obtain ⟨kvs, rfl⟩ := dctOnly_ok hs k1
      obtain ⟨r, r1, r2⟩ := (aPrm2_ok .get1).lift _ _ _ _ _ hz k1 k2
      refine ⟨.v r, ?_, r, rfl, r2⟩
      rw [show headOk .get1 s u = true from dct_head ok g1 a1, if_pos rfl, e2, bind_ok]
      simp only [asT_v, optAll_cons, optAll_nil, a1]
      rw [show metOk .get1 [U.v t'] = true from rfl, if_pos rfl, show primT .get1 [.dct kvs, t'] = some r from r1]
      rfl
    · simp only [Option.bind_eq_some_iff, Option.ite_none_right_eq_some] at hz
      obtain ⟨x', hx', hs, hz⟩ := hz
      obtain ⟨t, a1, _, k1, _⟩ := viewU ok g1 hx'
      cases (show us = [] from g2)
      obtain ⟨kvs, rfl⟩ := dctOnly_ok hs k1
      obtain ⟨r, r1, r2⟩ := (aPrm1_ok .values).lift _ _ _ hz k1
      refine ⟨.v r, ?_, r, rfl, r2⟩
      rw [show headOk .values s u = true from dct_head ok g1 a1, if_pos rfl, e2, bind_ok]
      simp only [optAll_nil, a1]
      rw [show metOk .values [] = true from rfl, if_pos rfl, show primT .values [.dct kvs] = some r from r1]
      rfl
    · cases hz
  | .revS a, σ, au, h, τ, ρ, s, ok => by
    simp only [aE, Option.bind_eq_some_iff, Option.map_eq_some_iff] at h
    obtain ⟨x, hx, x', hx', z, hz, rfl⟩ := h
    obtain ⟨u, e1, g1⟩ := aE_ok hC a hx ok
    obtain ⟨t, a1, _, k1, _⟩ := viewU ok g1 hx'
    obtain ⟨r, r1, r2⟩ := rev1_ok.lift _ _ _ hz k1
    refine ⟨.v r, ?_, r, rfl, r2⟩
    rw [ev_revS, e1, bind_ok, lift1_as a1]
    simp only [r1, Option.map_some, okO_some]
  | .bad, σ, au, h, τ, ρ, s, ok => by simp [aE] at h
  | .lstO _, σ, au, h, τ, ρ, s, ok => by simp [aE] at h
  | .dctO _ _, σ, au, h, τ, ρ, s, ok => by simp [aE] at h
  | .lcO _ _ _ _, σ, au, h, τ, ρ, s, ok => by simp [aE] at h
  | .lcIO _ _ _ _ _, σ, au, h, τ, ρ, s, ok => by simp [aE] at h
  | .dctEO _, σ, au, h, τ, ρ, s, ok => by simp [aE] at h
  | .newL _, σ, au, h, τ, ρ, s, ok => by simp [aE] at h
  | .newD _, σ, au, h, τ, ρ, s, ok => by simp [aE] at h
  | .app _ _, σ, au, h, τ, ρ, s, ok => by simp [aE] at h
  | .pop0 _, σ, au, h, τ, ρ, s, ok => by simp [aE] at h
  | .pop1 _ _, σ, au, h, τ, ρ, s, ok => by simp [aE] at h
  | .ins _ _ _, σ, au, h, τ, ρ, s, ok => by simp [aE] at h
  | .cutN _, σ, au, h, τ, ρ, s, ok => by simp [aE] at h
theorem aLits_ok (hC : ∀ f as a, CA f as = some a → ∀ ts, γl ns as ts → ∃ t, γ ns a t ∧ Ans C f ts t) : ∀ (e : E) {σ : AS} {xs : List A}, aLits G CA e σ = some xs → ∀ {τ : Nat → Nat} {ρ : Env} {s : Store}, Ok ns σ τ ρ s → ∃ ts, ev G C e ρ s = .ok (.v (.lst ts)) s ∧ γl ns xs ts
  | .lstd es, σ, xs, h, τ, ρ, s, ok => by
    simp only [aLits, Option.bind_eq_some_iff, Option.ite_none_right_eq_some, Option.some.injEq] at h
    obtain ⟨xs', hx, ys, hy, hl, rfl⟩ := h
    obtain ⟨us, e1, g1⟩ := aEs_ok hC es hx ok
    obtain ⟨ts, rfl, k⟩ := datasU g1 hy
    exact ⟨ts, by rw [ev_lstd, e1, bind_ok, unV_v, List.length_map, γl_len k, if_pos hl]; rfl, k⟩
  | .bad, σ, xs, h, τ, ρ, s, ok => by simp [aLits] at h
  | .var _, σ, xs, h, τ, ρ, s, ok => by simp [aLits] at h
  | .con _, σ, xs, h, τ, ρ, s, ok => by simp [aLits] at h
  | .glo _, σ, xs, h, τ, ρ, s, ok => by simp [aLits] at h
  | .bin _ _ _, σ, xs, h, τ, ρ, s, ok => by simp [aLits] at h
  | .neg _, σ, xs, h, τ, ρ, s, ok => by simp [aLits] at h
  | .not _, σ, xs, h, τ, ρ, s, ok => by simp [aLits] at h
  | .and _ _, σ, xs, h, τ, ρ, s, ok => by simp [aLits] at h
  | .or _ _, σ, xs, h, τ, ρ, s, ok => by simp [aLits] at h
  | .cmp _ _ _, σ, xs, h, τ, ρ, s, ok => by simp [aLits] at h
  | .chn _ _ _ _ _, σ, xs, h, τ, ρ, s, ok => by simp [aLits] at h
  | .ite _ _ _, σ, xs, h, τ, ρ, s, ok => by simp [aLits] at h
  | .call _ _ _, σ, xs, h, τ, ρ, s, ok => by simp [aLits] at h
  | .prm _ _, σ, xs, h, τ, ρ, s, ok => by simp [aLits] at h
  | .len _, σ, xs, h, τ, ρ, s, ok => by simp [aLits] at h
  | .isi _ _, σ, xs, h, τ, ρ, s, ok => by simp [aLits] at h
  | .idx _ _, σ, xs, h, τ, ρ, s, ok => by simp [aLits] at h
  | .cutL _ _, σ, xs, h, τ, ρ, s, ok => by simp [aLits] at h
  | .cutR _ _, σ, xs, h, τ, ρ, s, ok => by simp [aLits] at h
  | .cutB _ _ _, σ, xs, h, τ, ρ, s, ok => by simp [aLits] at h
  | .cutN _, σ, xs, h, τ, ρ, s, ok => by simp [aLits] at h
  | .tupd _, σ, xs, h, τ, ρ, s, ok => by simp [aLits] at h
  | .lstO _, σ, xs, h, τ, ρ, s, ok => by simp [aLits] at h
  | .dctd _ _, σ, xs, h, τ, ρ, s, ok => by simp [aLits] at h
  | .dctO _ _, σ, xs, h, τ, ρ, s, ok => by simp [aLits] at h
  | .lc _ _ _ _, σ, xs, h, τ, ρ, s, ok => by simp [aLits] at h
  | .lcI _ _ _ _ _, σ, xs, h, τ, ρ, s, ok => by simp [aLits] at h
  | .lcO _ _ _ _, σ, xs, h, τ, ρ, s, ok => by simp [aLits] at h
  | .lcIO _ _ _ _ _, σ, xs, h, τ, ρ, s, ok => by simp [aLits] at h
  | .meth _ _ _, σ, xs, h, τ, ρ, s, ok => by simp [aLits] at h
  | .dctE _, σ, xs, h, τ, ρ, s, ok => by simp [aLits] at h
  | .dctEO _, σ, xs, h, τ, ρ, s, ok => by simp [aLits] at h
  | .revS _, σ, xs, h, τ, ρ, s, ok => by simp [aLits] at h
  | .newL _, σ, xs, h, τ, ρ, s, ok => by simp [aLits] at h
  | .newD _, σ, xs, h, τ, ρ, s, ok => by simp [aLits] at h
  | .app _ _, σ, xs, h, τ, ρ, s, ok => by simp [aLits] at h
  | .pop0 _, σ, xs, h, τ, ρ, s, ok => by simp [aLits] at h
  | .pop1 _ _, σ, xs, h, τ, ρ, s, ok => by simp [aLits] at h
  | .ins _ _ _, σ, xs, h, τ, ρ, s, ok => by simp [aLits] at h
theorem aEs_ok (hC : ∀ f as a, CA f as = some a → ∀ ts, γl ns as ts → ∃ t, γ ns a t ∧ Ans C f ts t) : ∀ (es : Es) {σ : AS} {xs : List AU}, aEs G CA es σ = some xs → ∀ {τ : Nat → Nat} {ρ : Env} {s : Store}, Ok ns σ τ ρ s → ∃ us, evs G C es ρ s = .ok us s ∧ γUs ns τ s xs us
  | .nil, σ, xs, h, τ, ρ, s, ok => by
    simp only [aEs, Option.some.injEq] at h
    subst h
    exact ⟨[], evs_nil, rfl⟩
  | .cons e es, σ, xs, h, τ, ρ, s, ok => by
    simp only [aEs, Option.bind_eq_some_iff, Option.map_eq_some_iff] at h
    obtain ⟨x, hx, xs', hxs, rfl⟩ := h
    obtain ⟨u, e1, g1⟩ := aE_ok hC e hx ok
    obtain ⟨us, e2, g2⟩ := aEs_ok hC es hxs ok
    exact ⟨u :: us, by rw [evs_cons, e1, bind_ok, e2]; rfl, u, us, rfl, g1, g2⟩
theorem aSrc_ok (hC : ∀ f as a, CA f as = some a → ∀ ts, γl ns as ts → ∃ t, γ ns a t ∧ Ans C f ts t) : ∀ (src : Src) {σ : AS} {q : A × Nat × Nat}, aSrc G CA src σ = some q → ∀ {τ : Nat → Nat} {ρ : Env} {s : Store}, Ok ns σ τ ρ s → ∃ (w : Wk) (ts : List T), evSrc G C src ρ s = .ok w s ∧ Walks w s (ts.map .v) ∧ q.2.1 ≤ ts.length ∧ ts.length ≤ q.2.2 ∧ ∀ t ∈ ts, γ ns q.1 t
  | .it e, σ, q, h, τ, ρ, s, ok => by
    simp only [aSrc, Option.bind_eq_some_iff] at h
    obtain ⟨x, hx, y, hy, h⟩ := h
    obtain ⟨u, e1, g1⟩ := aE_ok hC e hx ok
    obtain ⟨t, a1, _, k1, hl, hv⟩ := viewU ok g1 hy
    rw [evSrc_it, e1, bind_ok]
    split at h
    · cases h
      obtain ⟨ts, rfl, l1, l2, g⟩ := k1
      cases x with
      | v b =>
        rw [hv ⟨b, rfl⟩]
        exact ⟨.xs (ts.map .v), ts, rfl, walks_xs _, l1, l2, g⟩
      | ref k =>
        obtain ⟨j, rfl, hj, hlt⟩ := g1
        obtain ⟨t', o, h1, g', d⟩ := ref_at ok hj hlt hy
        cases t' <;> simp only [DataO] at d <;> subst d
        · simp only [asT, h1, unV_v, Option.map_some, Option.some.injEq, T.lst.injEq] at a1
          subst a1
          refine ⟨.at j, _, ?_, walks_at h1, l1, l2, g⟩
          simp only [wkU, h1, okO_some]
        · simp only [asT, h1, kv_unKV, Option.map_some, Option.some.injEq, reduceCtorEq] at a1
    · cases h
      rw [hv ⟨_, rfl⟩]
      obtain ⟨ts, rfl, g⟩ := k1
      have := γt_len g
      exact ⟨.xs (ts.map .v), ts, rfl, walks_xs _, by simp only; omega, by simp only; omega, joinT_ok g⟩
    · cases h
      rw [hv ⟨_, rfl⟩]
      obtain ⟨z, rfl, l1, l2⟩ := k1
      refine ⟨.xs (z.map fun c => .v (.str [c])), z.map fun c => .str [c], rfl, ?_, by simpa using l1, by simpa using l2, fun t ht => ?_⟩
      · rw [List.map_map]
        exact walks_xs _
      · obtain ⟨c, _, rfl⟩ := List.mem_map.mp ht
        exact ⟨[c], rfl, Nat.le_refl _, Nat.le_refl _⟩
    · cases h
      rw [hv ⟨_, rfl⟩]
      obtain ⟨kvs, rfl, l1, l2, _, g⟩ := k1
      refine ⟨.xs (kvs.map fun p => .v (kyT p.1)), kvs.map fun p => kyT p.1, rfl, ?_, by simpa using l1, by simpa using l2, keys_strA rfl g⟩
      rw [List.map_map]
      exact walks_xs _
    · cases h
  | .rng1 a, σ, q, h, τ, ρ, s, ok => by
    simp only [aSrc, Option.bind_eq_some_iff, Option.ite_none_right_eq_some, Option.some.injEq] at h
    obtain ⟨x, hx, x', hx', p, hp, hr, rfl⟩ := h
    obtain ⟨u, e1, g1⟩ := aE_ok hC a hx ok
    obtain ⟨t, rfl, k1⟩ := dataU g1 hx'
    cases x' <;> simp only [int1, reduceCtorEq, Option.some.injEq] at hp
    subst hp
    obtain ⟨i, rfl, h1, h2⟩ := k1
    rw [Bool.and_eq_true] at hr
    have hi := rng_mid hr.1 hr.2 h1 h2
    refine ⟨.xs (rangeL 0 i.toNat), (List.range i.toNat).map fun (k : Nat) => T.int k, ?_, ?_, ?_, ?_, fun t ht => ?_⟩
    · rw [evSrc_rng1, e1, bind_ok]
      exact if_pos hi
    · rw [rangeL_map]
      exact walks_xs _
    · simp; omega
    · simp; omega
    · obtain ⟨k, hk, rfl⟩ := List.mem_map.mp ht
      have := List.mem_range.mp hk
      exact ⟨k, rfl, by omega, by simp only; omega⟩
  | .rng2 a b, σ, q, h, τ, ρ, s, ok => by
    simp only [aSrc, Option.bind_eq_some_iff, Option.ite_none_right_eq_some, Option.some.injEq] at h
    obtain ⟨x, hx, x', hx', p, hp, y, hy, y', hy', p', hp', hr, rfl⟩ := h
    obtain ⟨u, e1, g1⟩ := aE_ok hC a hx ok
    obtain ⟨w, e2, g2⟩ := aE_ok hC b hy ok
    obtain ⟨t, rfl, k1⟩ := dataU g1 hx'
    obtain ⟨t', rfl, k2⟩ := dataU g2 hy'
    cases x' <;> simp only [int1, reduceCtorEq, Option.some.injEq] at hp
    cases y' <;> simp only [int1, reduceCtorEq, Option.some.injEq] at hp'
    subst hp hp'
    obtain ⟨i, rfl, h1, h2⟩ := k1
    obtain ⟨j, rfl, h3, h4⟩ := k2
    simp only [Bool.and_eq_true] at hr
    have hi := rng_mid hr.1.1.1 hr.1.1.2 h1 h2
    have hj := rng_mid hr.1.2 hr.2 h3 h4
    refine ⟨.xs (rangeL i (j - i).toNat), (List.range (j - i).toNat).map fun (k : Nat) => T.int (i + k), ?_, ?_, ?_, ?_, fun t ht => ?_⟩
    · rw [evSrc_rng2, e1, bind_ok, e2, bind_ok]
      exact if_pos (by rw [hi, hj]; rfl)
    · rw [rangeL_mapA]
      exact walks_xs _
    · simp; omega
    · simp; omega
    · obtain ⟨k, hk, rfl⟩ := List.mem_map.mp ht
      have := List.mem_range.mp hk
      exact ⟨_, rfl, by simp only; omega, by simp only; omega⟩
  | .items e, σ, q, h, τ, ρ, s, ok => by
    simp only [aSrc, Option.bind_eq_some_iff] at h
    obtain ⟨x, hx, x', hx', h⟩ := h
    obtain ⟨u, e1, g1⟩ := aE_ok hC e hx ok
    obtain ⟨t, rfl, k1⟩ := dataU g1 hx'
    split at h
    · cases h
      obtain ⟨kvs, rfl, l1, l2, _, g⟩ := k1
      refine ⟨.xs (kvs.map fun p => .v (.tup [kyT p.1, p.2])), kvs.map fun p => .tup [kyT p.1, p.2], by rw [evSrc_items, e1]; rfl, ?_, by simpa using l1, by simpa using l2, fun t ht => ?_⟩
      · rw [List.map_map]
        exact walks_xs _
      · obtain ⟨p, hp, rfl⟩ := List.mem_map.mp ht
        exact ⟨_, rfl, _, _, rfl, keys_strA rfl g _ (List.mem_map.mpr ⟨p, hp, rfl⟩), _, _, rfl, (g p hp).2, rfl⟩
    · cases h
  | .values e, σ, q, h, τ, ρ, s, ok => by
    simp only [aSrc, Option.bind_eq_some_iff] at h
    obtain ⟨x, hx, x', hx', h⟩ := h
    obtain ⟨u, e1, g1⟩ := aE_ok hC e hx ok
    obtain ⟨t, rfl, k1⟩ := dataU g1 hx'
    split at h
    · cases h
      obtain ⟨kvs, rfl, l1, l2, _, g⟩ := k1
      refine ⟨.xs (kvs.map fun p => .v p.2), kvs.map fun p => p.2, by rw [evSrc_values, e1]; rfl, ?_, by simpa using l1, by simpa using l2, fun t ht => ?_⟩
      · rw [List.map_map]
        exact walks_xs _
      · obtain ⟨p, hp, rfl⟩ := List.mem_map.mp ht
        exact (g p hp).2
    · cases h
  | .rng3 _ _ _, σ, q, h, τ, ρ, s, ok => by simp [aSrc] at h
  | .enm _, σ, q, h, τ, ρ, s, ok => by simp [aSrc] at h
  | .rev _, σ, q, h, τ, ρ, s, ok => by simp [aSrc] at h
end
end
end Cab

set_option linter.all false
set_option maxRecDepth 100000
set_option maxHeartbeats 1000000
namespace Cab
/-! Statements over told names. -/
structure AR where
  nx : Option AS
  rt : A
  bk : Option AS
  ct : Option AS
def joinAU : Option AU → Option AU → Option AU
  | some (.v a), some (.v b) => some (.v (join a b))
  | some (.ref k), some (.ref l) => if k = l then some (.ref k) else none
  | _, _ => none
def joinSt : List A → List A → List A
  | [], ys => ys
  | xs, [] => xs
  | x :: xs, y :: ys => join x y :: joinSt xs ys
def joinS (a b : AS) : Option AS := if a.env.length = b.env.length then some ⟨List.zipWith joinAU a.env b.env, a.fc.filter fun f => decide (f ∈ b.fc), joinSt a.st b.st, max a.p b.p⟩ else none
/-- states of two ways; none: that way isn't gone -/
def join2 : Option AS → Option AS → Option (Option AS)
  | none, y => some y
  | x, none => some x
  | some a, some b => (joinS a b).map some
def eqAU : Option AU → Option AU → Bool
  | none, none => true
  | some (.v a), some (.v b) => A.eq a b
  | some (.ref k), some (.ref l) => k == l
  | _, _ => false
def eqL2 {α : Type} (f : α → α → Bool) : List α → List α → Bool
  | [], [] => true
  | a :: as, b :: bs => f a b && eqL2 f as bs
  | _, _ => false
def eqS (a b : AS) : Bool := eqL2 eqAU a.env b.env && eqL2 A.eq a.st b.st && decide (a.fc = b.fc)
/-- a new thing of the store -/
def alloc (σ : AS) (a : A) : AS × Nat := if h : σ.p < σ.st.length then ({ σ with st := σ.st.set σ.p (join σ.st[σ.p] a), p := σ.p + 1 }, σ.p) else ({ σ with st := σ.st ++ [a], p := σ.st.length + 1 }, σ.st.length)
/-- what a name's new value tells -/
def newFa (σ : AS) (i : Nat) : E → List Fa
  | .bin .mod _ (.len (.var v)) => if v ≠ i ∧ isData σ.env[v]? then [.ix i v] else []
  | .prm .sorted (.cons (.var v) .nil) => if v ≠ i ∧ isDct σ.env[v]? then [.keys i v] else []
  | .idx (.prm .sorted (.cons (.var v) .nil)) b => if v ≠ i ∧ isDct σ.env[v]? ∧ modLen v b then [.key i v] else []
  | .idx (.var w) b => if modLen w b then σ.fc.filterMap fun f => match f with
    | .keys w' v => if w' = w ∧ v ≠ i then some (.key i v) else none
    | _ => none else []
  | .revS (.var w) => σ.fc.filterMap fun f => match f with
    | .keys w' v => if w' = w ∧ v ≠ i then some (.keys i v) else none
    | _ => none
  | _ => []
def setE (σ : AS) (i : Nat) (au : AU) (fs : List Fa) : AS := { σ with env := σ.env.set i (some au), fc := (if i < σ.env.length then fs else []) ++ dropF [i] σ.fc }
def aAug1 : Bop → A → A → Option A
  | .add, .int a b, .int c d => some (.int (a + c) (b + d))
  | .sub, .int a b, .int c d => some (.int (a - d) (b - c))
  | .add, .str a b, .str c d => if b + d ≤ LIM then some (.str (a + c) (b + d)) else none
  | _, _, _ => none
def keyS : A → Option Bool
  | .str _ h => if h ≤ KW then some true else none
  | .int _ _ => some false
  | _ => none
/-- o[k] = x -/
def subA (a k x : A) : Option A := match a with
  | .dct s lo hi b => if hi < LIM then (keyS k).map fun q => .dct (s && q) lo (hi + 1) (join b x) else none
  | .lst lo hi b => (match k with
    | .int c d => if -(lo : Int) ≤ c ∧ d < lo then some (.lst lo hi (join b x)) else none
    | _ => none)
  | _ => none
def nxt (σ : AS) : AR := ⟨some σ, .bot, none, none⟩
mutual
def asgS : S → List Nat
  | .set i _ => [i]
  | .setT is _ => is
  | .par is _ => is
  | .aug i _ _ => [i]
  | .if _ a b => asgB a ++ asgB b
  | .for tg _ b => tgL tg ++ asgB b
  | .whl _ b => asgB b
  | _ => []
def asgB : B → List Nat
  | .nil => []
  | .cons st b => asgS st ++ asgB b
end
/-- the turns of a for: what holds ahead of each, what is returned, what is broken off with -/
def aLoop (F : AS → Option AR) (fc : List Fa) (p : Nat) : Nat → AS → A → Option AS → Option (AS × A × Option AS)
  | 0, σ, rt, bk => some (σ, rt, bk)
  | n + 1, σ, rt, bk => (F σ).bind fun r => (join2 bk r.bk).bind fun bk' => (join2 r.nx r.ct).bind fun o => (match o with
    | none => some (σ, join rt r.rt, bk')
    | some post => (joinS σ { post with fc := fc, p := p }).bind fun σ' => let σ' := { σ' with fc := fc, p := p }
      if eqS σ' σ then some (σ, join rt r.rt, bk') else aLoop F fc p n σ' (join rt r.rt) bk')
mutual
def aS (G : Glo) (CA : Nat → List A → Option A) : S → AS → Option AR
  | .pass, σ => some (nxt σ)
  | .brk, σ => some ⟨none, .bot, some σ, none⟩
  | .cnt, σ => some ⟨none, .bot, none, some σ⟩
  | .ex (.app (.var i) b), σ => (match σ.env[i]? with
    | some (some (.ref k)) => (aE G CA b σ).bind fun x => (dataA x).bind fun x => (σ.st[k]?).bind fun a => (match a with
      | .lst lo hi y => if hi < LIM then some (nxt { σ with st := σ.st.set k (.lst lo (hi + 1) (join y x)) }) else none
      | _ => none)
    | _ => none)
  | .ex e, σ => (aE G CA e σ).map fun _ => nxt σ
  | .ret e, σ => (aE G CA e σ).bind fun x => (viewA σ.st x).map fun x => ⟨none, x, none, none⟩
  | .retN, σ => some ⟨none, .non, none, none⟩
  | .set i (.lstO es), σ => (aEs G CA es σ).bind fun xs => (optM dataA xs).bind fun xs => if xs.length ≤ LIM then some (nxt (setE (alloc σ (.lst xs.length xs.length (joinL xs))).1 i (.ref (alloc σ (.lst xs.length xs.length (joinL xs))).2) [])) else none
  | .set i (.dctO ks vs), σ => (aEs G CA vs σ).bind fun xs => (optM dataA xs).bind fun xs => if ks.length = xs.length ∧ ks.length ≤ 15 ∧ ks.all kyOkA then
      let a : A := .dct (ks.all strKy) (min ks.length 1) ks.length (joinL xs)
      some (nxt (setE (alloc σ a).1 i (.ref (alloc σ a).2) [])) else none
  | .set i (.newL a), σ => (aE G CA a σ).bind fun x => (viewA σ.st x).bind fun x => (match x with
    | .lst lo hi y => some (nxt (setE (alloc σ (.lst lo hi y)).1 i (.ref (alloc σ (.lst lo hi y)).2) []))
    | _ => none)
  | .set i (.newD a), σ => (aE G CA a σ).bind fun x => (viewA σ.st x).bind fun y => (match y with
    | .dct s lo hi y => some (nxt (setE (alloc σ (.dct s lo hi y)).1 i (.ref (alloc σ (.dct s lo hi y)).2) []))
    | _ => (dataA x).bind fun y => (lift1A (aPrm1 .dict) y).bind fun r => (match r with
      | .dct s lo hi y => some (nxt (setE (alloc σ (.dct s lo hi y)).1 i (.ref (alloc σ (.dct s lo hi y)).2) []))
      | _ => none))
  | .set i e, σ => (aE G CA e σ).map fun x => nxt (setE σ i x (newFa σ i e))
  | .setT is e, σ => (aE G CA e σ).bind fun x => (dataA x).bind fun x => (match x with
    | .tup as => (aMany σ.env is as).map fun env => nxt { σ with env := env, fc := dropF is σ.fc }
    | _ => none)
  | .aug i op e, σ => (match σ.env[i]? with
    | some (some (.v a)) => (aE G CA e σ).bind fun x => (dataA x).bind fun x => (lift2A (aAug1 op) a x).map fun y => nxt (setE σ i (.v y) [])
    | _ => none)
  | .sub (.var d) k e, σ => (match σ.env[d]? with
    | some (some (.ref j)) => (aE G CA e σ).bind fun x => (dataA x).bind fun x => (aE G CA k σ).bind fun y => (dataA y).bind fun y => (σ.st[j]?).bind fun a => (subA a y x).map fun b => nxt { σ with st := σ.st.set j b }
    | _ => none)
  | .if c a b, σ => (aE G CA c σ).bind fun x => (dataA x).bind fun x => (truA x).bind fun p =>
    (if p.1 && !dead (refine c true σ.env) then aBl G CA a { σ with env := refine c true σ.env } else some ⟨none, .bot, none, none⟩).bind fun r =>
    (if p.2 && !dead (refine c false σ.env) then aBl G CA b { σ with env := refine c false σ.env } else some ⟨none, .bot, none, none⟩).bind fun q =>
    (join2 r.nx q.nx).bind fun nx => (join2 r.bk q.bk).bind fun bk => (join2 r.ct q.ct).map fun ct => ⟨nx, join r.rt q.rt, bk, ct⟩
  | .for tg src b, σ => (aSrc G CA src σ).bind fun q =>
    let no := tgL tg ++ asgB b
    let fc := dropF no σ.fc
    let sf : List Fa := match tg with
      | .one i => if i < σ.env.length then (srcFa src i σ).filter fun f => match f with
        | .ix _ v => !(no.contains v)
        | .key _ v => !(no.contains v)
        | _ => false else []
      | _ => []
    let F : AS → Option AR := fun σ => (aBind tg q.1 σ.env).bind fun env => aBl G CA b { σ with env := env, fc := sf ++ fc }
    (match src, refSrc src σ with
    | _, true => none
    | _, false => (aLoop F fc σ.p q.2.2 { σ with fc := fc } .bot none).bind fun r => (join2 (some r.1) r.2.2).map fun nx => ⟨nx.map fun σ => { σ with fc := dropF no σ.fc, p := σ.st.length }, r.2.1, none, none⟩)
  | _, _ => none
def aBl (G : Glo) (CA : Nat → List A → Option A) : B → AS → Option AR
  | .nil, σ => some (nxt σ)
  | .cons st b, σ => (aS G CA st σ).bind fun r => (match r.nx with
    | none => some r
    | some σ' => (aBl G CA b σ').bind fun q => (join2 r.bk q.bk).bind fun bk => (join2 r.ct q.ct).map fun ct => ⟨q.nx, join r.rt q.rt, bk, ct⟩)
/-- a walk over a list of the store -/
def refSrc : Src → AS → Bool
  | .it (.var i), σ => (match σ.env[i]? with
    | some (some (.ref _)) => true
    | _ => false)
  | _, _ => false
end
/-- a def, to some depth; ahead of it what is promised -/
def callA (G : Glo) (D : Tbl) (Sp : Nat → List A → Option A) : Nat → Nat → List A → Option A
  | 0, f, as => Sp f as
  | n + 1, f, as => (match Sp f as with
    | some a => some a
    | none => (match D f with
      | some F => if as.length ≤ F.n ∧ F.n ≤ as.length + F.dfl.length ∧ F.dfl.all okA ∧ F.n ≤ F.slots then
          (aBl G (callA G D Sp n) F.body ⟨(as ++ (F.dfl.drop (F.dfl.length - (F.n - as.length))).map toA).map (fun a => some (.v a)) ++ List.replicate (F.slots - F.n) none, [], [], 0⟩).bind fun r => (match r.bk, r.ct with
          | none, none => some (sq (if r.nx.isSome then join .non r.rt else r.rt))
          | _, _ => none)
        else none
      | none => none))
/-! ### what names a statement may set -/
def envOf : RS → Option Env
  | .nx ρ _ => some ρ
  | .bk ρ _ => some ρ
  | .ct ρ _ => some ρ
  | _ => none
def Kept (is : List Nat) (ρ ρ' : Env) : Prop := ρ'.length = ρ.length ∧ ∀ v, v ∉ is → ρ'[v]? = ρ[v]?
theorem Kept.refl {is : List Nat} {ρ : Env} : Kept is ρ ρ := ⟨rfl, fun _ _ => rfl⟩
theorem Kept.trans {is : List Nat} {ρ ρ' ρ'' : Env} (h : Kept is ρ ρ') (k : Kept is ρ' ρ'') : Kept is ρ ρ'' := ⟨k.1.trans h.1, fun v hv => (k.2 v hv).trans (h.2 v hv)⟩
theorem Kept.sub {is js : List Nat} {ρ ρ' : Env} (h : Kept is ρ ρ') (k : ∀ i ∈ is, i ∈ js) : Kept js ρ ρ' := ⟨h.1, fun v hv => h.2 v fun z => hv (k v z)⟩
theorem kept_set {i : Nat} {ρ : Env} {x : Option U} : Kept [i] ρ (ρ.set i x) := ⟨List.length_set, fun v hv => List.getElem?_set_ne (fun e => hv (by rw [e]; exact List.mem_cons_self))⟩
theorem kept_many : ∀ {is : List Nat} {us : List U} {ρ ρ' : Env}, bindMany ρ is us = some ρ' → Kept is ρ ρ'
  | [], [], ρ, ρ', h => by
    cases h
    exact Kept.refl
  | i :: is, u :: us, ρ, ρ', h => by
    have := kept_many (show bindMany (ρ.set i (some u)) is us = some ρ' from h)
    refine ⟨this.1.trans List.length_set, fun v hv => ?_⟩
    rw [this.2 v fun z => hv (List.mem_cons_of_mem _ z), List.getElem?_set_ne fun e => hv (by rw [e]; exact List.mem_cons_self)]
  | [], _ :: _, _, _, h => by cases h
  | _ :: _, [], _, _, h => by cases h
theorem kept_bind {tg : Tgt} {u : U} {ρ ρ' : Env} (h : bindT tg u ρ = some ρ') : Kept (tgL tg) ρ ρ' := by
  cases tg with
  | one i =>
    cases h
    exact kept_set
  | many is =>
    simp only [bindT, Option.bind_eq_some_iff] at h
    obtain ⟨us, _, h⟩ := h
    split at h
    · exact kept_many h
    · cases h
section
variable {G : Glo} {C : Call} {W : Nat}
theorem toS_env {r : R U} {ρ ρ' : Env} {f : U → Store → RS} (h : envOf (r.toS ρ f) = some ρ') : ∃ u s, r = .ok u s ∧ envOf (f u s) = some ρ' := by
  cases r with
  | ok u s => exact ⟨u, s, rfl, h⟩
  | exc x s => cases h
  | bad => cases h
theorem forGo_kept {step : U → Env → Store → RS} {w : Wk} {is : List Nat} (hs : ∀ x ρ s ρ', envOf (step x ρ s) = some ρ' → Kept is ρ ρ') : ∀ (f k : Nat) {ρ ρ' : Env} {s : Store}, envOf (forGo step w f k ρ s) = some ρ' → Kept is ρ ρ'
  | 0, k, ρ, ρ', s, h => by
    unfold forGo at h
    split at h
    · cases h
      exact Kept.refl
    · cases h
  | f + 1, k, ρ, ρ', s, h => by
    unfold forGo at h
    split at h
    · cases h
      exact Kept.refl
    · rename_i x _
      have h0 := hs x ρ s
      cases e : step x ρ s with
      | nx ρ1 s1 =>
        rw [e] at h h0
        exact (h0 _ rfl).trans (forGo_kept hs f (k + 1) h)
      | ct ρ1 s1 =>
        rw [e] at h h0
        exact (h0 _ rfl).trans (forGo_kept hs f (k + 1) h)
      | bk ρ1 s1 =>
        rw [e] at h h0
        cases h
        exact h0 _ rfl
      | rt u s1 => rw [e] at h; cases h
      | exc q ρ1 s1 => rw [e] at h; cases h
      | bad => rw [e] at h; cases h
    · cases h
theorem whGo_kept {c : Env → Store → R U} {b : Env → Store → RS} {is : List Nat} (hs : ∀ ρ s ρ', envOf (b ρ s) = some ρ' → Kept is ρ ρ') : ∀ (n : Nat) {ρ ρ' : Env} {s : Store}, envOf (whGo c b n ρ s) = some ρ' → Kept is ρ ρ'
  | 0, ρ, ρ', s, h => by cases h
  | n + 1, ρ, ρ', s, h => by
    unfold whGo at h
    obtain ⟨u, s1, _, h⟩ := toS_env h
    split at h
    · have h0 := hs ρ s1
      cases e : b ρ s1 with
      | nx ρ1 s2 =>
        rw [e] at h h0
        exact (h0 _ rfl).trans (whGo_kept hs n h)
      | ct ρ1 s2 =>
        rw [e] at h h0
        exact (h0 _ rfl).trans (whGo_kept hs n h)
      | bk ρ1 s2 =>
        rw [e] at h h0
        cases h
        exact h0 _ rfl
      | rt u s2 => rw [e] at h; cases h
      | exc q ρ1 s2 => rw [e] at h; cases h
      | bad => rw [e] at h; cases h
    · cases h
      exact Kept.refl
    · cases h
mutual
theorem exS_kept : ∀ (st : S) {ρ ρ' : Env} {s : Store}, envOf (exS G C W st ρ s) = some ρ' → Kept (asgS st) ρ ρ'
  | .never, ρ, ρ', s, h => by simp [exS, envOf] at h
  | .pass, ρ, ρ', s, h => by simp only [exS, envOf, Option.some.injEq] at h; subst h; exact Kept.refl
  | .brk, ρ, ρ', s, h => by simp only [exS, envOf, Option.some.injEq] at h; subst h; exact Kept.refl
  | .cnt, ρ, ρ', s, h => by simp only [exS, envOf, Option.some.injEq] at h; subst h; exact Kept.refl
  | .ex e, ρ, ρ', s, h => by
    simp only [exS] at h
    obtain ⟨u, s1, _, h⟩ := toS_env h
    cases h
    exact Kept.refl
  | .ret e, ρ, ρ', s, h => by
    simp only [exS] at h
    obtain ⟨u, s1, _, h⟩ := toS_env h
    cases h
  | .retN, ρ, ρ', s, h => by simp [exS, envOf] at h
  | .set i e, ρ, ρ', s, h => by
    simp only [exS] at h
    obtain ⟨u, s1, _, h⟩ := toS_env h
    cases h
    exact kept_set
  | .setT is e, ρ, ρ', s, h => by
    simp only [exS] at h
    obtain ⟨u, s1, _, h⟩ := toS_env h
    split at h
    · rename_i ρ1 e1
      cases h
      exact kept_bind e1
    · cases h
  | .par is es, ρ, ρ', s, h => by
    simp only [exS] at h
    split at h
    · split at h
      · rename_i ρ1 e1
        cases h
        exact kept_many e1
      · cases h
    · cases h
    · cases h
  | .aug i op e, ρ, ρ', s, h => by
    simp only [exS] at h
    split at h
    · obtain ⟨u, s1, _, h⟩ := toS_env h
      split at h
      · cases h
        exact kept_set
      · cases h
        exact kept_set
      · split at h
        · cases h
          exact kept_set
        · cases h
      · cases h
    · cases h
  | .sub o k e, ρ, ρ', s, h => by
    simp only [exS] at h
    obtain ⟨u, s1, _, h⟩ := toS_env h
    obtain ⟨u, s1, _, h⟩ := toS_env h
    obtain ⟨u, s1, _, h⟩ := toS_env h
    split at h
    · cases h
      exact Kept.refl
    · cases h
  | .if c a b, ρ, ρ', s, h => by
    simp only [exS] at h
    obtain ⟨u, s1, _, h⟩ := toS_env h
    split at h
    · exact (exB_kept a h).sub fun i hi => List.mem_append_left _ hi
    · exact (exB_kept b h).sub fun i hi => List.mem_append_right _ hi
    · cases h
  | .for tg src b, ρ, ρ', s, h => by
    simp only [exS] at h
    split at h
    · refine forGo_kept (fun x ρ s ρ' h => ?_) _ _ h
      split at h
      · rename_i ρ1 e1
        exact ((kept_bind e1).sub fun i hi => List.mem_append_left _ hi).trans ((exB_kept b h).sub fun i hi => List.mem_append_right _ hi)
      · cases h
    · cases h
    · cases h
  | .whl c b, ρ, ρ', s, h => by
    simp only [exS] at h
    exact whGo_kept (fun ρ s ρ' h => exB_kept b h) _ h
theorem exB_kept : ∀ (b : B) {ρ ρ' : Env} {s : Store}, envOf (exB G C W b ρ s) = some ρ' → Kept (asgB b) ρ ρ'
  | .nil, ρ, ρ', s, h => by simp only [exB, envOf, Option.some.injEq] at h; subst h; exact Kept.refl
  | .cons st b, ρ, ρ', s, h => by
    simp only [exB] at h
    have h0 : ∀ ρ', envOf (exS G C W st ρ s) = some ρ' → Kept (asgS st) ρ ρ' := fun ρ' h => exS_kept st h
    cases e : exS G C W st ρ s with
    | nx ρ1 s1 =>
      rw [e] at h h0
      exact ((h0 _ rfl).sub fun i hi => List.mem_append_left _ hi).trans ((exB_kept b h).sub fun i hi => List.mem_append_right _ hi)
    | ct ρ1 s1 =>
      rw [e] at h h0
      cases h
      exact (h0 _ rfl).sub fun i hi => List.mem_append_left _ hi
    | bk ρ1 s1 =>
      rw [e] at h h0
      cases h
      exact (h0 _ rfl).sub fun i hi => List.mem_append_left _ hi
    | rt u s1 => rw [e] at h; cases h
    | exc q ρ1 s1 => rw [e] at h; cases h
    | bad => rw [e] at h; cases h
end
end
end Cab

set_option linter.all false
set_option maxRecDepth 100000
set_option maxHeartbeats 2000000
namespace Cab
section
variable {ns : List Int} {σ : AS} {τ : Nat → Nat} {ρ : Env} {s : Store}
theorem Ok.with {fc : List Fa} {p : Nat} (ok : Ok ns σ τ ρ s) (h : ∀ f ∈ fc, γF ρ f) : Ok ns { σ with fc := fc, p := p } τ ρ s := ⟨ok.v, ok.r, h, ok.s, ok.l⟩
/-! ### two ways -/
theorem joinSt_ok : ∀ {xs ys : List A} {k : Nat} {a : A}, (xs[k]? = some a ∨ ys[k]? = some a) → ∃ c, (joinSt xs ys)[k]? = some c ∧ ∀ t, γ ns a t → γ ns c t
  | [], ys, k, a, h => by
    rcases h with h | h
    · simp at h
    · exact ⟨a, h, fun _ g => g⟩
  | x :: xs, [], k, a, h => by
    rcases h with h | h
    · exact ⟨a, h, fun _ g => g⟩
    · simp at h
  | x :: xs, y :: ys, 0, a, h => by
    rcases h with h | h
    · cases h
      exact ⟨_, rfl, fun _ g => join_l g⟩
    · cases h
      exact ⟨_, rfl, fun _ g => join_r g⟩
  | x :: xs, y :: ys, k + 1, a, h => by
    have := joinSt_ok (xs := xs) (ys := ys) (k := k) (a := a) (by simpa using h)
    simpa [joinSt] using this
theorem joinAU_v {a b : Option AU} {x : A} (h : joinAU a b = some (.v x)) : ∃ y z, a = some (.v y) ∧ b = some (.v z) ∧ x = join y z := by
  unfold joinAU at h
  split at h
  · cases h
    exact ⟨_, _, rfl, rfl, rfl⟩
  · split at h <;> cases h
  · cases h
theorem joinAU_r {a b : Option AU} {k : Nat} (h : joinAU a b = some (.ref k)) : a = some (.ref k) ∧ b = some (.ref k) := by
  unfold joinAU at h
  split at h
  · cases h
  · split at h
    · rename_i e
      cases h
      subst e
      exact ⟨rfl, rfl⟩
    · cases h
  · cases h
theorem joinS_ok {a b c : AS} (h : joinS a b = some c) (ok : Ok ns a τ ρ s ∨ Ok ns b τ ρ s) : Ok ns c τ ρ s := by
  unfold joinS at h
  split at h
  · rename_i hl
    cases h
    have get : ∀ {i : Nat} {z : Option AU}, (List.zipWith joinAU a.env b.env)[i]? = some z → ∃ x y, a.env[i]? = some x ∧ b.env[i]? = some y ∧ z = joinAU x y := by
      intro i z h
      rw [List.getElem?_zipWith] at h
      cases ea : a.env[i]? with
      | none => rw [ea] at h; cases h
      | some x =>
        cases eb : b.env[i]? with
        | none => rw [ea, eb] at h; cases h
        | some y =>
          rw [ea, eb] at h
          exact ⟨x, y, rfl, rfl, (Option.some.inj h).symm⟩
    refine ⟨fun i x hx => ?_, fun i k hk => ?_, fun f hf => ?_, fun j o hj => ?_, ?_⟩
    · obtain ⟨p, q, h1, h2, h3⟩ := get hx
      obtain ⟨y, z, rfl, rfl, rfl⟩ := joinAU_v h3.symm
      rcases ok with ok | ok
      · obtain ⟨t, k1, k2⟩ := ok.v i y h1
        exact ⟨t, k1, join_l k2⟩
      · obtain ⟨t, k1, k2⟩ := ok.v i z h2
        exact ⟨t, k1, join_r k2⟩
    · obtain ⟨p, q, h1, h2, h3⟩ := get hk
      obtain ⟨rfl, rfl⟩ := joinAU_r h3.symm
      rcases ok with ok | ok
      · exact ok.r i k h1
      · exact ok.r i k h2
    · obtain ⟨h1, h2⟩ := List.mem_filter.mp hf
      rcases ok with ok | ok
      · exact ok.f f h1
      · exact ok.f f (of_decide_eq_true h2)
    · rcases ok with ok | ok
      · obtain ⟨a', t, h1, h2, h3⟩ := ok.s j o hj
        obtain ⟨c', h4, h5⟩ := joinSt_ok (ns := ns) (xs := a.st) (ys := b.st) (.inl h1)
        exact ⟨c', t, h4, h5 t h2, h3⟩
      · obtain ⟨a', t, h1, h2, h3⟩ := ok.s j o hj
        obtain ⟨c', h4, h5⟩ := joinSt_ok (ns := ns) (xs := a.st) (ys := b.st) (.inr h1)
        exact ⟨c', t, h4, h5 t h2, h3⟩
    · simp only [List.length_zipWith]
      rcases ok with ok | ok
      · have := ok.l
        omega
      · have := ok.l
        omega
  · cases h
def OkO (ns : List Int) (o : Option AS) (ρ : Env) (s : Store) : Prop := ∃ σ τ, o = some σ ∧ Ok ns σ τ ρ s
theorem join2_ok {a b c : Option AS} (h : join2 a b = some c) (ok : OkO ns a ρ s ∨ OkO ns b ρ s) : OkO ns c ρ s := by
  unfold join2 at h
  split at h
  · cases h
    rcases ok with ⟨σ, τ, e, _⟩ | ok
    · cases e
    · exact ok
  · cases h
    rcases ok with ok | ⟨σ, τ, e, _⟩
    · exact ok
    · cases e
  · obtain ⟨d, h', rfl⟩ := Option.map_eq_some_iff.mp h
    rcases ok with ⟨σ, τ, e, ok⟩ | ⟨σ, τ, e, ok⟩
    · cases e
      exact ⟨d, τ, rfl, joinS_ok h' (.inl ok)⟩
    · cases e
      exact ⟨d, τ, rfl, joinS_ok h' (.inr ok)⟩
theorem eqL2_eq {α : Type} {f : α → α → Bool} (hf : ∀ a b, f a b = true → a = b) : ∀ {as bs : List α}, eqL2 f as bs = true → as = bs
  | [], [], _ => rfl
  | [], _ :: _, h => by cases h
  | _ :: _, [], h => by cases h
  | a :: as, b :: bs, h => by
    simp only [eqL2, Bool.and_eq_true] at h
    rw [hf a b h.1, eqL2_eq hf h.2]
theorem eqAU_eq (a b : Option AU) (h : eqAU a b = true) : a = b := by
  unfold eqAU at h
  split at h
  · rfl
  · rw [A.eq_ok h]
  · rw [eq_of_beq h]
  · cases h
theorem eqS_ok {a b : AS} (h : eqS a b = true) (ok : Ok ns a τ ρ s) : Ok ns b τ ρ s := by
  unfold eqS at h
  simp only [Bool.and_eq_true, decide_eq_true_eq] at h
  obtain ⟨⟨h1, h2⟩, h3⟩ := h
  have e1 := eqL2_eq eqAU_eq h1
  have e2 := eqL2_eq (fun a b => A.eq_ok) h2
  exact ⟨e1 ▸ ok.v, e1 ▸ ok.r, h3 ▸ ok.f, e2 ▸ ok.s, e1 ▸ ok.l⟩
/-! ### what a running ends in -/
def Res (ns : List Int) (r : AR) (out : RS) : Prop := match out with
  | .nx ρ s => OkO ns r.nx ρ s
  | .rt u s => ∃ t, view 64 s u = some t ∧ γ ns r.rt t
  | .bk ρ s => OkO ns r.bk ρ s
  | .ct ρ s => OkO ns r.ct ρ s
  | _ => False
theorem res_nxt (ok : Ok ns σ τ ρ s) : Res ns (nxt σ) (.nx ρ s) := ⟨σ, τ, rfl, ok⟩
/-! ### the store changed -/
theorem setE_ok {i : Nat} {au : AU} {u : U} {fs : List Fa} (ok : Ok ns σ τ ρ s) (g : γU ns τ s au u) (hf : i < ρ.length → ∀ f ∈ fs, γF (ρ.set i (some u)) f) : Ok ns (setE σ i au fs) τ (ρ.set i (some u)) s := by
  have hl := ok.l
  refine ⟨fun j x hj => ?_, fun j k hk => ?_, fun f h => ?_, ok.s, by simp only [setE, List.length_set, hl]⟩
  · simp only [setE] at hj
    by_cases e : i = j
    · subst e
      have hlt : i < σ.env.length := by
        have := (List.getElem?_eq_some_iff.mp hj).1
        simpa using this
      rw [List.getElem?_set_self hlt] at hj
      cases hj
      obtain ⟨t, rfl, g⟩ := g
      exact ⟨t, List.getElem?_set_self (by omega), g⟩
    · rw [List.getElem?_set_ne e] at hj
      obtain ⟨t, h1, h2⟩ := ok.v j x hj
      exact ⟨t, by rw [List.getElem?_set_ne e]; exact h1, h2⟩
  · simp only [setE] at hk
    by_cases e : i = j
    · subst e
      have hlt : i < σ.env.length := by
        have := (List.getElem?_eq_some_iff.mp hk).1
        simpa using this
      rw [List.getElem?_set_self hlt] at hk
      cases hk
      obtain ⟨j', rfl, h1, h2⟩ := g
      exact ⟨j', List.getElem?_set_self (by omega), h1, h2⟩
    · rw [List.getElem?_set_ne e] at hk
      obtain ⟨j', h1, h2⟩ := ok.r j k hk
      exact ⟨j', by rw [List.getElem?_set_ne e]; exact h1, h2⟩
  · simp only [setE] at h
    rcases List.mem_append.mp h with h | h
    · split at h
      · rename_i hi
        exact hf (by omega) f h
      · cases h
    · obtain ⟨h1, h2⟩ := dropF_mem h
      refine γF_same (fun j hj => ?_) (ok.f f h1)
      exact List.getElem?_set_ne fun e => h2 j hj (by rw [e]; exact List.mem_cons_self)
theorem ok_store {s' : Store} {τ' : Nat → Nat} {σ' : AS} (ok : Ok ns σ τ ρ s) (he : σ'.env = σ.env) (hf : σ'.fc = σ.fc) (hl : s.length ≤ s'.length) (ht : ∀ j, j < s.length → τ' j = τ j) (hs : ∀ (j : Nat) o, s'[j]? = some o → ∃ a t, σ'.st[τ' j]? = some a ∧ γ ns a t ∧ DataO t o) : Ok ns σ' τ' ρ s' :=
  ⟨he ▸ ok.v, fun i k h => by
    rw [he] at h
    obtain ⟨j, h1, h2, h3⟩ := ok.r i k h
    exact ⟨j, h1, by rw [ht j h3]; exact h2, by omega⟩, hf ▸ ok.f, hs, he ▸ ok.l⟩
theorem alloc_ok {a : A} {t : T} {o : O} (ok : Ok ns σ τ ρ s) (g : γ ns a t) (d : DataO t o) : ∃ τ', Ok ns (alloc σ a).1 τ' ρ (s ++ [o]) ∧ γU ns τ' (s ++ [o]) (.ref (alloc σ a).2) (.ref s.length) := by
  refine ⟨fun j => if j = s.length then (alloc σ a).2 else τ j, ok_store ok ?_ ?_ (by simp) (fun j hj => if_neg (by omega)) fun j o' hj => ?_, s.length, rfl, if_pos rfl, by simp⟩
  · unfold alloc
    split <;> rfl
  · unfold alloc
    split <;> rfl
  · have new : ∃ b, (alloc σ a).1.st[(alloc σ a).2]? = some b ∧ γ ns b t := by
      unfold alloc
      split
      · rename_i h
        exact ⟨_, List.getElem?_set_self h, join_r g⟩
      · exact ⟨a, by simp, g⟩
    have old : ∀ {k : Nat} {b : A}, σ.st[k]? = some b → ∃ c, (alloc σ a).1.st[k]? = some c ∧ ∀ t, γ ns b t → γ ns c t := by
      intro k b hk
      unfold alloc
      split
      · rename_i h
        by_cases e : σ.p = k
        · subst e
          rw [List.getElem?_eq_getElem h] at hk
          cases hk
          exact ⟨_, List.getElem?_set_self h, fun _ g => join_l g⟩
        · exact ⟨b, by simp only; rw [List.getElem?_set_ne e]; exact hk, fun _ g => g⟩
      · exact ⟨b, by simp only; rw [List.getElem?_append_left (List.getElem?_eq_some_iff.mp hk).1]; exact hk, fun _ g => g⟩
    by_cases e : j = s.length
    · subst e
      rw [if_pos rfl]
      simp at hj
      subst hj
      obtain ⟨b, h1, h2⟩ := new
      exact ⟨b, t, h1, h2, d⟩
    · rw [if_neg e]
      have hlt : j < s.length := by
        have := (List.getElem?_eq_some_iff.mp hj).1
        simp at this
        omega
      rw [List.getElem?_append_left hlt] at hj
      obtain ⟨b, t', h1, h2, h3⟩ := ok.s j o' hj
      obtain ⟨c, h4, h5⟩ := old h1
      exact ⟨c, t', h4, h5 t' h2, h3⟩
theorem site_ok {k j : Nat} {a a' : A} {t' : T} {o' : O} (ok : Ok ns σ τ ρ s) (hj : τ j = k) (e : σ.st[k]? = some a) (w : ∀ t, γ ns a t → γ ns a' t) (g : γ ns a' t') (d : DataO t' o') : Ok ns { σ with st := σ.st.set k a' } τ ρ (s.set j o') := by
  have hk : k < σ.st.length := (List.getElem?_eq_some_iff.mp e).1
  refine ok_store ok rfl rfl (by simp) (fun _ _ => rfl) fun j' o hj' => ?_
  simp only
  rcases get_set hj' with ⟨rfl, rfl⟩ | hj'
  · rw [hj]
    exact ⟨a', t', List.getElem?_set_self hk, g, d⟩
  · obtain ⟨b, t, h1, h2, h3⟩ := ok.s j' o hj'
    by_cases e2 : k = τ j'
    · rw [← e2] at h1 ⊢
      rw [e] at h1
      cases h1
      exact ⟨a', t, List.getElem?_set_self hk, w t h2, h3⟩
    · exact ⟨b, t, by rw [List.getElem?_set_ne e2]; exact h1, h2, h3⟩
theorem kput_vU (q : Ky) (t : T) : ∀ kvs : List (Ky × T), kput q (U.v t) (kvs.map fun p => (p.1, U.v p.2)) = (kput q t kvs).map fun p => (p.1, U.v p.2)
  | [] => rfl
  | p :: r => by
    simp only [List.map_cons, kput]
    split
    · rfl
    · simp only [List.map_cons, kput_vU q t r]
theorem subA_ok {k j : Nat} {a kx x b : A} {kt xt : T} (ok : Ok ns σ τ ρ s) (hj : τ j = k) (hl : j < s.length) (e : σ.st[k]? = some a) (h : subA a kx x = some b) (gk : γ ns kx kt) (gx : γ ns x xt) : ∃ s', subU s (.ref j) (.v kt) (.v xt) = some s' ∧ Ok ns { σ with st := σ.st.set k b } τ ρ s' := by
  obtain ⟨t, o, h1, g, d⟩ := ref_at ok hj hl e
  unfold subA at h
  split at h
  · rename_i sb lo hi y
    simp only [Option.ite_none_right_eq_some, Option.map_eq_some_iff] at h
    obtain ⟨hz, q, hq, rfl⟩ := h
    obtain ⟨kvs, rfl, g1, g2, g3, g4⟩ := g
    simp only [DataO] at d
    subst d
    have hk : ∃ kk, tKy kt = some kk ∧ KeyIn q kk := by
      cases kx <;> simp only [keyS, reduceCtorEq, Option.ite_none_right_eq_some, Option.some.injEq] at hq
      · obtain ⟨i, rfl, _⟩ := gk
        exact ⟨.i i, rfl, hq.symm⟩
      · obtain ⟨z, rfl, _, hz⟩ := gk
        exact ⟨.s z, rfl, by show z.length ≤ KW; omega⟩
    obtain ⟨kk, hk1, hk2⟩ := hk
    have hlen := kput_len (k := kk) (a := xt) (l := kvs)
    refine ⟨s.set j (.dct ((kput kk xt kvs).map fun p => (p.1, U.v p.2))), ?_, site_ok ok hj e (fun t g => ?_) ⟨kput kk xt kvs, rfl, by omega, by omega, kput_nd g3, fun p hp => ?_⟩ (show DataO (.dct (kput kk xt kvs)) (.dct ((kput kk xt kvs).map fun (p : Ky × T) => (p.1, U.v p.2))) from rfl)⟩
    · simp only [subU, h1, hk1, List.length_map]
      rw [if_pos (by omega), kput_vU]
    · obtain ⟨l, rfl, a1, a2, a3, a4⟩ := g
      exact ⟨l, rfl, a1, by omega, a3, fun p hp => ⟨keyIn_and (.inl (a4 p hp).1), join_l (a4 p hp).2⟩⟩
    · rcases kput_mem hp with hp | hp
      · rw [hp]
        exact ⟨keyIn_and (.inr hk2), join_r gx⟩
      · exact ⟨keyIn_and (.inl (g4 p hp).1), join_l (g4 p hp).2⟩
  · rename_i lo hi y
    split at h
    · rename_i c0 d0
      simp only [Option.ite_none_right_eq_some, Option.some.injEq] at h
      obtain ⟨hz, rfl⟩ := h
      obtain ⟨xs, rfl, g1, g2, g3⟩ := g
      obtain ⟨i, rfl, i1, i2⟩ := gk
      simp only [DataO] at d
      subst d
      have key : ∀ jj : Nat, Ok ns { σ with st := σ.st.set k (.lst lo hi (join y x)) } τ ρ (s.set j (.lst ((xs.map U.v).set jj (.v xt)))) := by
        intro jj
        have e2 : (xs.map U.v).set jj (.v xt) = (xs.set jj xt).map U.v := by rw [List.map_set]
        rw [e2]
        refine site_ok ok hj e (fun t g => ?_) ⟨xs.set jj xt, rfl, by simpa using g1, by simpa using g2, fun z hz' => ?_⟩ rfl
        · obtain ⟨l, rfl, a1, a2, a3⟩ := g
          exact ⟨l, rfl, a1, a2, fun z hz => join_l (a3 z hz)⟩
        · rcases List.mem_or_eq_of_mem_set hz' with hz' | hz'
          · exact join_l (g3 z hz')
          · rw [hz']
            exact join_r gx
      by_cases h0 : 0 ≤ i
      · refine ⟨_, ?_, key i.toNat⟩
        simp only [subU, h1, List.length_map]
        rw [if_pos h0, if_pos (by omega)]
      · refine ⟨_, ?_, key (i + xs.length).toNat⟩
        simp only [subU, h1, List.length_map]
        rw [if_neg h0, if_pos (by omega)]
    · cases h
  · cases h
/-! ### the turns of a for -/
section
variable {F : AS → Option AR} {fc : List Fa} {p : Nat} {step : U → Env → Store → RS} {ts : List T} {P : Env → Prop}
def LoopRes (ns : List Int) (P : Env → Prop) (out : AS × A × Option AS) (r : RS) : Prop := match r with
  | .nx ρ s => P ρ ∧ (OkO ns (some out.1) ρ s ∨ OkO ns out.2.2 ρ s)
  | .rt u s => ∃ t, view 64 s u = some t ∧ γ ns out.2.1 t
  | _ => False
theorem loop_stable (hK : ∀ t ∈ ts, ∀ ρ s ρ', P ρ → envOf (step (.v t) ρ s) = some ρ' → P ρ') (hF : ∀ σ r, F σ = some r → ∀ τ ρ s, Ok ns σ τ ρ s → P ρ → ∀ t ∈ ts, Res ns r (step (.v t) ρ s)) {r : AR} {rt : A} {bk : Option AS} (e : F σ = some r) (back : ∀ ρ s, P ρ → (OkO ns r.nx ρ s ∨ OkO ns r.ct ρ s) → ∃ τ, Ok ns σ τ ρ s) (hrt : ∀ t, γ ns r.rt t → γ ns rt t) (hbk : ∀ ρ s, OkO ns r.bk ρ s → OkO ns bk ρ s) :
    ∀ (f k : Nat) {τ : Nat → Nat} {ρ : Env} {s : Store}, f + k = ts.length → Ok ns σ τ ρ s → P ρ → LoopRes ns P (σ, rt, bk) (forGo step (.xs (ts.map .v)) f k ρ s)
  | 0, k, τ, ρ, s, hl, ok, hp => by
    rw [forGo_nil (by simp [wkAt]; omega)]
    exact ⟨hp, .inl ⟨σ, τ, rfl, ok⟩⟩
  | f + 1, k, τ, ρ, s, hl, ok, hp => by
    have hk : k < ts.length := by omega
    rw [forGo_cons (x := .v ts[k]) (by simp [wkAt, hk])]
    have h1 := hF σ r e τ ρ s ok hp ts[k] (List.getElem_mem hk)
    have h2 := hK ts[k] (List.getElem_mem hk) ρ s
    cases es : step (.v ts[k]) ρ s with
    | nx ρ1 s1 =>
      rw [es] at h1 h2
      have hp1 := h2 ρ1 hp rfl
      obtain ⟨τ1, ok1⟩ := back ρ1 s1 hp1 (.inl h1)
      exact loop_stable hK hF e back hrt hbk f (k + 1) (by omega) ok1 hp1
    | ct ρ1 s1 =>
      rw [es] at h1 h2
      have hp1 := h2 ρ1 hp rfl
      obtain ⟨τ1, ok1⟩ := back ρ1 s1 hp1 (.inr h1)
      exact loop_stable hK hF e back hrt hbk f (k + 1) (by omega) ok1 hp1
    | bk ρ1 s1 =>
      rw [es] at h1 h2
      exact ⟨h2 ρ1 hp rfl, .inr (hbk ρ1 s1 h1)⟩
    | rt u s1 =>
      rw [es] at h1
      obtain ⟨t, v, g⟩ := h1
      exact ⟨t, v, hrt t g⟩
    | exc q ρ1 s1 => rw [es] at h1; exact h1
    | bad => rw [es] at h1; exact h1
theorem loop_mono (hP : ∀ ρ, P ρ → ∀ f ∈ fc, γF ρ f) : ∀ (n : Nat) {σ : AS} {rt : A} {bk : Option AS} {out : AS × A × Option AS}, aLoop F fc p n σ rt bk = some out → (∀ τ ρ s, Ok ns σ τ ρ s → P ρ → Ok ns out.1 τ ρ s) ∧ (∀ t, γ ns rt t → γ ns out.2.1 t) ∧ ∀ ρ s, OkO ns bk ρ s → OkO ns out.2.2 ρ s
  | 0, σ, rt, bk, out, h => by
    cases h
    exact ⟨fun _ _ _ ok _ => ok, fun _ g => g, fun _ _ o => o⟩
  | n + 1, σ, rt, bk, out, h => by
    simp only [aLoop, Option.bind_eq_some_iff] at h
    obtain ⟨r, e, bk', hb, o, ho, h⟩ := h
    split at h
    · cases h
      exact ⟨fun _ _ _ ok _ => ok, fun _ g => join_l g, fun _ _ o => join2_ok hb (.inl o)⟩
    · simp only [Option.bind_eq_some_iff] at h
      obtain ⟨σ1, h1, h⟩ := h
      split at h
      · cases h
        exact ⟨fun _ _ _ ok _ => ok, fun _ g => join_l g, fun _ _ o => join2_ok hb (.inl o)⟩
      · obtain ⟨m1, m2, m3⟩ := loop_mono hP n h
        refine ⟨fun τ ρ s ok hp => m1 τ ρ s ?_ hp, fun t g => m2 t (join_l g), fun ρ s o => m3 ρ s (join2_ok hb (.inl o))⟩
        exact (joinS_ok h1 (.inl ok)).with (hP ρ hp)
theorem loop_ok (hP : ∀ ρ, P ρ → ∀ f ∈ fc, γF ρ f) (hK : ∀ t ∈ ts, ∀ ρ s ρ', P ρ → envOf (step (.v t) ρ s) = some ρ' → P ρ') (hF : ∀ σ r, F σ = some r → ∀ τ ρ s, Ok ns σ τ ρ s → P ρ → ∀ t ∈ ts, Res ns r (step (.v t) ρ s)) :
    ∀ (n : Nat) {σ : AS} {rt : A} {bk : Option AS} {out : AS × A × Option AS}, aLoop F fc p n σ rt bk = some out → ∀ (f k : Nat) {τ : Nat → Nat} {ρ : Env} {s : Store}, f + k = ts.length → f ≤ n → Ok ns σ τ ρ s → P ρ → LoopRes ns P out (forGo step (.xs (ts.map .v)) f k ρ s)
  | n, σ, rt, bk, out, h, 0, k, τ, ρ, s, hl, hn, ok, hp => by
    rw [forGo_nil (by simp [wkAt]; omega)]
    exact ⟨hp, .inl ⟨_, τ, rfl, (loop_mono hP n h).1 τ ρ s ok hp⟩⟩
  | 0, σ, rt, bk, out, h, f + 1, k, τ, ρ, s, hl, hn, ok, hp => by omega
  | n + 1, σ, rt, bk, out, h, f + 1, k, τ, ρ, s, hl, hn, ok, hp => by
    have hk : k < ts.length := by omega
    simp only [aLoop, Option.bind_eq_some_iff] at h
    obtain ⟨r, e, bk', hb, o, ho, h⟩ := h
    have h1 := hF σ r e τ ρ s ok hp ts[k] (List.getElem_mem hk)
    have h2 := hK ts[k] (List.getElem_mem hk) ρ s
    split at h
    · cases h
      have no : ∀ ρ s, ¬ (OkO ns r.nx ρ s ∨ OkO ns r.ct ρ s) := fun ρ s z => by
        obtain ⟨_, _, z, _⟩ := join2_ok ho z
        cases z
      exact loop_stable hK hF e (fun ρ s _ z => (no ρ s z).elim) (fun _ g => join_r g) (fun ρ s z => join2_ok hb (.inr z)) (f + 1) k hl ok hp
    · rename_i post
      simp only [Option.bind_eq_some_iff] at h
      obtain ⟨σ1, h3, h⟩ := h
      have back : ∀ ρ s, P ρ → (OkO ns r.nx ρ s ∨ OkO ns r.ct ρ s) → ∃ τ, Ok ns { σ1 with fc := fc, p := p } τ ρ s := by
        intro ρ s hp z
        obtain ⟨σ2, τ2, e2, ok2⟩ := join2_ok ho z
        cases e2
        exact ⟨τ2, (joinS_ok h3 (.inr (ok2.with (hP ρ hp)))).with (hP ρ hp)⟩
      split at h
      · rename_i hq
        cases h
        exact loop_stable hK hF e (fun ρ s hp z => by
          obtain ⟨τ', ok'⟩ := back ρ s hp z
          exact ⟨τ', eqS_ok hq ok'⟩) (fun _ g => join_r g) (fun ρ s z => join2_ok hb (.inr z)) (f + 1) k hl ok hp
      · rw [forGo_cons (x := .v ts[k]) (by simp [wkAt, hk])]
        obtain ⟨m1, m2, m3⟩ := loop_mono (ns := ns) (P := P) hP n h
        cases es : step (.v ts[k]) ρ s with
        | nx ρ1 s1 =>
          rw [es] at h1 h2
          have hp1 := h2 ρ1 hp rfl
          obtain ⟨τ1, ok1⟩ := back ρ1 s1 hp1 (.inl h1)
          exact loop_ok hP hK hF n h f (k + 1) (by omega) (by omega) ok1 hp1
        | ct ρ1 s1 =>
          rw [es] at h1 h2
          have hp1 := h2 ρ1 hp rfl
          obtain ⟨τ1, ok1⟩ := back ρ1 s1 hp1 (.inr h1)
          exact loop_ok hP hK hF n h f (k + 1) (by omega) (by omega) ok1 hp1
        | bk ρ1 s1 =>
          rw [es] at h1 h2
          exact ⟨h2 ρ1 hp rfl, .inr (m3 ρ1 s1 (join2_ok hb (.inr h1)))⟩
        | rt u s1 =>
          rw [es] at h1
          obtain ⟨t, v, g⟩ := h1
          exact ⟨t, v, m2 t (join_r g)⟩
        | exc q ρ1 s1 => rw [es] at h1; exact h1
        | bad => rw [es] at h1; exact h1
end
end
end Cab

set_option linter.all false
set_option maxRecDepth 100000
set_option maxHeartbeats 2000000
namespace Cab
section
variable {ns : List Int} {σ : AS} {τ : Nat → Nat} {ρ : Env} {s : Store} {G : Glo} {C : Call} {CA : Nat → List A → Option A} {W : Nat}
theorem isDct_ok {v : Nat} (ok : Ok ns σ τ ρ s) (h : isDct σ.env[v]? = true) : ∃ kvs, ρ[v]? = some (some (U.v (.dct kvs))) := by
  unfold isDct at h
  split at h
  · rename_i e
    obtain ⟨t, h1, h2⟩ := ok.v _ _ e
    obtain ⟨kvs, rfl, _⟩ := h2
    exact ⟨kvs, h1⟩
  · cases h
theorem isData_ok {v : Nat} (ok : Ok ns σ τ ρ s) (h : isData σ.env[v]? = true) : ∃ t, ρ[v]? = some (some (U.v t)) := by
  unfold isData at h
  split at h
  · rename_i a e
    obtain ⟨t, h1, h2⟩ := ok.v _ _ e
    exact ⟨t, h1⟩
  · cases h
theorem sorted_back {v : Nat} {kvs : List (Ky × T)} {u : U} {s' : Store} (hv : ρ[v]? = some (some (U.v (.dct kvs)))) (e : ev G C (.prm .sorted (.cons (.var v) .nil)) ρ s = .ok u s') : ∃ ts, u = .v (.lst ts) ∧ s' = s ∧ ts.length = kvs.length ∧ ∀ t ∈ ts, ∃ q, tKy t = some q ∧ (kget q kvs).isSome = true := by
  rw [ev_prm, evs_cons, ev_var, hv] at e
  simp only [bind_ok, evs_nil, optAll_cons, asT_v, optAll_nil, primT] at e
  split at e
  · cases es : sortT (kvs.map fun p => kyT p.1) with
    | none =>
      rw [es] at e
      cases e
    | some ys =>
      rw [es] at e
      simp only [Option.map_some, okO_some, R.ok.injEq] at e
      obtain ⟨rfl, rfl⟩ := e
      refine ⟨ys, rfl, rfl, by rw [(sortT_mem es).1, List.length_map], fun t ht => ?_⟩
      obtain ⟨p, hp, ep⟩ := List.mem_map.mp ((sortT_mem es).2 t ht)
      subst ep
      exact ⟨p.1, tKy_kyT _, kget_some (List.mem_map.mpr ⟨p, hp, rfl⟩)⟩
  · cases e
theorem at_lst {ts : List T} {k : Int} {w : T} (h : idxT (.lst ts) (.int k) = some w) : w ∈ ts := by
  simp only [idxT, Cab.atI] at h
  split at h
  · exact List.mem_of_getElem? h
  · split at h
    · exact List.mem_of_getElem? h
    · cases h
theorem idx_back {a b : E} {ts : List T} {u : U} {s' s1 : Store} (ea : ev G C a ρ s = .ok (.v (.lst ts)) s1) (e : ev G C (.idx a b) ρ s = .ok u s') (hk : ∀ u s', ev G C b ρ s1 = .ok u s' → ∃ k, u = .v (.int k)) : ∃ t ∈ ts, u = .v t := by
  rw [ev_idx, ea, bind_ok] at e
  obtain ⟨w, s2, e1, e2⟩ := bind_inv e
  obtain ⟨k, rfl⟩ := hk w s2 e1
  simp only [idxU] at e2
  cases ei : idxT (.lst ts) (.int k) with
  | none =>
    rw [ei] at e2
    cases e2
  | some x =>
    rw [ei] at e2
    cases e2
    exact ⟨x, at_lst ei, rfl⟩
theorem var_at {j : Nat} {u' : U} {s' : Store} (h : ev G C (.var j) ρ s = .ok u' s') : ρ[j]? = some (some u') ∧ s' = s := by
  rw [ev_var] at h
  split at h
  · rename_i h'
    cases h
    exact ⟨h', rfl⟩
  · cases h
theorem modLen_int {v : Nat} {b : E} {u : U} {s' : Store} (hm : modLen v b = true) (eb : ev G C b ρ s = .ok u s') : ∃ k, u = .v (.int k) := by
  unfold modLen at hm
  split at hm
  · rename_i a w0
    rw [ev_bin] at eb
    obtain ⟨x, s3, _, e2⟩ := bind_inv eb
    obtain ⟨y, s4, e3, e4⟩ := bind_inv e2
    rw [ev_len] at e3
    obtain ⟨z, s5, _, e5⟩ := bind_inv e3
    cases el : lenU s5 z with
    | none => rw [el] at e5; cases e5
    | some n =>
      rw [el] at e5
      simp only [Option.map_some, okO_some, R.ok.injEq] at e5
      obtain ⟨rfl, rfl⟩ := e5
      unfold lift2 at e4
      cases ex : asT s5 x with
      | none => rw [ex] at e4; cases e4
      | some tx =>
        rw [ex] at e4
        simp only [asT_v] at e4
        cases eb' : binT .mod tx (.int n) with
        | none => rw [eb'] at e4; cases e4
        | some z' =>
          rw [eb'] at e4
          cases e4
          cases tx <;> simp only [binT, reduceCtorEq, Option.ite_none_right_eq_some, Option.some.injEq] at eb'
          obtain ⟨hn, rfl⟩ := eb'
          exact ⟨_, rfl⟩
  · cases hm
theorem newFa_ok {i : Nat} {e : E} {u : U} (ok : Ok ns σ τ ρ s) (ev1 : ev G C e ρ s = .ok u s) (hi : i < ρ.length) : ∀ f ∈ newFa σ i e, γF (ρ.set i (some u)) f := by
  intro f hf
  have self : (ρ.set i (some u))[i]? = some (some u) := List.getElem?_set_self hi
  have ne : ∀ {v : Nat} {x : U}, v ≠ i → ρ[v]? = some (some x) → (ρ.set i (some u))[v]? = some (some x) := fun h e => by rw [List.getElem?_set_ne (Ne.symm h)]; exact e
  unfold newFa at hf
  split at hf
  · rename_i a v
    split at hf
    · rename_i hc
      rw [List.mem_singleton.mp hf]
      obtain ⟨t, ht⟩ := isData_ok ok hc.2
      obtain ⟨k, n, rfl, h1, h2, h3⟩ := modLen_back (v := v) (show modLen v (.bin .mod a (.len (.var v))) = true from beq_self_eq_true v) ht ev1
      exact ⟨k, n, t, self, ne hc.1 ht, h1, h2, h3⟩
    · cases hf
  · rename_i v
    split at hf
    · rename_i hc
      rw [List.mem_singleton.mp hf]
      obtain ⟨kvs, hk⟩ := isDct_ok ok hc.2
      obtain ⟨ts, rfl, _, _, h1⟩ := sorted_back hk ev1
      exact ⟨ts, kvs, self, ne hc.1 hk, h1⟩
    · cases hf
  · rename_i v b
    split at hf
    · rename_i hc
      rw [List.mem_singleton.mp hf]
      obtain ⟨kvs, hk⟩ := isDct_ok ok hc.2.1
      cases ea : ev G C (.prm .sorted (.cons (.var v) .nil)) ρ s with
      | ok w s1 =>
        obtain ⟨ts, rfl, rfl, _, h1⟩ := sorted_back hk ea
        obtain ⟨t, ht, rfl⟩ := idx_back ea ev1 fun u s2 eb => modLen_int hc.2.2 eb
        obtain ⟨q, q1, q2⟩ := h1 t ht
        exact ⟨t, q, kvs, self, q1, ne hc.1 hk, q2⟩
      | exc x s1 => rw [ev_idx, ea] at ev1; cases ev1
      | bad => rw [ev_idx, ea] at ev1; cases ev1
    · cases hf
  · rename_i w b _
    split at hf
    · rename_i hm
      obtain ⟨f', hf', ef⟩ := List.mem_filterMap.mp hf
      have g := ok.f f' hf'
      cases f' with
      | ix _ _ => cases ef
      | key _ _ => cases ef
      | keys w' d =>
        simp only [Option.ite_none_right_eq_some, Option.some.injEq] at ef
        obtain ⟨⟨rfl, hd⟩, rfl⟩ := ef
        obtain ⟨ts0, kvs, h1, h2, h3⟩ := g
        have ea : ev G C (.var w') ρ s = .ok (.v (.lst ts0)) s := by rw [ev_var, h1]
        obtain ⟨t, ht, rfl⟩ := idx_back ea ev1 fun u s2 eb => modLen_int hm eb
        obtain ⟨q, q1, q2⟩ := h3 t ht
        exact ⟨t, q, kvs, self, q1, ne hd h2, q2⟩
    · cases hf
  · rename_i w
    obtain ⟨f', hf', ef⟩ := List.mem_filterMap.mp hf
    have g := ok.f f' hf'
    cases f' with
    | ix _ _ => cases ef
    | key _ _ => cases ef
    | keys w' d =>
      simp only [Option.ite_none_right_eq_some, Option.some.injEq] at ef
      obtain ⟨⟨rfl, hd⟩, rfl⟩ := ef
      obtain ⟨ts0, kvs, h1, h2, h3⟩ := g
      rw [ev_revS, ev_var, h1] at ev1
      simp only [bind_ok, lift1, asT_v, revT, Option.map_some, okO_some] at ev1
      cases ev1
      exact ⟨ts0.reverse, kvs, self, ne hd h2, fun t ht => h3 t (List.mem_reverse.mp ht)⟩
  · cases hf
/-- a walk that is no walk over a list of the store -/
theorem aE_ref {e : E} {k : Nat} (h : aE G CA e σ = some (.ref k)) : ∃ i, e = .var i := by
  cases e <;> simp only [aE, Option.bind_eq_some_iff, Option.map_eq_some_iff, reduceCtorEq, Option.ite_none_right_eq_some, Option.some.injEq, and_false, exists_false, exists_const, false_and] at h
  · exact ⟨_, rfl⟩
  · split at h
    · split at h <;> cases h
    · cases h
  · obtain ⟨_, _, _, _, _, _, h⟩ := h
    split at h
    · simp only [Option.bind_eq_some_iff, Option.map_eq_some_iff, reduceCtorEq, and_false, exists_false] at h
    · cases h
  · obtain ⟨_, _, _, _, _, _, h⟩ := h
    split at h
    · simp only [Option.bind_eq_some_iff, Option.map_eq_some_iff, reduceCtorEq, and_false, exists_false] at h
    · cases h
  · obtain ⟨_, _, _, _, _, _, _, _, h⟩ := h
    split at h
    · simp only [Option.map_eq_some_iff, reduceCtorEq, and_false, exists_false] at h
    · split at h
      · cases h
      · simp only [Option.map_eq_some_iff, reduceCtorEq, and_false, exists_false] at h
  · obtain ⟨_, _, _, h⟩ := h
    split at h
    · cases h
    · simp only [Option.bind_eq_some_iff, Option.map_eq_some_iff, reduceCtorEq, and_false, exists_false] at h
  · obtain ⟨_, _, _, h⟩ := h
    split at h
    · cases h
    · simp only [Option.bind_eq_some_iff] at h
      obtain ⟨_, _, _, _, _, _, _, _, h⟩ := h
      split at h
      · simp only [Option.bind_eq_some_iff, Option.map_eq_some_iff, reduceCtorEq, and_false, exists_false] at h
      · cases h
theorem wkU_v {t : T} {w : Wk} (h : wkU s (.v t) = some w) : ∃ us, w = .xs us := by
  simp only [wkU, Option.map_eq_some_iff] at h
  obtain ⟨us, _, rfl⟩ := h
  exact ⟨us, rfl⟩
theorem src_xs (hC : ∀ f as a, CA f as = some a → ∀ ts, γl ns as ts → ∃ t, γ ns a t ∧ Ans C f ts t) {src : Src} {q : A × Nat × Nat} {w : Wk} {s' : Store} (h : aSrc G CA src σ = some q) (hr : refSrc src σ = false) (ok : Ok ns σ τ ρ s) (e : evSrc G C src ρ s = .ok w s') : ∃ us, w = .xs us := by
  cases src with
  | it e1 =>
    simp only [aSrc, Option.bind_eq_some_iff] at h
    obtain ⟨x, hx, _⟩ := h
    obtain ⟨u, e2, g⟩ := aE_ok hC e1 hx ok
    rw [evSrc_it, e2, bind_ok] at e
    cases x with
    | v a =>
      obtain ⟨t, rfl, _⟩ := g
      cases ew : wkU s (.v t) with
      | none => rw [ew] at e; cases e
      | some w' =>
        rw [ew] at e
        cases e
        exact wkU_v ew
    | ref k =>
      obtain ⟨i, rfl⟩ := aE_ref hx
      exfalso
      simp only [aE] at hx
      simp only [refSrc] at hr
      split at hx
      · rename_i e3
        cases hx
        rw [e3] at hr
        cases hr
      · cases hx
  | rng1 a =>
    obtain ⟨j, _, h⟩ := rng1_inv e
    exact ⟨_, h⟩
  | rng2 a b =>
    rw [evSrc_rng2] at e
    obtain ⟨u, s1, _, e⟩ := bind_inv e
    obtain ⟨u', s2, _, e⟩ := bind_inv e
    split at e
    · split at e
      · cases e
        exact ⟨_, rfl⟩
      · cases e
    · cases e
  | items a =>
    rw [evSrc_items] at e
    obtain ⟨u, s1, _, e⟩ := bind_inv e
    split at e
    · cases e
      exact ⟨_, rfl⟩
    · cases e
  | values a =>
    rw [evSrc_values] at e
    obtain ⟨u, s1, _, e⟩ := bind_inv e
    split at e
    · cases e
      exact ⟨_, rfl⟩
    · cases e
  | _ => simp [aSrc] at h
theorem aS_set {i : Nat} {e : E} {r : AR} (h : aS G CA (.set i e) σ = some r) : (∃ es, e = .lstO es) ∨ (∃ ks vs, e = .dctO ks vs) ∨ (∃ a, e = .newL a) ∨ (∃ a, e = .newD a) ∨ (aE G CA e σ).map (fun x => nxt (setE σ i x (newFa σ i e))) = some r := by
  cases e
  case lstO => exact .inl ⟨_, rfl⟩
  case dctO => exact .inr (.inl ⟨_, _, rfl⟩)
  case newL => exact .inr (.inr (.inl ⟨_, rfl⟩))
  case newD => exact .inr (.inr (.inr (.inl ⟨_, rfl⟩)))
  all_goals exact .inr (.inr (.inr (.inr (by simpa only [aS] using h))))
theorem aS_ex {e : E} {r : AR} (h : aS G CA (.ex e) σ = some r) : (∃ i b, e = .app (.var i) b) ∨ (aE G CA e σ).map (fun _ => nxt σ) = some r := by
  cases e
  case app a b =>
    cases a
    case var => exact .inl ⟨_, _, rfl⟩
    all_goals exact .inr (by simpa only [aS] using h)
  all_goals exact .inr (by simpa only [aS] using h)
theorem seq_lst {x : AU} {u : U} {ts : List T} (ok : Ok ns σ τ ρ s) (g : γU ns τ s x u) (h : asT s u = some (.lst ts)) (hx : (∃ a, x = .v a) ∨ ∃ k, x = .ref k ∧ k < σ.st.length) : seqU s u = some (ts.map .v) := by
  cases x with
  | v a =>
    obtain ⟨t, rfl, _⟩ := g
    simp only [asT_v, Option.some.injEq] at h
    subst h
    rfl
  | ref k =>
    obtain ⟨j, rfl, hj, hl⟩ := g
    rcases hx with ⟨a, e⟩ | ⟨k', e, hk⟩
    · cases e
    · cases e
      obtain ⟨t, o, h1, g', d⟩ := ref_at ok hj hl (List.getElem?_eq_getElem hk)
      cases t <;> simp only [DataO] at d <;> subst d
      · simp only [asT, h1, unV_v, Option.map_some, Option.some.injEq, T.lst.injEq] at h
        subst h
        simp only [seqU, h1]
      · simp only [asT, h1, kv_unKV, Option.map_some, Option.some.injEq, reduceCtorEq] at h
theorem dct_dct {x : AU} {u : U} {kvs : List (Ky × T)} (ok : Ok ns σ τ ρ s) (g : γU ns τ s x u) (h : asT s u = some (.dct kvs)) (hx : (∃ a, x = .v a) ∨ ∃ k, x = .ref k ∧ k < σ.st.length) : dctU s u = some (kvs.map fun p => (p.1, U.v p.2)) := by
  cases x with
  | v a =>
    obtain ⟨t, rfl, _⟩ := g
    simp only [asT_v, Option.some.injEq] at h
    subst h
    rfl
  | ref k =>
    obtain ⟨j, rfl, hj, hl⟩ := g
    rcases hx with ⟨a, e⟩ | ⟨k', e, hk⟩
    · cases e
    · cases e
      obtain ⟨t, o, h1, g', d⟩ := ref_at ok hj hl (List.getElem?_eq_getElem hk)
      cases t <;> simp only [DataO] at d <;> subst d
      · simp only [asT, h1, unV_v, Option.map_some, Option.some.injEq, reduceCtorEq] at h
      · simp only [asT, h1, kv_unKV, Option.map_some, Option.some.injEq, T.dct.injEq] at h
        subst h
        simp only [dctU, h1]
theorem view_here {x : AU} {a : A} (h : viewA σ.st x = some a) : (∃ a, x = .v a) ∨ ∃ k, x = .ref k ∧ k < σ.st.length := by
  cases x with
  | v b => exact .inl ⟨b, rfl⟩
  | ref k => exact .inr ⟨k, rfl, (List.getElem?_eq_some_iff.mp h).1⟩
theorem bind_toS {r : R U} {u : U} {s' : Store} {f : U → Store → RS} (h : r = .ok u s') : r.toS ρ f = f u s' := by rw [h]; rfl
def augT (op : Bop) (t t' : T) : Option T := match op, t, t' with
  | .add, .int a, .int b => some (.int (a + b))
  | .sub, .int a, .int b => some (.int (a - b))
  | .add, .str a, .str b => if a.length + b.length ≤ LIM then some (.str (a ++ b)) else none
  | _, _, _ => none
theorem aAug1_ok (op : Bop) : Snd2 ns (aAug1 op) (augT op) := by
  intro x y c t t' e g g'
  unfold aAug1 at e
  split at e
  · cases e
    obtain ⟨i, rfl, h1, h2⟩ := g
    obtain ⟨j, rfl, h3, h4⟩ := g'
    exact ⟨_, rfl, _, rfl, by omega, by omega⟩
  · cases e
    obtain ⟨i, rfl, h1, h2⟩ := g
    obtain ⟨j, rfl, h3, h4⟩ := g'
    exact ⟨_, rfl, _, rfl, by omega, by omega⟩
  · split at e
    · cases e
      obtain ⟨i, rfl, h1, h2⟩ := g
      obtain ⟨j, rfl, h3, h4⟩ := g'
      exact ⟨.str (i ++ j), if_pos (by omega), _, rfl, by rw [List.length_append]; omega, by rw [List.length_append]; omega⟩
    · cases e
  · cases e
theorem Res.l {r q : AR} {nx bk ct : Option AS} {out : RS} (h1 : join2 r.nx q.nx = some nx) (h2 : join2 r.bk q.bk = some bk) (h3 : join2 r.ct q.ct = some ct) (h : Res ns r out) : Res ns ⟨nx, join r.rt q.rt, bk, ct⟩ out := by
  cases out with
  | nx ρ s => exact join2_ok h1 (.inl h)
  | rt u s =>
    obtain ⟨t, v, g⟩ := h
    exact ⟨t, v, join_l g⟩
  | bk ρ s => exact join2_ok h2 (.inl h)
  | ct ρ s => exact join2_ok h3 (.inl h)
  | exc _ _ _ => exact h
  | bad => exact h
theorem Res.r {r q : AR} {nx bk ct : Option AS} {out : RS} (h1 : join2 r.nx q.nx = some nx) (h2 : join2 r.bk q.bk = some bk) (h3 : join2 r.ct q.ct = some ct) (h : Res ns q out) : Res ns ⟨nx, join r.rt q.rt, bk, ct⟩ out := by
  cases out with
  | nx ρ s => exact join2_ok h1 (.inr h)
  | rt u s =>
    obtain ⟨t, v, g⟩ := h
    exact ⟨t, v, join_r g⟩
  | bk ρ s => exact join2_ok h2 (.inr h)
  | ct ρ s => exact join2_ok h3 (.inr h)
  | exc _ _ _ => exact h
  | bad => exact h
theorem ev_newL (a : E) (ρ : Env) (s : Store) : ev G C (.newL a) ρ s = (ev G C a ρ s).bind fun u s => (match seqU s u with
    | some us => .ok (.ref s.length) (s ++ [.lst us])
    | none => (match keysU s u with
      | some us => .ok (.ref s.length) (s ++ [.lst us])
      | none => .bad)) := by
  simp only [ev] <;> rfl
theorem ev_newD (a : E) (ρ : Env) (s : Store) : ev G C (.newD a) ρ s = (ev G C a ρ s).bind fun u s => (match dctU s u with
    | some kvs => .ok (.ref s.length) (s ++ [.dct kvs])
    | none => (match pairsV u with
      | some ps => .ok (.ref s.length) (s ++ [.dct ((merge [] ps).map fun p => (p.1, .v p.2))])
      | none => .bad)) := by
  simp only [ev] <;> rfl
theorem ev_dctO (ks : List Ky) (vs : Es) (ρ : Env) (s : Store) : ev G C (.dctO ks vs) ρ s = (evs G C vs ρ s).bind fun ws s => if ks.length = ws.length ∧ ks.length ≤ 15 then .ok (.ref s.length) (s ++ [.dct (merge [] (ks.zip ws))]) else .bad := by simp only [ev]
theorem merge_vU : ∀ (ps acc : List (Ky × T)), merge (acc.map fun p => (p.1, U.v p.2)) (ps.map fun p => (p.1, U.v p.2)) = (merge acc ps).map fun p => (p.1, U.v p.2)
  | [], acc => rfl
  | p :: ps, acc => by
    simp only [List.map_cons, merge, kput_vU]
    exact merge_vU ps _
theorem alloc_set {i : Nat} {a : A} {t : T} {o : O} (ok : Ok ns σ τ ρ s) (g : γ ns a t) (d : DataO t o) : Res ns (nxt (setE (alloc σ a).1 i (.ref (alloc σ a).2) [])) (.nx (ρ.set i (some (.ref s.length))) (s ++ [o])) := by
  obtain ⟨τ', ok', gU⟩ := alloc_ok ok g d
  exact ⟨_, τ', rfl, setE_ok ok' gU fun _ f hf => by cases hf⟩
mutual
theorem aS_ok (hC : ∀ f as a, CA f as = some a → ∀ ts, γl ns as ts → ∃ t, γ ns a t ∧ Ans C f ts t) : ∀ (st : S) {σ : AS} {r : AR}, aS G CA st σ = some r → ∀ {τ : Nat → Nat} {ρ : Env} {s : Store}, Ok ns σ τ ρ s → Res ns r (exS G C W st ρ s)
  | .pass, σ, r, h, τ, ρ, s, ok => by
    simp only [aS, Option.some.injEq] at h
    subst h
    simp only [exS]
    exact res_nxt ok
  | .brk, σ, r, h, τ, ρ, s, ok => by
    simp only [aS, Option.some.injEq] at h
    subst h
    simp only [exS]
    exact ⟨σ, τ, rfl, ok⟩
  | .cnt, σ, r, h, τ, ρ, s, ok => by
    simp only [aS, Option.some.injEq] at h
    subst h
    simp only [exS]
    exact ⟨σ, τ, rfl, ok⟩
  | .ex e, σ, r, h, τ, ρ, s, ok => by
    simp only [exS]
    rcases aS_ex h with ⟨i, b, rfl⟩ | h'
    · simp only [aS] at h
      split at h
      · rename_i k ek
        simp only [Option.bind_eq_some_iff] at h
        obtain ⟨x, hx, y, hy, a, ha, h⟩ := h
        obtain ⟨u, e1, g1⟩ := aE_ok hC b hx ok
        obtain ⟨t, rfl, g⟩ := dataU g1 hy
        obtain ⟨j, r1, r2, r3⟩ := ok.r i k ek
        obtain ⟨t', o, o1, g', d⟩ := ref_at ok r2 r3 ha
        split at h
        · simp only [Option.ite_none_right_eq_some, Option.some.injEq] at h
          obtain ⟨hl, rfl⟩ := h
          obtain ⟨ts, rfl, l1, l2, l3⟩ := g'
          simp only [DataO] at d
          subst d
          have ev1 : ev G C (.app (.var i) b) ρ s = .ok (.v .non) (s.set j (.lst (ts.map .v ++ [.v t]))) := by
            rw [ev_app, ev_var, r1]
            simp only [bind_ok, lstAt, o1, e1, List.length_map]
            rw [if_pos (by omega)]
          rw [bind_toS ev1]
          refine ⟨_, τ, rfl, site_ok (t' := .lst (ts ++ [t])) ok r2 ha (fun z gz => ?_) ⟨ts ++ [t], rfl, by rw [List.length_append]; omega, by rw [List.length_append]; simp; omega, fun z hz => ?_⟩ ?_⟩
          · obtain ⟨l, rfl, a1, a2, a3⟩ := gz
            exact ⟨l, rfl, a1, by omega, fun z hz => join_l (a3 z hz)⟩
          · rcases List.mem_append.mp hz with hz | hz
            · exact join_l (l3 z hz)
            · rw [List.mem_singleton.mp hz]
              exact join_r g
          · simp only [DataO, List.map_append, List.map_cons, List.map_nil]
        · cases h
      · cases h
    · obtain ⟨x, hx, rfl⟩ := Option.map_eq_some_iff.mp h'
      obtain ⟨u, e1, _⟩ := aE_ok hC e hx ok
      rw [bind_toS e1]
      exact res_nxt ok
  | .ret e, σ, r, h, τ, ρ, s, ok => by
    simp only [aS, Option.bind_eq_some_iff, Option.map_eq_some_iff] at h
    obtain ⟨x, hx, y, hy, rfl⟩ := h
    obtain ⟨u, e1, g1⟩ := aE_ok hC e hx ok
    obtain ⟨t, _, v, g, _⟩ := viewU ok g1 hy
    simp only [exS]
    rw [bind_toS e1]
    exact ⟨t, v, g⟩
  | .retN, σ, r, h, τ, ρ, s, ok => by
    simp only [aS, Option.some.injEq] at h
    subst h
    simp only [exS]
    exact ⟨.non, view_v1 _ _ _, rfl⟩
  | .set i e, σ, r, h, τ, ρ, s, ok => by
    simp only [exS]
    rcases aS_set h with ⟨es, rfl⟩ | ⟨ks, vs, rfl⟩ | ⟨a, rfl⟩ | ⟨a, rfl⟩ | h'
    · simp only [aS, Option.bind_eq_some_iff, Option.ite_none_right_eq_some, Option.some.injEq] at h
      obtain ⟨xs, hx, ys, hy, hl, rfl⟩ := h
      obtain ⟨us, e1, g1⟩ := aEs_ok hC es hx ok
      obtain ⟨ts, rfl, g2⟩ := datasU g1 hy
      have len := γl_len g2
      have ev1 : ev G C (.lstO es) ρ s = .ok (.ref s.length) (s ++ [.lst (ts.map .v)]) := by
        rw [ev_lstO, e1, bind_ok, List.length_map, len, if_pos hl]
      rw [bind_toS ev1]
      exact alloc_set (t := .lst ts) ok ⟨ts, rfl, by omega, by omega, joinL_ok g2⟩ rfl
    · simp only [aS, Option.bind_eq_some_iff, Option.ite_none_right_eq_some, Option.some.injEq] at h
      obtain ⟨xs, hx, ys, hy, hl, rfl⟩ := h
      obtain ⟨us, e1, g1⟩ := aEs_ok hC vs hx ok
      obtain ⟨ts, rfl, g2⟩ := datasU g1 hy
      have len := γl_len g2
      obtain ⟨l1, l2, l3⟩ := hl
      obtain ⟨r1, r2, r3, r4, r5⟩ := merge_ok (P := fun p => KeyIn (ks.all strKy) p.1 ∧ γ ns (joinL ys) p.2) (ps := ks.zip ts) (acc := []) List.nodup_nil (fun p hp => by cases hp) fun p hp => zip_pairs hp l3 (joinL_ok g2)
      have hz : (ks.zip ts).length = ks.length := by rw [List.length_zip]; omega
      have ev1 : ev G C (.dctO ks vs) ρ s = .ok (.ref s.length) (s ++ [.dct ((merge [] (ks.zip ts)).map fun p => (p.1, U.v p.2))]) := by
        rw [ev_dctO, e1, bind_ok, List.length_map, if_pos ⟨by omega, l2⟩, List.zip_map_right, ← merge_vU]
        rfl
      rw [bind_toS ev1]
      refine alloc_set (t := .dct (merge [] (ks.zip ts))) ok ⟨_, rfl, ?_, ?_, r1, r2⟩ rfl
      · by_cases hn : ks.zip ts = []
        · rw [hn] at hz
          simp at hz
          omega
        · have := r5 hn
          omega
      · simp at r4
        omega
    · simp only [aS, Option.bind_eq_some_iff] at h
      obtain ⟨x, hx, y, hy, h⟩ := h
      obtain ⟨u, e1, g1⟩ := aE_ok hC a hx ok
      obtain ⟨t, a1, v, g, _⟩ := viewU ok g1 hy
      split at h
      · cases h
        have g' := g
        obtain ⟨ts, rfl, _⟩ := g'
        have ev1 : ev G C (.newL a) ρ s = .ok (.ref s.length) (s ++ [.lst (ts.map .v)]) := by
          rw [ev_newL, e1, bind_ok, seq_lst ok g1 a1 (view_here hy)]
        rw [bind_toS ev1]
        exact alloc_set (t := .lst ts) ok g rfl
      · cases h
    · simp only [aS, Option.bind_eq_some_iff] at h
      obtain ⟨x, hx, y, hy, h⟩ := h
      obtain ⟨u, e1, g1⟩ := aE_ok hC a hx ok
      obtain ⟨t, a1, v, g, _⟩ := viewU ok g1 hy
      split at h
      · cases h
        have g' := g
        obtain ⟨kvs, rfl, _⟩ := g'
        have ev1 : ev G C (.newD a) ρ s = .ok (.ref s.length) (s ++ [.dct (kvs.map fun p => (p.1, U.v p.2))]) := by
          rw [ev_newD, e1, bind_ok, dct_dct ok g1 a1 (view_here hy)]
        rw [bind_toS ev1]
        exact alloc_set (t := .dct kvs) ok g rfl
      · simp only [Option.bind_eq_some_iff] at h
        obtain ⟨y', hy', r', hr', h⟩ := h
        split at h
        · cases h
          obtain ⟨t', rfl, g'⟩ := dataU g1 hy'
          obtain ⟨w, w1, w2⟩ := (aPrm1_ok .dict).lift _ _ _ hr' g'
          have w2' := w2
          obtain ⟨kvs, rfl, _⟩ := w2'
          have hp : ∃ xs ps, t' = .lst xs ∧ allPair xs = some ps ∧ kvs = merge [] ps := by
            have w1 : primT .dict [t'] = some (.dct kvs) := w1
            cases t' <;> simp only [primT, reduceCtorEq, Option.map_eq_some_iff, T.dct.injEq] at w1
            obtain ⟨ps, h1, h2⟩ := w1
            exact ⟨_, ps, rfl, h1, h2.symm⟩
          obtain ⟨xs, ps, rfl, h1, rfl⟩ := hp
          have ev1 : ev G C (.newD a) ρ s = .ok (.ref s.length) (s ++ [.dct ((merge [] ps).map fun p => (p.1, U.v p.2))]) := by
            rw [ev_newD, e1, bind_ok]
            simp only [dctU, pairsV, h1]
          rw [bind_toS ev1]
          exact alloc_set (t := .dct (merge [] ps)) ok w2 rfl
        · cases h
    · obtain ⟨x, hx, rfl⟩ := Option.map_eq_some_iff.mp h'
      obtain ⟨u, e1, g⟩ := aE_ok hC e hx ok
      rw [bind_toS e1]
      exact ⟨_, τ, rfl, setE_ok ok g fun hi => newFa_ok ok e1 hi⟩
  | .setT is e, σ, r, h, τ, ρ, s, ok => by
    simp only [aS, Option.bind_eq_some_iff] at h
    obtain ⟨x, hx, y, hy, h⟩ := h
    obtain ⟨u, e1, g1⟩ := aE_ok hC e hx ok
    obtain ⟨t, rfl, g⟩ := dataU g1 hy
    split at h
    · rename_i as
      obtain ⟨env, he, rfl⟩ := Option.map_eq_some_iff.mp h
      obtain ⟨ρ', b1, b2, b3, b4, b5, b6⟩ := aBind_ok (tg := .many is) (x := .tup as) he g ok.l ok.v
      simp only [exS]
      rw [bind_toS e1, b1]
      refine ⟨_, τ, rfl, b3, fun i k hi => ?_, fun f hf => ?_, ok.s, b2⟩
      · obtain ⟨h1, h2⟩ := b5 i k hi
        obtain ⟨j, h3, h4⟩ := ok.r i k h1
        exact ⟨j, by rw [b4 i h2]; exact h3, h4⟩
      · obtain ⟨h1, h2⟩ := dropF_mem hf
        exact γF_same (fun j hj => b4 j (h2 j hj)) (ok.f f h1)
    · cases h
  | .aug i op e, σ, r, h, τ, ρ, s, ok => by
    simp only [aS] at h
    split at h
    · rename_i a ea
      simp only [Option.bind_eq_some_iff, Option.map_eq_some_iff] at h
      obtain ⟨x, hx, y, hy, z, hz, rfl⟩ := h
      obtain ⟨u, e1, g1⟩ := aE_ok hC e hx ok
      obtain ⟨t', rfl, g'⟩ := dataU g1 hy
      obtain ⟨t, h1, g⟩ := ok.v i a ea
      obtain ⟨w, w1, w2⟩ := (aAug1_ok op).lift _ _ _ _ _ hz g g'
      have goal : Res ns (nxt (setE σ i (.v z) [])) (.nx (ρ.set i (some (.v w))) s) := ⟨_, τ, rfl, setE_ok ok ⟨w, rfl, w2⟩ fun _ f hf => by cases hf⟩
      simp only [exS, h1]
      rw [bind_toS e1]
      unfold augT at w1
      split at w1
      · cases w1
        exact goal
      · cases w1
        exact goal
      · simp only [Option.ite_none_right_eq_some, Option.some.injEq] at w1
        obtain ⟨hl, rfl⟩ := w1
        simp only
        rw [if_pos hl]
        exact goal
      · cases w1
    · cases h
  | .sub o k e, σ, r, h, τ, ρ, s, ok => by
    cases o with
    | var d =>
      simp only [aS] at h
      split at h
      · rename_i j ej
        simp only [Option.bind_eq_some_iff, Option.map_eq_some_iff] at h
        obtain ⟨x, hx, x', hx', y, hy, y', hy', a, ha, b, hb, rfl⟩ := h
        obtain ⟨u, e1, g1⟩ := aE_ok hC e hx ok
        obtain ⟨t, rfl, g⟩ := dataU g1 hx'
        obtain ⟨w, e2, g2⟩ := aE_ok hC k hy ok
        obtain ⟨kt, rfl, gk⟩ := dataU g2 hy'
        obtain ⟨j', r1, r2, r3⟩ := ok.r d j ej
        obtain ⟨s', s1, s2⟩ := subA_ok ok r2 r3 ha hb gk g
        simp only [exS]
        rw [bind_toS e1, bind_toS (show ev G C (.var d) ρ s = .ok (.ref j') s by rw [ev_var, r1]), bind_toS e2, s1]
        exact ⟨_, τ, rfl, s2⟩
      · cases h
    | _ => simp [aS] at h
  | .if c a b, σ, r, h, τ, ρ, s, ok => by
    simp only [aS, Option.bind_eq_some_iff, Option.map_eq_some_iff] at h
    obtain ⟨x, hx, x', hx', p, hp, r1, h1, r2, h2, nx, hn, bk, hb, ct, hc, rfl⟩ := h
    obtain ⟨u, e1, g1⟩ := aE_ok hC c hx ok
    obtain ⟨t, rfl, g⟩ := dataU g1 hx'
    obtain ⟨v, t1, t2, t3⟩ := truA_ok (s := s) hp g
    obtain ⟨ok', dd⟩ := ok.refine e1 t1
    simp only [exS]
    rw [bind_toS e1, t1]
    cases v with
    | true =>
      rw [t2 rfl, dd] at h1
      exact Res.l hn hb hc (aBl_ok hC a (by simpa using h1) ok')
    | false =>
      rw [t3 rfl, dd] at h2
      exact Res.r hn hb hc (aBl_ok hC b (by simpa using h2) ok')
  | .for tg src b, σ, r, h, τ, ρ, s, ok => by
    simp only [aS, Option.bind_eq_some_iff] at h
    obtain ⟨q, hq, h⟩ := h
    have hr : refSrc src σ = false := by
      cases e : refSrc src σ with
      | false => rfl
      | true =>
        rw [e] at h
        cases h
    rw [hr] at h
    simp only [Option.bind_eq_some_iff, Option.map_eq_some_iff] at h
    obtain ⟨lp, hl, nx, hn, rfl⟩ := h
    obtain ⟨w, ts, es, hw, l1, l2, g⟩ := aSrc_ok hC src hq ok
    obtain ⟨us, rfl⟩ := src_xs hC hq hr ok es
    have := walks_eq hw
    subst this
    have hP : ∀ ρ', Kept (tgL tg ++ asgB b) ρ ρ' → ∀ f ∈ dropF (tgL tg ++ asgB b) σ.fc, γF ρ' f := fun ρ' hk f hf => by
      obtain ⟨h1, h2⟩ := dropF_mem hf
      exact γF_same (fun j hj => hk.2 j (h2 j hj)) (ok.f f h1)
    have main := loop_ok (ns := ns) (ts := ts) (P := Kept (tgL tg ++ asgB b) ρ) (step := fun x ρ s => (match bindT tg x ρ with
      | some ρ' => exB G C W b ρ' s
      | none => .bad)) hP (fun t ht ρ1 s1 ρ2 hk h => by
        split at h
        · rename_i ρ3 e3
          exact hk.trans (((kept_bind e3).sub fun i hi => List.mem_append_left _ hi).trans ((exB_kept b h).sub fun i hi => List.mem_append_right _ hi))
        · cases h) (fun σ1 r1 h1 τ1 ρ1 s1 ok1 hk t ht => by
        obtain ⟨env, he, h2⟩ := Option.bind_eq_some_iff.mp h1
        obtain ⟨ρ', b1, b2, b3, b4, b5, b6⟩ := aBind_ok he (g t ht) ok1.l ok1.v
        simp only [b1]
        refine aBl_ok hC b h2 ⟨b3, fun i k hi => ?_, fun f hf => ?_, ok1.s, b2⟩
        · obtain ⟨h3, h4⟩ := b5 i k hi
          obtain ⟨j, h5, h6⟩ := ok1.r i k h3
          exact ⟨j, by rw [b4 i h4]; exact h5, h6⟩
        · rcases List.mem_append.mp hf with hf | hf
          · cases tg with
            | many is => cases hf
            | one i =>
              simp only at hf
              split at hf
              · rename_i hi
                obtain ⟨hf1, hf2⟩ := List.mem_filter.mp hf
                obtain ⟨h1, h2⟩ := srcFa_ok ok es hw f hf1
                have hρ : ρ'[i]? = some (some (U.v t)) := b6 i rfl (by rw [hk.1, ok.l]; exact hi)
                have h3 := h2 t ht
                have keep : ∀ v, v ∉ tgL (.one i) ++ asgB b → ρ'[v]? = ρ[v]? := fun v hv => by
                  rw [b4 v fun z => hv (List.mem_append_left _ z), hk.2 v hv]
                cases f with
                | ix i' v =>
                  cases h1
                  obtain ⟨k, n, t', rfl, h4, h5⟩ := h3
                  have hn : v ∉ tgL (.one i') ++ asgB b := by simpa [Fa.one] using hf2
                  exact ⟨k, n, t', hρ, by rw [keep v hn]; exact h4, h5⟩
                | key i' v =>
                  cases h1
                  obtain ⟨q', kvs, h4, h5, h6⟩ := h3
                  have hn : v ∉ tgL (.one i') ++ asgB b := by simpa [Fa.one] using hf2
                  exact ⟨t, q', kvs, hρ, h4, by rw [keep v hn]; exact h5, h6⟩
                | keys w' d => simp at hf2
              · cases hf
          · obtain ⟨h3, h4⟩ := dropF_mem hf
            exact γF_same (fun j hj => by rw [b4 j fun z => h4 j hj (List.mem_append_left _ z), hk.2 j (h4 j hj)]) (ok.f f h3)) q.2.2 hl ts.length 0 rfl l2 (ok.with fun f hf => hP ρ Kept.refl f hf) Kept.refl
    simp only [exS, es]
    rw [show wkLen (.xs (ts.map .v)) s = ts.length from List.length_map _]
    cases eo : forGo (fun x ρ s => (match bindT tg x ρ with
      | some ρ' => exB G C W b ρ' s
      | none => .bad)) (.xs (ts.map .v)) ts.length 0 ρ s with
    | nx ρ' s' =>
      rw [eo] at main
      obtain ⟨hk, ho⟩ := main
      obtain ⟨σ2, τ2, rfl, ok2⟩ := join2_ok hn ho
      exact ⟨_, τ2, rfl, ok2.with fun f hf => ok2.f f (dropF_mem hf).1⟩
    | rt u s' =>
      rw [eo] at main
      exact main
    | bk _ _ => rw [eo] at main; exact main.elim
    | ct _ _ => rw [eo] at main; exact main.elim
    | exc _ _ _ => rw [eo] at main; exact main.elim
    | bad => rw [eo] at main; exact main.elim
  | .whl c b, σ, r, h, τ, ρ, s, ok => by simp [aS] at h
  | .par is es, σ, r, h, τ, ρ, s, ok => by simp [aS] at h
  | .never, σ, r, h, τ, ρ, s, ok => by simp [aS] at h
theorem aBl_ok (hC : ∀ f as a, CA f as = some a → ∀ ts, γl ns as ts → ∃ t, γ ns a t ∧ Ans C f ts t) : ∀ (b : B) {σ : AS} {r : AR}, aBl G CA b σ = some r → ∀ {τ : Nat → Nat} {ρ : Env} {s : Store}, Ok ns σ τ ρ s → Res ns r (exB G C W b ρ s)
  | .nil, σ, r, h, τ, ρ, s, ok => by
    simp only [aBl, Option.some.injEq] at h
    subst h
    simp only [exB]
    exact res_nxt ok
  | .cons st b, σ, r, h, τ, ρ, s, ok => by
    simp only [aBl, Option.bind_eq_some_iff] at h
    obtain ⟨r1, h1, h⟩ := h
    have k := aS_ok hC st h1 ok
    simp only [exB]
    split at h
    · rename_i e
      cases h
      cases es : exS G C W st ρ s with
      | nx ρ1 s1 =>
        rw [es] at k
        obtain ⟨_, _, z, _⟩ := k
        rw [e] at z
        cases z
      | _ =>
        rw [es] at k
        exact k
    · rename_i σ' e
      simp only [Option.bind_eq_some_iff, Option.map_eq_some_iff] at h
      obtain ⟨q, hq, bk, hb, ct, hc, rfl⟩ := h
      cases es : exS G C W st ρ s with
      | nx ρ1 s1 =>
        rw [es] at k
        obtain ⟨σ2, τ2, z, ok2⟩ := k
        rw [e] at z
        cases z
        have := aBl_ok hC b hq ok2
        exact Res.r (r := ⟨none, r1.rt, r1.bk, r1.ct⟩) rfl hb hc this
      | rt u s1 =>
        rw [es] at k
        obtain ⟨t, v, g⟩ := k
        exact ⟨t, v, join_l g⟩
      | bk ρ1 s1 =>
        rw [es] at k
        exact join2_ok hb (.inl k)
      | ct ρ1 s1 =>
        rw [es] at k
        exact join2_ok hc (.inl k)
      | exc x ρ1 s1 =>
        rw [es] at k
        exact k
      | bad =>
        rw [es] at k
        exact k
end
theorem VOk_cons {env : AEnv} {a : Option AU} {x : Option U} (h : ∀ b, a = some (.v b) → ∃ t, x = some (U.v t) ∧ γ ns b t) (k : VOk ns env ρ) : VOk ns (a :: env) (x :: ρ) := by
  intro i b e
  cases i with
  | zero =>
    simp only [List.getElem?_cons_zero, Option.some.injEq] at e
    obtain ⟨t, rfl, g⟩ := h b e
    exact ⟨t, rfl, g⟩
  | succ i => exact k i b (by simpa using e)
theorem VOk_nones : ∀ n : Nat, VOk ns (List.replicate n none) (List.replicate n none)
  | 0 => fun i a e => by simp at e
  | n + 1 => by
    simp only [List.replicate_succ]
    exact VOk_cons (fun b e => by cases e) (VOk_nones n)
theorem VOk_start {n : Nat} : ∀ {as : List A} {ts : List T}, γl ns as ts → VOk ns (as.map (fun a => some (AU.v a)) ++ List.replicate n none) ((ts.map U.v).map some ++ List.replicate n none)
  | [], ts, h => by
    cases (show ts = [] from h)
    exact VOk_nones n
  | a :: as, ts, h => by
    obtain ⟨t, r, rfl, h1, h2⟩ := h
    exact VOk_cons (fun b e => by cases e; exact ⟨t, rfl, h1⟩) (VOk_start h2)
theorem γl_app : ∀ {as bs : List A} {ts us : List T}, γl ns as ts → γl ns bs us → γl ns (as ++ bs) (ts ++ us)
  | [], bs, ts, us, h, k => by
    cases (show ts = [] from h)
    exact k
  | a :: as, bs, ts, us, h, k => by
    obtain ⟨t, r, rfl, h1, h2⟩ := h
    exact ⟨t, r ++ us, rfl, h1, γl_app h2 k⟩
theorem γl_dfl : ∀ {ts : List T}, ts.all okA = true → γl ns (ts.map toA) ts
  | [], _ => rfl
  | t :: ts, h => by
    simp only [List.all_cons, Bool.and_eq_true] at h
    exact ⟨t, ts, rfl, toA_ok h.1, γl_dfl h.2⟩
theorem callA_ok {D : Tbl} {Sp : Nat → List A → Option A} {N0 : Nat} (hSp : ∀ n, N0 ≤ n → ∀ f as a, Sp f as = some a → ∀ ts, γl ns as ts → ∃ t, γ ns a t ∧ Ans (callF G D W n) f ts t) : ∀ (m f : Nat) (as : List A) (a : A), callA G D Sp m f as = some a → ∀ n, m + N0 ≤ n → ∀ ts, γl ns as ts → ∃ t, γ ns a t ∧ Ans (callF G D W n) f ts t
  | 0, f, as, a, h, n, hn, ts, g => hSp n (by omega) f as a h ts g
  | m + 1, f, as, a, h, 0, hn, ts, g => by omega
  | m + 1, f, as, a, h, n + 1, hn, ts, g => by
    simp only [callA] at h
    split at h
    · rename_i e
      cases h
      exact hSp (n + 1) (by omega) f as _ e ts g
    · split at h
      · rename_i F hD
        split at h
        · rename_i hc
          obtain ⟨c1, c2, c3, c4⟩ := hc
          obtain ⟨r, hr, h⟩ := Option.bind_eq_some_iff.mp h
          have len := γl_len g
          have hfill : fill F (ts.map .v) = (ts ++ F.dfl.drop (F.dfl.length - (F.n - as.length))).map .v := by
            simp only [fill, List.length_map, len, List.map_append]
          have gl : γl ns (as ++ (F.dfl.drop (F.dfl.length - (F.n - as.length))).map toA) (ts ++ F.dfl.drop (F.dfl.length - (F.n - as.length))) := by
            refine γl_app g (γl_dfl ?_)
            rw [List.all_eq_true] at c3 ⊢
            exact fun x hx => c3 x (List.mem_of_mem_drop hx)
          have hl : (fill F (ts.map .v)).length = F.n := by
            rw [hfill, List.length_map, List.length_append, List.length_drop, len]
            omega
          have ok : Ok ns ⟨(as ++ (F.dfl.drop (F.dfl.length - (F.n - as.length))).map toA).map (fun a => some (.v a)) ++ List.replicate (F.slots - F.n) none, [], [], 0⟩ (fun _ => 0) (startE F (fill F (ts.map .v))) [] := by
            refine ⟨?_, fun i k e => ?_, fun f hf => (by cases hf), fun j o e => (by simp at e), ?_⟩
            · rw [hfill]
              exact VOk_start gl
            · exfalso
              simp only at e
              rcases Nat.lt_or_ge i ((as ++ (F.dfl.drop (F.dfl.length - (F.n - as.length))).map toA).map (fun a => some (AU.v a))).length with hlt | hge
              · rw [List.getElem?_append_left hlt, List.getElem?_map] at e
                cases ex : (as ++ (F.dfl.drop (F.dfl.length - (F.n - as.length))).map toA)[i]? with
                | none => rw [ex] at e; cases e
                | some x => rw [ex] at e; cases e
              · rw [List.getElem?_append_right hge, List.getElem?_replicate] at e
                split at e <;> cases e
            · have := γl_len gl
              simp only [startE, hfill, List.length_append, List.length_map, List.length_replicate] at this ⊢
              omega
          have out := aBl_ok (W := W) (fun f as a h ts g => callA_ok hSp m f as a h n (by omega) ts g) F.body hr ok
          have run : callF G D W (n + 1) f (ts.map .v) [] = (match exB G (callF G D W n) W F.body (startE F (fill F (ts.map .v))) [] with
            | .nx _ s => .ok (.v .non) s
            | .rt u s => .ok u s
            | .exc x _ s => .exc x s
            | _ => .bad) := by
            simp only [callF, hD]
            rw [if_pos hl]
            all_goals rfl
          split at h
          · rename_i hb hct
            cases h
            cases eo : exB G (callF G D W n) W F.body (startE F (fill F (ts.map .v))) [] with
            | nx ρ s =>
              rw [eo] at out run
              obtain ⟨σ', τ', e, _⟩ := out
              exact ⟨.non, sq_ok (by rw [e]; exact join_l rfl), .v .non, s, run, view_v1 _ _ _⟩
            | rt u s =>
              rw [eo] at out run
              obtain ⟨t, v, gt⟩ := out
              refine ⟨t, sq_ok ?_, u, s, run, v⟩
              split
              · exact join_r gt
              · exact gt
            | bk ρ s =>
              rw [eo] at out
              obtain ⟨_, _, e, _⟩ := out
              rw [hb] at e
              cases e
            | ct ρ s =>
              rw [eo] at out
              obtain ⟨_, _, e, _⟩ := out
              rw [hct] at e
              cases e
            | exc _ _ _ => rw [eo] at out; exact out.elim
            | bad => rw [eo] at out; exact out.elim
          · cases h
        · cases h
      · cases h
end
end Cab

set_option linter.all false
set_option maxRecDepth 100000
namespace Cab
/-! what the numbers of the script are told to be -/
def SpC : Nat → List A → Option A
  | 1, [.scr, .int lo hi] => if 0 ≤ lo ∧ hi < 1099511627776 then some (.int 0 1000002) else none
  | _, _ => none
theorem SpC_ok {G : Glo} {D : Tbl} {W : Nat} (hD : D 1 = some F_1) {ns : List Int} (hn : ns.length ≤ 63) : ∀ n, 1 ≤ n → ∀ f as a, SpC f as = some a → ∀ ts, γl ns as ts → ∃ t, γ ns a t ∧ Ans (callF G D W n) f ts t := by
  intro n h1 f as a h ts g
  unfold SpC at h
  split at h
  · rename_i lo hi
    simp only [Option.ite_none_right_eq_some, Option.some.injEq] at h
    obtain ⟨⟨h2, h3⟩, rfl⟩ := h
    obtain ⟨t, r, rfl, g1, t', r', rfl, g2, g3⟩ := g
    cases (show r' = [] from g3)
    obtain ⟨i, rfl, i1, i2⟩ := g2
    cases (show t = .lst (ns.map .int) from g1)
    obtain ⟨m, rfl⟩ : ∃ m, n = m + 1 := ⟨n - 1, by omega⟩
    have := cell_nonneg ns i
    have := cell_lt ns i
    exact ⟨.int (cell ns i), ⟨_, rfl, by omega, by omega⟩, ans_cell hD hn (by omega) (by omega)⟩
  · cases h
/-- what is built: a value that is told -/
theorem built {G : Glo} {D : Tbl} {W : Nat} (hD : D 1 = some F_1) {ns : List Int} (hn : ns.length ≤ 63) {m f : Nat} {as : List A} {a : A} (h : callA G D SpC m f as = some a) {n : Nat} (hm : m + 1 ≤ n) {ts : List T} (g : γl ns as ts) : ∃ t, γ ns a t ∧ Ans (callF G D W n) f ts t := callA_ok (SpC_ok hD hn) m f as a h n hm ts g
end Cab

set_option linter.all false
set_option maxRecDepth 100000
namespace Cab
/-! Rules that unfold the small language upon data. -/
section
variable {G : Glo} {C : Call} {W : Nat} {ρ : Env} {s : Store}
@[simp] theorem sev_glo (g : Nat) : ev G C (.glo g) ρ s = (match G g with
    | some t => .ok (.v t) s
    | none => .bad) := ev_glo g ρ s
@[simp] theorem sev_neg (a : E) : ev G C (.neg a) ρ s = (ev G C a ρ s).bind fun u s => (match u with
    | .v (.int i) => .ok (.v (.int (-i))) s
    | _ => .bad) := by simp only [ev] <;> rfl
@[simp] theorem sev_chn (o1 o2 : Cop) (a b c : E) : ev G C (.chn o1 o2 a b c) ρ s = (ev G C a ρ s).bind fun u s => (ev G C b ρ s).bind fun w s => (match cmpU o1 s u w with
    | some true => (ev G C c ρ s).bind fun z s => okO ((cmpU o2 s w z).map fun b => .v (.bl b)) s
    | some false => .ok (.v (.bl false)) s
    | none => .bad) := by simp only [ev] <;> rfl
@[simp] theorem sev_ite (c a b : E) : ev G C (.ite c a b) ρ s = (ev G C c ρ s).bind fun u s => (match truth s u with
    | some true => ev G C a ρ s
    | some false => ev G C b ρ s
    | none => .bad) := by simp only [ev] <;> rfl
@[simp] theorem sev_cutL (a lo : E) : ev G C (.cutL a lo) ρ s = (ev G C a ρ s).bind fun u s => (ev G C lo ρ s).bind fun w s => (match w with
    | .v (.int i) => lift1 (cutT (some i) none) s u
    | _ => .bad) := by simp only [ev] <;> rfl
@[simp] theorem sev_cutB (a lo hi : E) : ev G C (.cutB a lo hi) ρ s = (ev G C a ρ s).bind fun u s => (ev G C lo ρ s).bind fun w s => (match w with
    | .v (.int i) => (ev G C hi ρ s).bind fun z s => (match z with
      | .v (.int j) => lift1 (cutT (some i) (some j)) s u
      | _ => .bad)
    | _ => .bad) := by simp only [ev] <;> rfl
@[simp] theorem sev_dctd (ks : List Ky) (vs : Es) : ev G C (.dctd ks vs) ρ s = (evs G C vs ρ s).bind fun ws s => if ks.length = ws.length ∧ ks.length ≤ 15 then okO ((optAll unV ws).map fun ts => .v (.dct (merge [] (ks.zip ts)))) s else .bad := by simp only [ev]
@[simp] theorem sev_rng2 (a b : E) : evSrc G C (.rng2 a b) ρ s = (ev G C a ρ s).bind fun u s => (ev G C b ρ s).bind fun w s => (match u, w with
    | .v (.int i), .v (.int j) => if inRng i && inRng j then .ok (.xs (rangeL i (j - i).toNat)) s else .bad
    | _, _ => .bad) := by simp only [evSrc] <;> rfl
@[simp] theorem sev_items (e : E) : evSrc G C (.items e) ρ s = (ev G C e ρ s).bind fun u s => (match u with
    | .v (.dct kvs) => .ok (.xs (kvs.map fun p => .v (.tup [kyT p.1, p.2]))) s
    | _ => .bad) := by simp only [evSrc] <;> rfl
@[simp] theorem sev_values (e : E) : evSrc G C (.values e) ρ s = (ev G C e ρ s).bind fun u s => (match u with
    | .v (.dct kvs) => .ok (.xs (kvs.map fun p => .v p.2)) s
    | _ => .bad) := by simp only [evSrc] <;> rfl
@[simp] theorem toS_ok (u : U) (s : Store) (f : U → Store → RS) : (R.ok u s).toS ρ f = f u s := rfl
@[simp] theorem cmpU_mem (t t' : T) : cmpU .mem s (.v t) (.v t') = cmpT .mem t t' := rfl
@[simp] theorem cmpU_nmem (t t' : T) : cmpU .nmem s (.v t) (.v t') = cmpT .nmem t t' := rfl
@[simp] theorem cmp_mem_c (c : Nat) (y : List Nat) : cmpT .mem (.str [c]) (.str y) = some (decide (c ∈ y)) := rfl
@[simp] theorem cmp_nmem_c (c : Nat) (y : List Nat) : cmpT .nmem (.str [c]) (.str y) = some (!decide (c ∈ y)) := rfl
@[simp] theorem cmp_mem_k (t : T) (kvs : List (Ky × T)) : cmpT .mem t (.dct kvs) = (tKy t).map fun k => (kget k kvs).isSome := by cases t <;> simp [cmpT]
@[simp] theorem cmp_nmem_k (t : T) (kvs : List (Ky × T)) : cmpT .nmem t (.dct kvs) = (tKy t).map fun k => !(kget k kvs).isSome := by cases t <;> simp [cmpT]
@[simp] theorem tKy_str (x : List Nat) : tKy (.str x) = some (.s x) := rfl
@[simp] theorem tKy_ky (k : Ky) : tKy (kyT k) = some k := tKy_kyT k
@[simp] theorem cmp_eq_nil (xs : List T) : cmpT .eq (.lst xs) (.lst []) = some xs.isEmpty := by
  cases xs <;> simp [cmpT, eqOk, zipAll, pyEq, eqL]
@[simp] theorem cmp_ne_nil (xs : List T) : cmpT .ne (.lst xs) (.lst []) = some (!xs.isEmpty) := neOk_lst_nil xs
theorem lenU_str {x : List Nat} (h : x.length ≤ LIM) : lenU s (.v (.str x)) = some x.length := if_pos h
@[simp] theorem lenU_dct (xs : List (Ky × T)) : lenU s (.v (.dct xs)) = some xs.length := rfl
@[simp] theorem idxT_dct (xs : List (Ky × T)) (k : T) : idxT (.dct xs) k = (tKy k).bind fun k => kget k xs := rfl
@[simp] theorem idxT_str (x : List Nat) (i : Int) : idxT (.str x) (.int i) = (atI x i).map fun c => .str [c] := rfl
@[simp] theorem atI_zero {α : Type} (x : α) (xs : List α) : atI (x :: xs) 0 = some x := rfl
@[simp] theorem atI_one {α : Type} (x y : α) (xs : List α) : atI (x :: y :: xs) 1 = some y := rfl
@[simp] theorem cmp_is_non (t : T) : cmpT .is t .non = some (match t with
  | .non => true
  | _ => false) := by cases t <;> rfl
@[simp] theorem cmp_isn_non (t : T) : cmpT .isn t .non = some (match t with
  | .non => false
  | _ => true) := by cases t <;> rfl
@[simp] theorem prim_all_map {α : Type} (f : α → Bool) (xs : List α) : primT .all [.lst (xs.map fun x => .bl (f x))] = some (.bl (xs.all f)) := by
  simp only [primT, allBl_map, Option.map_some, List.all_map]
  rfl
@[simp] theorem prim_any_map {α : Type} (f : α → Bool) (xs : List α) : primT .any [.lst (xs.map fun x => .bl (f x))] = some (.bl (xs.any f)) := by
  simp only [primT, allBl_map, Option.map_some, List.any_map]
  rfl
theorem ev_lcI_v {own : List Nat} {tg : Tgt} {src : Src} {q elt : E} (ts : List T) (p : T → Bool) (f : T → T) (h : evSrc G C src ρ s = .ok (.xs (ts.map .v)) s) (hl : ts.length ≤ LIM) (hs : ∀ t ∈ ts, ∃ ρ' u, bindT tg (.v t) (wipeE ρ own) = some ρ' ∧ ev G C q ρ' s = .ok u s ∧ truth s u = some (p t) ∧ (p t = true → ev G C elt ρ' s = .ok (.v (f t)) s)) : ev G C (.lcI own tg src q elt) ρ s = .ok (.v (.lst ((ts.filter p).map f))) s := by
  let g : U → T := fun u => match u with
    | .v t => f t
    | _ => .non
  let p' : U → Bool := fun u => match u with
    | .v t => p t
    | _ => false
  have := ev_lcI (tg := tg) (own := own) (elt := elt) (q := q) p' g h (walks_xs _) (by simpa using hl) fun x hx => by
    obtain ⟨t, ht, rfl⟩ := List.mem_map.mp hx
    exact hs t ht
  rw [this, List.filter_map, List.map_map]
  rfl
/-- the things of a text, each its own -/
theorem ev_lc_s {own : List Nat} {i j : Nat} {elt : E} (x : List Nat) (f : Nat → T) (h : ρ[j]? = some (some (.v (.str x)))) (hl : x.length ≤ LIM) (hs : ∀ c ∈ x, ev G C elt ((wipeE ρ own).set i (some (.v (.str [c])))) s = .ok (.v (f c)) s) : ev G C (.lc own (.one i) (.it (.var j)) elt) ρ s = .ok (.v (.lst (x.map f))) s := by
  have := ev_lc_v (G := G) (C := C) (own := own) (tg := .one i) (src := .it (.var j)) (elt := elt) (ρ := ρ) (s := s) (x.map fun c => .str [c]) (fun t => match t with
    | .str [c] => f c
    | _ => .non) (by simp [h]) (by simpa using hl) fun t ht => by
      obtain ⟨k, hk, rfl⟩ := List.mem_map.mp ht
      exact ⟨_, rfl, hs k hk⟩
  rw [this, List.map_map]
  rfl
theorem ev_lcI_s {own : List Nat} {i j : Nat} {q elt : E} (x : List Nat) (p : Nat → Bool) (f : Nat → T) (h : ρ[j]? = some (some (.v (.str x)))) (hl : x.length ≤ LIM) (hs : ∀ c ∈ x, ev G C q ((wipeE ρ own).set i (some (.v (.str [c])))) s = .ok (.v (.bl (p c))) s ∧ (p c = true → ev G C elt ((wipeE ρ own).set i (some (.v (.str [c])))) s = .ok (.v (f c)) s)) : ev G C (.lcI own (.one i) (.it (.var j)) q elt) ρ s = .ok (.v (.lst ((x.filter p).map f))) s := by
  have := ev_lcI_v (G := G) (C := C) (own := own) (tg := .one i) (src := .it (.var j)) (q := q) (elt := elt) (ρ := ρ) (s := s) (x.map fun c => .str [c]) (fun t => match t with
    | .str [c] => p c
    | _ => false) (fun t => match t with
    | .str [c] => f c
    | _ => .non) (by simp [h]) (by simpa using hl) fun t ht => by
      obtain ⟨k, hk, rfl⟩ := List.mem_map.mp ht
      exact ⟨_, _, rfl, (hs k hk).1, rfl, (hs k hk).2⟩
  rw [this, List.filter_map, List.map_map]
  rfl
theorem filt_all {α : Type} {p q : α → Bool} (h : ∀ a, p a = !(q a)) : ∀ l : List α, (l.filter p).isEmpty = l.all q
  | [] => rfl
  | a :: l => by
    have ih := filt_all h l
    have ha := h a
    cases e : q a
    · rw [e] at ha
      simp [List.filter_cons, ha, e]
    · rw [e] at ha
      simp [List.filter_cons, ha, e, ih]
/-- the texts at the top aren't long -/
def topS : A → Bool
  | .or a b => topS a && topS b
  | .str _ h => decide (h ≤ LIM)
  | .bot => true
  | .scr => true
  | .non => true
  | .bl _ => true
  | .int _ _ => true
  | .lst _ _ _ => true
  | .tup _ => true
  | .dct _ _ _ _ => true
  | .any _ p => decide (p.m ≤ LIM)
theorem topS_ok {ns : List Int} : ∀ {a : A} {t : T}, topS a = true → γ ns a t → ∀ x, t = .str x → x.length ≤ LIM := by
  intro a
  induction a using A.rec (motive_2 := fun _ => True) with
  | or a b iha ihb =>
    intro t h g
    simp only [topS, Bool.and_eq_true] at h
    rcases g with g | g
    · exact iha h.1 g
    · exact ihb h.2 g
  | str lo hi =>
    intro t h g x e
    obtain ⟨y, rfl, _, h2⟩ := g
    cases e
    have := of_decide_eq_true h
    omega
  | nil => trivial
  | cons => trivial
  | bot => intro t _ g; exact g.elim
  | non => intro t _ g x e; cases (show t = _ from g); cases e
  | bl b => intro t _ g x e; cases (show t = _ from g); cases e
  | scr => intro t _ g x e; cases (show t = _ from g); cases e
  | int lo hi => intro t _ ⟨i, e', _⟩ x e; rw [e'] at e; cases e
  | lst lo hi a => intro t _ ⟨i, e', _⟩ x e; rw [e'] at e; cases e
  | tup a => intro t _ ⟨i, e', _⟩ x e; rw [e'] at e; cases e
  | dct s lo hi a => intro t _ ⟨i, e', _⟩ x e; rw [e'] at e; cases e
  | any d p =>
    intro t h g x e
    subst e
    have g : x.length ≤ p.m := by cases d <;> exact g
    have := of_decide_eq_true h
    omega
/-- what is built, and something of it that its told value shows -/
theorem built_is {G : Glo} {D : Tbl} {W : Nat} (hD : D 1 = some F_1) {ns : List Int} (hn : ns.length ≤ 63) {m f : Nat} {as : List A} (P : A → Bool) (h : (callA G D SpC m f as).any P = true) {n : Nat} (hm : m + 1 ≤ n) {ts : List T} (g : γl ns as ts) : ∃ a t, P a = true ∧ γ ns a t ∧ Ans (callF G D W n) f ts t := by
  cases e : callA G D SpC m f as with
  | none => rw [e] at h; cases h
  | some a =>
    rw [e] at h
    obtain ⟨t, h1, h2⟩ := built (W := W) hD hn e hm g
    exact ⟨a, t, h, h1, h2⟩
theorem γ_scr (ns : List Int) : γl ns [.scr] [.lst (ns.map .int)] := ⟨_, _, rfl, rfl, rfl⟩
end
end Cab

set_option linter.all false
set_option maxRecDepth 100000
namespace Cab
/-! Told values from a table: each line is looked at once, upon the lines behind it. -/
structure Ent where
  f : Nat
  as : List A
  r : A
def leL : List A → List A → Bool
  | [], [] => true
  | a :: as, b :: bs => leA 60 a b && leL as bs
  | _, _ => false
def look (es : List Ent) (f : Nat) (as : List A) : Option A := match es with
  | [] => none
  | e :: es => (match look es f as with
    | some a => some a
    | none => if e.f == f && leL as e.as then some e.r else none)
def SpT (Sp : Nat → List A → Option A) (es : List Ent) (f : Nat) (as : List A) : Option A := match Sp f as with
  | some a => some a
  | none => look es f as
def tabOk (G : Glo) (D : Tbl) (Sp : Nat → List A → Option A) (m : Nat) : List Ent → Bool
  | [] => true
  | e :: es => (callA G D (SpT Sp es) (m + 1) e.f e.as).any (fun a => leA 60 a e.r) && tabOk G D Sp m es
section
variable {G : Glo} {D : Tbl} {W : Nat} {ns : List Int}
theorem leL_ok : ∀ {as bs : List A} {ts : List T}, leL as bs = true → γl ns as ts → γl ns bs ts
  | [], [], _, _, g => g
  | a :: as, b :: bs, ts, h, g => by
    simp only [leL, Bool.and_eq_true] at h
    obtain ⟨t, r, rfl, g1, g2⟩ := g
    exact ⟨t, r, rfl, (leA_ok 60).1 h.1 g1, leL_ok h.2 g2⟩
  | [], _ :: _, _, h, _ => by cases h
  | _ :: _, [], _, h, _ => by cases h
theorem tab_ok {Sp : Nat → List A → Option A} {N0 m : Nat} (hSp : ∀ n, N0 ≤ n → ∀ f as a, Sp f as = some a → ∀ ts, γl ns as ts → ∃ t, γ ns a t ∧ Ans (callF G D W n) f ts t) : ∀ (es : List Ent), tabOk G D Sp m es = true → ∀ n, N0 + (m + 1) * es.length ≤ n → ∀ f as a, SpT Sp es f as = some a → ∀ ts, γl ns as ts → ∃ t, γ ns a t ∧ Ans (callF G D W n) f ts t
  | [], _, n, hn, f, as, a, h, ts, g => by
    unfold SpT at h
    cases e : Sp f as with
    | some b =>
      rw [e] at h
      cases h
      exact hSp n (by simpa using hn) f as _ e ts g
    | none => rw [e] at h; cases h
  | e :: es, ht, n, hn, f, as, a, h, ts, g => by
    simp only [tabOk, Bool.and_eq_true] at ht
    rw [List.length_cons, Nat.mul_succ] at hn
    have ih := tab_ok hSp es ht.2
    unfold SpT at h
    cases e0 : Sp f as with
    | some b =>
      rw [e0] at h
      cases h
      exact hSp n (by omega) f as _ e0 ts g
    | none =>
      rw [e0] at h
      simp only [look] at h
      cases el : look es f as with
      | some b => exact ih n (by omega) f as a (by unfold SpT; rw [e0]; simp only; rw [el] at h ⊢; exact h) ts g
      | none =>
      rw [el] at h
      simp only at h
      split at h
      · rename_i hb
        cases h
        rw [Bool.and_eq_true, beq_iff_eq] at hb
        obtain ⟨rfl, hb⟩ := hb
        cases ec : callA G D (SpT Sp es) (m + 1) e.f e.as with
        | none => rw [ec] at ht; cases ht.1
        | some b =>
          rw [ec] at ht
          obtain ⟨t, g1, c⟩ := callA_ok (W := W) (fun n hn => ih n hn) (m + 1) e.f e.as b ec n (by omega) ts (leL_ok hb g)
          exact ⟨t, (leA_ok 60).1 ht.1 g1, c⟩
      · cases h
theorem builtT (hD : D 1 = some F_1) (hn : ns.length ≤ 63) {m k f : Nat} {tab : List Ent} (ht : tabOk G D SpC k tab = true) {as : List A} {a : A} (h : callA G D (SpT SpC tab) m f as = some a) {n : Nat} (hm : m + (1 + (k + 1) * tab.length) ≤ n) {ts : List T} (g : γl ns as ts) : ∃ t, γ ns a t ∧ Ans (callF G D W n) f ts t := callA_ok (tab_ok (SpC_ok hD hn) tab ht) m f as a h n hm ts g
end
/-- lines for a def that goes down a thing: from depth n - 1 to 0 -/
def downE (g : Nat → Ent) : Nat → List Ent
  | 0 => []
  | n + 1 => g n :: downE g n
end Cab

set_option linter.all false
set_option maxRecDepth 100000
namespace Cab
/-! Things: how deep, how great; a copy is the same. -/
theorem KeyIn.any {s : Bool} {k : Ky} (h : KeyIn s k) : KeyIn false k := by
  cases k <;> cases s <;> first | exact h | trivial | exact h.elim | simp_all [KeyIn]
def Th : Nat → T → Prop
  | 0, .lst _ => False
  | 0, .dct _ => False
  | n + 1, .lst xs => ∀ x ∈ xs, Th n x
  | n + 1, .dct kvs => ((kvs.map (·.1)).Nodup ∧ ∀ p ∈ kvs, KeyIn false p.1) ∧ ∀ p ∈ kvs, Th n p.2
  | _, .str x => x.length ≤ LIM
  | _, .tup xs => xs.all isScalar = true
  | _, _ => True
def kids : T → List T
  | .lst xs => xs
  | .dct kvs => kvs.map (·.2)
  | _ => []
def isRow : T → Bool
  | .lst _ => true
  | .dct _ => true
  | _ => false
theorem th_kids {n : Nat} {t k : T} (h : Th (n + 1) t) (hk : k ∈ kids t) : Th n k := by
  cases t with
  | lst xs => exact h k hk
  | dct kvs =>
    obtain ⟨p, hp, rfl⟩ := List.mem_map.mp hk
    exact h.2 p hp
  | _ => cases hk
theorem th_zero {t : T} (h : Th 0 t) : kids t = [] ∧ isRow t = false := by
  cases t with
  | lst xs => exact h.elim
  | dct kvs => exact h.elim
  | _ => exact ⟨rfl, rfl⟩
def scT : AT → Bool
  | .nil => true
  | .cons a r => scalA a && scT r
def fits : Nat → A → Bool
  | n, .or a b => fits n a && fits n b
  | n + 1, .lst _ _ a => fits n a
  | n + 1, .dct _ _ _ a => fits n a
  | 0, .lst _ _ _ => false
  | 0, .dct _ _ _ _ => false
  | _, .str _ h => decide (h ≤ LIM)
  | _, .tup as => scT as
  | _, .scr => false
  | n, .any d p => decide (d ≤ n) && decide (p.m ≤ LIM)
  | _, _ => true
def szP (p : Pm) : Nat → Nat
  | 0 => 1
  | d + 1 => 1 + Nat.max p.l p.k * szP p d
def szA : A → Nat
  | .or a b => max (szA a) (szA b)
  | .lst _ hi a => 1 + hi * szA a
  | .dct _ _ hi a => 1 + hi * szA a
  | .any d p => szP p d
  | _ => 1
def sz : Nat → T → Nat
  | 0, _ => 1
  | n + 1, t => 1 + ((kids t).map (sz n)).sum
section
variable {ns : List Int}
theorem scT_ok : ∀ {as : AT} {ts : List T}, scT as = true → γt ns as ts → ts.all isScalar = true
  | .nil, ts, _, g => by
    cases (show ts = [] from g)
    rfl
  | .cons a r, ts, h, g => by
    simp only [scT, Bool.and_eq_true] at h
    obtain ⟨t, l, rfl, g1, g2⟩ := g
    rw [List.all_cons, scalA_ok h.1 g1, scT_ok h.2 g2]
    rfl
theorem dp_th {p : Pm} (hm : p.m ≤ LIM) : ∀ {d n : Nat} {t : T}, d ≤ n → Dp p d t → Th n t
  | d, n, .non, _, _ => by cases n <;> trivial
  | d, n, .bl _, _, _ => by cases n <;> trivial
  | d, n, .int _, _, _ => by cases n <;> trivial
  | d, n, .str x, _, g => by
    have g : x.length ≤ p.m := by cases d <;> exact g
    cases n <;> exact Nat.le_trans g hm
  | d, n, .tup _, _, g => by cases d <;> exact g.elim
  | 0, n, .lst _, _, g => g.elim
  | 0, n, .dct _, _, g => g.elim
  | d + 1, 0, .lst _, l, g => by omega
  | d + 1, 0, .dct _, l, g => by omega
  | d + 1, n + 1, .lst xs, l, g => fun x hx => dp_th hm (by omega) (g.2 x hx)
  | d + 1, n + 1, .dct xs, l, g => ⟨⟨g.2.1, fun q hq => (g.2.2 q hq).1.any⟩, fun q hq => dp_th hm (by omega) (g.2.2 q hq).2⟩
theorem fits_ok {a : A} : ∀ {n : Nat} {t : T}, fits n a = true → γ ns a t → Th n t := by
  induction a using A.rec (motive_2 := fun _ => True) with
  | bot => intro n t _ g; exact g.elim
  | or a b iha ihb =>
    intro n t h g
    have h : (fits n a && fits n b) = true := by cases n <;> exact h
    rw [Bool.and_eq_true] at h
    rcases g with g | g
    · exact iha h.1 g
    · exact ihb h.2 g
  | scr => intro n t h; cases n <;> cases h
  | non => intro n t _ g; cases (show t = _ from g); cases n <;> trivial
  | bl b => intro n t _ g; cases (show t = _ from g); cases n <;> trivial
  | int lo hi => intro n t _ ⟨i, e, _⟩; subst e; cases n <;> trivial
  | str lo hi =>
    intro n t h ⟨i, e, _, h2⟩
    subst e
    have h : decide (hi ≤ LIM) = true := by cases n <;> exact h
    have := of_decide_eq_true h
    cases n <;> exact Nat.le_trans h2 this
  | lst lo hi a ih =>
    intro n t h g
    obtain ⟨xs, rfl, _, _, g⟩ := g
    cases n with
    | zero => cases h
    | succ n => exact fun x hx => ih h (g x hx)
  | tup as =>
    intro n t h g
    obtain ⟨ts, rfl, g⟩ := g
    have h : scT as = true := by cases n <;> exact h
    have := scT_ok h g
    cases n <;> exact this
  | dct s lo hi a ih =>
    intro n t h g
    obtain ⟨xs, rfl, _, _, nd, g⟩ := g
    cases n with
    | zero => cases h
    | succ n => exact ⟨⟨nd, fun p hp => (g p hp).1.any⟩, fun p hp => ih h (g p hp).2⟩
  | any d p =>
    intro n t h g
    have h : (decide (d ≤ n) && decide (p.m ≤ LIM)) = true := by cases n <;> exact h
    rw [Bool.and_eq_true, decide_eq_true_eq, decide_eq_true_eq] at h
    exact dp_th h.2 h.1 g
  | nil => trivial
  | cons => trivial
theorem sum_le {α : Type} {f : α → Nat} {m : Nat} : ∀ {l : List α} {n : Nat}, (∀ x ∈ l, f x ≤ m) → l.length ≤ n → (l.map f).sum ≤ n * m
  | [], n, _, _ => by simp
  | a :: l, n, h, hl => by
    cases n with
    | zero => simp at hl
    | succ n =>
      have ih := sum_le (f := f) (l := l) (n := n) (fun x hx => h x (List.mem_cons_of_mem _ hx)) (by simpa using hl)
      have := h a List.mem_cons_self
      rw [List.map_cons, List.sum_cons, Nat.succ_mul]
      omega
theorem dp_sz {p : Pm} : ∀ {d n : Nat} {t : T}, Dp p d t → sz n t ≤ szP p d
  | d, 0, t, g => by cases d <;> simp [sz, szP]
  | d, n + 1, .non, _ => by cases d <;> simp [sz, kids, szP]
  | d, n + 1, .bl _, _ => by cases d <;> simp [sz, kids, szP]
  | d, n + 1, .int _, _ => by cases d <;> simp [sz, kids, szP]
  | d, n + 1, .str x, g => by cases d <;> simp [sz, kids, szP]
  | d, n + 1, .tup _, g => by cases d <;> exact g.elim
  | 0, n + 1, .lst _, g => g.elim
  | 0, n + 1, .dct _, g => g.elim
  | d + 1, n + 1, .lst xs, g => by
    have := sum_le (f := sz n) (l := xs) (m := szP p d) (n := Nat.max p.l p.k) (fun x hx => dp_sz (g.2 x hx)) (Nat.le_trans g.1 (Nat.le_max_left _ _))
    simp only [sz, kids, szP]
    omega
  | d + 1, n + 1, .dct xs, g => by
    have := sum_le (f := sz n) (l := xs.map (·.2)) (m := szP p d) (n := Nat.max p.l p.k) (fun x hx => by
      obtain ⟨q, hq, rfl⟩ := List.mem_map.mp hx
      exact dp_sz (g.2.2 q hq).2) (by rw [List.length_map]; exact Nat.le_trans g.1 (Nat.le_max_right _ _))
    simp only [sz, kids, szP]
    omega
theorem sz_le {a : A} : ∀ {m n : Nat} {t : T}, fits m a = true → γ ns a t → sz n t ≤ szA a := by
  induction a using A.rec (motive_2 := fun _ => True) with
  | bot => intro m n t _ g; exact g.elim
  | or a b iha ihb =>
    intro m n t h g
    have h : (fits m a && fits m b) = true := by cases m <;> exact h
    rw [Bool.and_eq_true] at h
    rcases g with g | g
    · exact Nat.le_trans (iha h.1 g) (Nat.le_max_left _ _)
    · exact Nat.le_trans (ihb h.2 g) (Nat.le_max_right _ _)
  | scr => intro m n t h; cases m <;> cases h
  | non => intro m n t _ g; cases (show t = _ from g); cases n <;> simp [sz, kids, szA]
  | bl b => intro m n t _ g; cases (show t = _ from g); cases n <;> simp [sz, kids, szA]
  | int lo hi => intro m n t _ ⟨i, e, _⟩; subst e; cases n <;> simp [sz, kids, szA]
  | str lo hi => intro m n t _ ⟨i, e, _⟩; subst e; cases n <;> simp [sz, kids, szA]
  | tup as => intro m n t _ ⟨i, e, _⟩; subst e; cases n <;> simp [sz, kids, szA]
  | lst lo hi a ih =>
    intro m n t h g
    obtain ⟨xs, rfl, _, l, g⟩ := g
    cases m with
    | zero => cases h
    | succ m =>
      cases n with
      | zero => simp [sz, szA]
      | succ n =>
        have := sum_le (f := sz n) (l := xs) (m := szA a) (n := hi) (fun x hx => ih (m := m) h (g x hx)) l
        simp only [sz, kids, szA]
        omega
  | dct s lo hi a ih =>
    intro m n t h g
    obtain ⟨xs, rfl, _, l, nd, g⟩ := g
    cases m with
    | zero => cases h
    | succ m =>
      cases n with
      | zero => simp [sz, szA]
      | succ n =>
        have := sum_le (f := sz n) (l := xs.map (·.2)) (m := szA a) (n := hi) (fun x hx => by
          obtain ⟨p, hp, rfl⟩ := List.mem_map.mp hx
          exact ih (m := m) h (g p hp).2) (by simpa using l)
        simp only [sz, kids, szA]
        omega
  | any d p => intro m n t h g; exact dp_sz g
  | nil => trivial
  | cons => trivial
end
/-! ### a thing is equal to itself -/
theorem zipAll_rf {f : T → T → Bool} : ∀ {xs : List T}, (∀ x ∈ xs, f x x = true) → zipAll f xs xs = true
  | [], _ => rfl
  | x :: xs, h => by
    simp only [zipAll, h x List.mem_cons_self, zipAll_rf fun y hy => h y (List.mem_cons_of_mem _ hy), Bool.and_true]
theorem eqL_rf : ∀ {xs : List T}, (∀ x ∈ xs, pyEq x x = true) → eqL xs xs = true
  | [], _ => by simp only [eqL]
  | x :: xs, h => by
    simp only [eqL, h x List.mem_cons_self, eqL_rf fun y hy => h y (List.mem_cons_of_mem _ hy), Bool.and_true]
theorem kget_nodup {α : Type} : ∀ {l : List (Ky × α)}, (l.map (·.1)).Nodup → ∀ p ∈ l, kget p.1 l = some p.2
  | [], _, p, h => by cases h
  | q :: l, nd, p, h => by
    rw [List.map_cons, List.nodup_cons] at nd
    unfold kget
    rcases List.mem_cons.mp h with e | h
    · rw [e, if_pos rfl]
    · rw [if_neg fun e => nd.1 (by rw [e]; exact List.mem_map.mpr ⟨p, h, rfl⟩)]
      exact kget_nodup nd.2 p h
theorem eqK_rf {ys : List (Ky × T)} : ∀ {r : List (Ky × T)}, (∀ p ∈ r, kget p.1 ys = some p.2 ∧ pyEq p.2 p.2 = true) → eqK r ys = true
  | [], _ => by simp only [eqK]
  | (k, v) :: r, h => by
    obtain ⟨h1, h2⟩ := h (k, v) List.mem_cons_self
    simp only at h1 h2
    simp only [eqK, eqP, h1, h2, eqK_rf fun y hy => h y (List.mem_cons_of_mem _ hy), Bool.and_true]
theorem scal_eq {x : T} (n : Nat) (h : isScalar x = true) : eqOk n x x = true ∧ pyEq x x = true := by
  cases x <;> simp only [isScalar, Bool.false_eq_true] at h <;> cases n <;> simp [eqOk, isScalar, pyEq]
theorem th_eq : ∀ {d n : Nat}, d ≤ n → ∀ {t : T}, Th d t → eqOk (n + 1) t t = true ∧ pyEq t t = true := by
  have tupC : ∀ {n : Nat} {xs : List T}, xs.all isScalar = true → eqOk (n + 1) (.tup xs) (.tup xs) = true ∧ pyEq (.tup xs) (.tup xs) = true := by
    intro n xs h
    rw [List.all_eq_true] at h
    simp only [eqOk, pyEq]
    exact ⟨zipAll_rf fun x hx => (scal_eq n (h x hx)).1, eqL_rf fun x hx => (scal_eq n (h x hx)).2⟩
  intro d
  induction d with
  | zero =>
    intro n hn t h
    cases t with
    | lst xs => exact h.elim
    | dct xs => exact h.elim
    | tup xs => exact tupC h
    | _ => simp [eqOk, pyEq]
  | succ d ih =>
    intro n hn t h
    obtain ⟨n, rfl⟩ : ∃ m, n = m + 1 := ⟨n - 1, by omega⟩
    cases t with
    | lst xs =>
      simp only [eqOk, pyEq]
      exact ⟨zipAll_rf fun x hx => (ih (by omega) (h x hx)).1, eqL_rf fun x hx => (ih (n := n) (by omega) (h x hx)).2⟩
    | dct kvs =>
      simp only [eqOk, pyEq, beq_self_eq_true, Bool.true_and, List.all_eq_true]
      refine ⟨fun p hp => ?_, eqK_rf fun p hp => ⟨kget_nodup h.1.1 p hp, (ih (n := n) (by omega) (h.2 p hp)).2⟩⟩
      rw [kget_nodup h.1.1 p hp]
      exact (ih (by omega) (h.2 p hp)).1
    | tup xs => exact tupC h
    | _ => simp [eqOk, pyEq]
theorem cmp_same {d : Nat} (hd : d ≤ 59) {t : T} (h : Th d t) : cmpT .eq t t = some true := by
  obtain ⟨h1, h2⟩ := th_eq (n := 59) hd h
  simp only [cmpT, h1, h2, if_true]
/-! ### ahead of a block: what is told -/
def bTake : Nat → Cab.B → Cab.B
  | n + 1, .cons st b => .cons st (bTake n b)
  | _, _ => .nil
def bDrop : Nat → Cab.B → Cab.B
  | n + 1, .cons _ b => bDrop n b
  | _, b => b
section
variable {G : Glo} {C : Call} {W : Nat} {N B K : Env → Store → Prop} {Q : U → Store → Prop} {ρ : Env} {s : Store}
theorem ws_split : ∀ (n : Nat) {b : Cab.B} {ρ : Env} {s : Store}, WS (exB G C W (bTake n b) ρ s) (fun ρ s => WS (exB G C W (bDrop n b) ρ s) N Q B K) Q B K → WS (exB G C W b ρ s) N Q B K
  | 0, b, ρ, s, h => by
    have e : bTake 0 b = .nil := by cases b <;> rfl
    have e2 : bDrop 0 b = b := by cases b <;> rfl
    rw [e, e2] at h
    simpa only [exB, WS] using h
  | n + 1, .nil, ρ, s, h => by simpa only [bTake, bDrop, exB, WS] using h
  | n + 1, .cons st b, ρ, s, h => by
    simp only [bTake, bDrop, exB] at h ⊢
    cases e : exS G C W st ρ s with
    | nx ρ1 s1 =>
      rw [e] at h
      exact ws_split n h
    | _ =>
      rw [e] at h
      exact h
def AR.clean (r : AR) : Bool := (match r.rt with
  | .bot => true
  | _ => false) && r.bk.isNone && r.ct.isNone
theorem ws_told {ns : List Int} {CA : Nat → List A → Option A} (n : Nat) {b : Cab.B} {σ : AS} {τ : Nat → Nat} (P : AS → Bool) (hC : ∀ f as a, CA f as = some a → ∀ ts, γl ns as ts → ∃ t, γ ns a t ∧ Ans C f ts t) (h : ((aBl G CA (bTake n b) σ).any fun r => r.clean && r.nx.all P) = true) (ok : Ok ns σ τ ρ s) (k : ∀ σ' τ' ρ' s', P σ' = true → Ok ns σ' τ' ρ' s' → WS (exB G C W (bDrop n b) ρ' s') N Q B K) : WS (exB G C W b ρ s) N Q B K := by
  refine ws_split n ?_
  cases e : aBl G CA (bTake n b) σ with
  | none => rw [e] at h; cases h
  | some r =>
    rw [e] at h
    simp only [Option.any_some, Bool.and_eq_true, AR.clean] at h
    obtain ⟨⟨⟨h1, h2⟩, h3⟩, h4⟩ := h
    have out := aBl_ok (W := W) hC _ e ok
    cases eo : exB G C W (bTake n b) ρ s with
    | nx ρ1 s1 =>
      rw [eo] at out
      obtain ⟨σ', τ', e1, ok'⟩ := out
      rw [e1] at h4
      exact k σ' τ' ρ1 s1 (by simpa using h4) ok'
    | rt u s1 =>
      rw [eo] at out
      obtain ⟨t, _, g⟩ := out
      split at h1
      · rename_i e2
        rw [e2] at g
        exact g.elim
      · cases h1
    | bk ρ1 s1 =>
      rw [eo] at out
      obtain ⟨σ', _, e1, _⟩ := out
      rw [e1] at h2
      cases h2
    | ct ρ1 s1 =>
      rw [eo] at out
      obtain ⟨σ', _, e1, _⟩ := out
      rw [e1] at h3
      cases h3
    | exc _ _ _ => rw [eo] at out; exact out.elim
    | bad => rw [eo] at out; exact out.elim
theorem ok_start {ns : List Int} {k : Nat} {as : List A} {ts : List T} (g : γl ns as ts) : Ok ns ⟨as.map (fun a => some (.v a)) ++ List.replicate k none, [], [], 0⟩ (fun _ => 0) ((ts.map U.v).map some ++ List.replicate k none) [] := by
  refine ⟨VOk_start g, fun i k e => ?_, fun f hf => (by cases hf), fun j o e => (by simp at e), ?_⟩
  · exfalso
    simp only at e
    rcases Nat.lt_or_ge i (as.map (fun a => some (AU.v a))).length with hlt | hge
    · rw [List.getElem?_append_left hlt, List.getElem?_map] at e
      cases ex : as[i]? with
      | none => rw [ex] at e; cases e
      | some x => rw [ex] at e; cases e
    · rw [List.getElem?_append_right hge, List.getElem?_replicate] at e
      split at e <;> cases e
  · have := γl_len g
    simp only [List.length_append, List.length_map, List.length_replicate, this]
theorem ok_nost {ns : List Int} {σ : AS} {τ : Nat → Nat} (ok : Ok ns σ τ ρ s) (h : σ.st.isEmpty = true) : s = [] := by
  cases s with
  | nil => rfl
  | cons o s =>
    obtain ⟨a, t, h1, _⟩ := ok.s 0 o rfl
    rw [List.isEmpty_iff.mp h] at h1
    simp at h1
end
end Cab

set_option linter.all false
set_option maxRecDepth 100000
namespace Cab
/-! Level by level. -/
section
variable {G : Glo} {C : Call} {W : Nat} {N B K : Env → Store → Prop} {Q : U → Store → Prop} {ρ : Env} {s : Store}
theorem ev_values {a : E} {kvs : List (Ky × T)} (h : ev G C a ρ s = .ok (.v (.dct kvs)) s) : ev G C (.meth .values a .nil) ρ s = .ok (.v (.lst (kvs.map (·.2)))) s := by
  rw [ev_meth, h, bind_ok, evs_nil]
  rfl
/-- the values behind a dict's names -/
theorem ev_vals {own : List Nat} {i j : Nat} {kvs : List (Ky × T)} (h : ρ[j]? = some (some (.v (.dct kvs)))) (nd : (kvs.map (·.1)).Nodup) (hl : kvs.length ≤ LIM) (hij : i ≠ j) (hi : i < ρ.length) (ho : own = [i]) : ev G C (.lc own (.one i) (.it (.var j)) (.idx (.var j) (.var i))) ρ s = .ok (.v (.lst (kvs.map (·.2)))) s := by
  subst ho
  have := ev_lc_v (G := G) (C := C) (own := [i]) (tg := .one i) (src := .it (.var j)) (elt := .idx (.var j) (.var i)) (ρ := ρ) (s := s) (kvs.map fun p => kyT p.1) (fun t => ((tKy t).bind fun k => kget k kvs).getD .non) (by simp [h]) (by simpa using hl) fun t ht => by
    obtain ⟨p, hp, rfl⟩ := List.mem_map.mp ht
    refine ⟨_, rfl, ?_⟩
    have e1 : ((wipeE ρ [i]).set i (some (.v (kyT p.1))))[j]? = some (some (.v (.dct kvs))) := by
      simp only [wipeE]
      rw [List.getElem?_set_ne hij, List.getElem?_set_ne hij, h]
    have e2 : ((wipeE ρ [i]).set i (some (.v (kyT p.1))))[i]? = some (some (.v (kyT p.1))) := List.getElem?_set_self (by simpa [wipeE] using hi)
    simp [e1, e2, kget_nodup nd p hp]
  rw [this, List.map_map]
  have e : kvs.map ((fun t => ((tKy t).bind fun k => kget k kvs).getD .non) ∘ fun p => kyT p.1) = kvs.map (·.2) := List.map_congr_left fun p hp => by simp [kget_nodup nd p hp]
  rw [e]
/-- one level down -/
def down (i3 i4 i5 : Nat) : Cab.B := .cons (.if (.isi (.var i4) [.list]) (.cons (.set i3 (.bin .add (.var i3) (.var i4))) .nil) .nil) (.cons (.if (.isi (.var i4) [.dict]) (.cons (.set i3 (.bin .add (.var i3) (.lc [i5] (.one i5) (.it (.var i4)) (.idx (.var i4) (.var i5))))) .nil) .nil) .nil)
theorem sum_take_le {l : List Nat} {i : Nat} : (l.take i).sum ≤ l.sum := by
  have := List.take_append_drop i l
  have h : l.sum = (l.take i).sum + (l.drop i).sum := by rw [← List.sum_append, this]
  omega
theorem flat_len {α β : Type} {f : α → List β} : ∀ {l : List α}, (l.flatMap f).length = (l.map fun x => (f x).length).sum
  | [] => rfl
  | a :: l => by
    rw [List.flatMap_cons, List.length_append, flat_len (l := l)]
    rfl
theorem ws_down {j i3 i4 i5 : Nat} {L : List T} (hj : ρ[j]? = some (some (.v (.lst L)))) (h3 : ρ[i3]? = some (some (.v (.lst [])))) (l4 : i4 < ρ.length) (l5 : i5 < ρ.length) (n34 : i3 ≠ i4) (n35 : i3 ≠ i5) (n45 : i4 ≠ i5) (nj3 : j ≠ i3) (nj4 : j ≠ i4)
    (nd : ∀ kvs, T.dct kvs ∈ L → (kvs.map (·.1)).Nodup) (hl : (L.flatMap kids).length ≤ LIM)
    (k : ∀ ρ', ρ'.length = ρ.length → (∀ v, v ≠ i3 → v ≠ i4 → ρ'[v]? = ρ[v]?) → ρ'[i3]? = some (some (.v (.lst (L.flatMap kids)))) → N ρ' s) : WS (exS G C W (.for (.one i4) (.it (.var j)) (down i3 i4 i5)) ρ s) N Q B K := by
  have l3 : i3 < ρ.length := (List.getElem?_eq_some_iff.mp h3).1
  refine ws_for (xs := L.map .v) (s' := s) (fun i ρ' s' => s' = s ∧ ρ'.length = ρ.length ∧ (∀ v, v ≠ i3 → v ≠ i4 → ρ'[v]? = ρ[v]?) ∧ ρ'[i3]? = some (some (.v (.lst ((L.take i).flatMap kids))))) (by simp [hj]) ⟨rfl, rfl, fun _ _ _ => rfl, h3⟩ ?_ ?_
  · rintro i hi ρ' s' ⟨rfl, e1, e2, e3⟩
    rw [List.length_map] at hi
    refine ⟨_, by rw [List.getElem_map]; simp only [bindT]; rfl, ?_⟩
    have step : (L.take (i + 1)).flatMap kids = (L.take i).flatMap kids ++ kids L[i] := by
      rw [List.take_succ_eq_append_getElem hi, List.flatMap_append]
      simp
    have lim : ((L.take i).flatMap kids).length + (kids L[i]).length ≤ LIM := by
      have h1 : ((L.take (i + 1)).flatMap kids).length ≤ (L.flatMap kids).length := by
        rw [flat_len, flat_len, List.map_take]
        exact sum_take_le
      rw [step, List.length_append] at h1
      omega
    have g3 : (ρ'.set i4 (some (.v L[i])))[i3]? = some (some (.v (.lst ((L.take i).flatMap kids)))) := by rw [List.getElem?_set_ne (Ne.symm n34)]; exact e3
    have g4 : (ρ'.set i4 (some (.v L[i])))[i4]? = some (some (.v L[i])) := List.getElem?_set_self (by omega)
    have fin : ∀ (ρ2 : Env) (t : T), ρ2 = (ρ'.set i4 (some (.v L[i]))).set i3 (some (.v t)) → t = .lst ((L.take i).flatMap kids ++ kids L[i]) → ρ2.length = ρ.length ∧ (∀ v, v ≠ i3 → v ≠ i4 → ρ2[v]? = ρ[v]?) ∧ ρ2[i3]? = some (some (.v (.lst ((L.take (i + 1)).flatMap kids)))) := by
      rintro ρ2 t rfl rfl
      refine ⟨by simp [e1], fun v v3 v4 => ?_, ?_⟩
      · rw [List.getElem?_set_ne (Ne.symm v3), List.getElem?_set_ne (Ne.symm v4)]
        exact e2 v v3 v4
      · rw [step]
        exact List.getElem?_set_self (by simp; omega)
    have fin0 : kids L[i] = [] → (ρ'.set i4 (some (.v L[i]))).length = ρ.length ∧ (∀ v, v ≠ i3 → v ≠ i4 → (ρ'.set i4 (some (.v L[i])))[v]? = ρ[v]?) ∧ (ρ'.set i4 (some (.v L[i])))[i3]? = some (some (.v (.lst ((L.take (i + 1)).flatMap kids)))) := by
      intro hk
      refine ⟨by simp [e1], fun v v3 v4 => ?_, ?_⟩
      · rw [List.getElem?_set_ne (Ne.symm v4)]
        exact e2 v v3 v4
      · rw [step, hk, List.append_nil]
        exact g3
    unfold down
    cases hx : L[i] with
    | lst xs =>
      rw [hx] at lim g3 g4 fin step
      simp only [kids] at lim fin
      refine ws_cons (ws_if true (u := .v (.bl true)) (s' := s') (by simp [g4, isKd]) rfl (fun _ => ?_) fun z => by cases z)
      refine ws_cons (ws_set (u := .v (.lst ((L.take i).flatMap kids ++ xs))) (s' := s') (by simp only [ev_bin, ev_var, g3, g4, bind_ok, lift2_v, binT]; rw [if_pos lim]; rfl) ?_)
      refine ws_nil (ws_cons (ws_if false (u := .v (.bl false)) (s' := s') ?_ rfl (fun z => by cases z) fun _ => ?_))
      · rw [ev_isi, ev_var, List.getElem?_set_ne n34, g4]
        rfl
      · exact ws_nil (ws_nil ⟨rfl, fin _ _ rfl rfl⟩)
    | dct kvs =>
      have hn := nd kvs (by rw [← hx]; exact List.getElem_mem hi)
      rw [hx] at lim g3 g4 fin step
      simp only [kids, List.length_map] at lim fin
      have q := ev_vals (G := G) (C := C) (ρ := ρ'.set i4 (some (.v (.dct kvs)))) (s := s') (own := [i5]) (i := i5) (j := i4) g4 hn (by omega) (Ne.symm n45) (by simp; omega) rfl
      refine ws_cons (ws_if false (u := .v (.bl false)) (s' := s') (by simp [g4, isKd]) rfl (fun z => by cases z) fun _ => ws_nil ?_)
      refine ws_cons (ws_if true (u := .v (.bl true)) (s' := s') (by simp [g4, isKd]) rfl (fun _ => ?_) fun z => by cases z)
      refine ws_cons (ws_set (u := .v (.lst ((L.take i).flatMap kids ++ kvs.map (·.2)))) (s' := s') (by simp only [ev_bin, ev_var, g3, q, bind_ok, lift2_v, binT, List.length_map]; rw [if_pos lim]; rfl) ?_)
      exact ws_nil (ws_nil ⟨rfl, fin _ _ rfl rfl⟩)
    | _ =>
      have hk : kids L[i] = [] := by rw [hx]; rfl
      have f0 := fin0 hk
      rw [hx] at g3 g4 f0
      refine ws_cons (ws_if false (u := .v (.bl false)) (s' := s') (by simp [g4, isKd]) rfl (fun z => by cases z) fun _ => ws_nil ?_)
      refine ws_cons (ws_if false (u := .v (.bl false)) (s' := s') (by simp [g4, isKd]) rfl (fun z => by cases z) fun _ => ws_nil ?_)
      exact ws_nil ⟨rfl, f0⟩
  · rintro ρ' s' ⟨rfl, e1, e2, e3⟩
    rw [List.length_map, List.take_length] at e3
    exact k ρ' e1 e2 e3
/-! ### sums of sizes -/
theorem sz_pos (d : Nat) (t : T) : 1 ≤ sz d t := by cases d <;> simp [sz] <;> omega
theorem len_le_sz {d : Nat} : ∀ {L : List T}, L.length ≤ (L.map (sz d)).sum
  | [] => by simp
  | t :: L => by
    have := len_le_sz (d := d) (L := L)
    have := sz_pos d t
    simp only [List.length_cons, List.map_cons, List.sum_cons]
    omega
theorem sz_level {d : Nat} : ∀ {L : List T}, (L.map (sz (d + 1))).sum = L.length + ((L.flatMap kids).map (sz d)).sum
  | [] => rfl
  | t :: L => by
    have ih := sz_level (d := d) (L := L)
    simp only [List.map_cons, List.sum_cons, List.length_cons, List.flatMap_cons, List.map_append, List.sum_append]
    rw [ih, sz]
    omega
theorem kids_zero : ∀ {L : List T}, (∀ t ∈ L, Th 0 t) → L.flatMap kids = []
  | [], _ => rfl
  | t :: L, h => by
    rw [List.flatMap_cons, (th_zero (h t List.mem_cons_self)).1, kids_zero fun x hx => h x (List.mem_cons_of_mem _ hx)]
    rfl
theorem th_level {d : Nat} {L : List T} (h : ∀ t ∈ L, Th (d + 1) t) : ∀ t ∈ L.flatMap kids, Th d t := by
  intro t ht
  obtain ⟨x, hx, hk⟩ := List.mem_flatMap.mp ht
  exact th_kids (h x hx) hk
theorem th_nd {d : Nat} {kvs : List (Ky × T)} (h : Th d (.dct kvs)) : (kvs.map (·.1)).Nodup := by
  cases d with
  | zero => exact h.elim
  | succ d => exact h.1.1
theorem sum_zero {L : List T} : (L.map (sz 0)).sum = L.length := by
  induction L with
  | nil => rfl
  | cons t L ih =>
    rw [List.map_cons, List.sum_cons, ih, sz, List.length_cons]
    omega
/-! ### depths -/
def mxN (l : List Int) : Int := l.foldr max 0
def dp : Nat → T → Int
  | 0, _ => 0
  | n + 1, t => if isRow t then 1 + mxN ((kids t).map (dp n)) else 0
theorem mxN_nonneg : ∀ l : List Int, 0 ≤ mxN l
  | [] => Int.le_refl _
  | a :: l => by
    have := mxN_nonneg l
    simp only [mxN, List.foldr_cons] at this ⊢
    omega
theorem mxN_app : ∀ l m : List Int, mxN (l ++ m) = max (mxN l) (mxN m)
  | [], m => by
    have := mxN_nonneg m
    simp only [List.nil_append, mxN, List.foldr_nil] at this ⊢
    omega
  | a :: l, m => by
    have ih := mxN_app l m
    simp only [mxN, List.cons_append, List.foldr_cons] at ih ⊢
    rw [ih]
    omega
theorem foldl_mx : ∀ (l : List Int) (a : Int), l.foldl (fun a y => if a < y then y else a) a = max a (l.foldl (fun a y => if a < y then y else a) a)
  | [], a => by simp
  | b :: l, a => by
    simp only [List.foldl_cons]
    have := foldl_mx l (if a < b then b else a)
    split at this <;> split <;> omega
theorem maxL_eq : ∀ {l : List Int}, (∀ x ∈ l, 0 ≤ x) → maxL 0 l = mxN l := by
  have go : ∀ (l : List Int) (a : Int), 0 ≤ a → l.foldl (fun a y => if a < y then y else a) a = max a (mxN l) := by
    intro l
    induction l with
    | nil => intro a ha; simp only [mxN, List.foldl_nil, List.foldr_nil]; omega
    | cons b l ih =>
      intro a ha
      simp only [List.foldl_cons, mxN, List.foldr_cons]
      have h := ih (if a < b then b else a) (by split <;> omega)
      rw [h]
      simp only [mxN]
      split <;> omega
  intro l h
  cases l with
  | nil => rfl
  | cons a l =>
    simp only [maxL]
    rw [go l a (h a List.mem_cons_self)]
    rfl
theorem dp_nonneg : ∀ (d : Nat) (t : T), 0 ≤ dp d t
  | 0, _ => Int.le_refl _
  | d + 1, t => by
    have := mxN_nonneg ((kids t).map (dp d))
    simp only [dp]
    split <;> omega
theorem dp_level {d : Nat} : ∀ {L : List T}, mxN (L.map (dp (d + 1))) = if L.any isRow then 1 + mxN ((L.flatMap kids).map (dp d)) else 0
  | [] => rfl
  | t :: L => by
    have ih := dp_level (d := d) (L := L)
    have h1 := mxN_nonneg ((kids t).map (dp d))
    have h2 := mxN_nonneg ((L.flatMap kids).map (dp d))
    have e : mxN ((t :: L).map (dp (d + 1))) = max (dp (d + 1) t) (mxN (L.map (dp (d + 1)))) := rfl
    rw [e, ih, List.flatMap_cons, List.map_append, mxN_app, List.any_cons, dp]
    cases hr : isRow t
    · have hk : kids t = [] := by cases t <;> first | rfl | cases hr
      rw [hk]
      simp only [Bool.false_or, Bool.false_eq_true, if_false, List.map_nil]
      have : mxN [] = 0 := rfl
      split <;> omega
    · simp only [Bool.true_or, if_true]
      split
      · omega
      · rename_i hn
        have : L.flatMap kids = [] := by
          rw [List.flatMap_eq_nil_iff]
          intro x hx
          have : isRow x ≠ true := fun z => hn (List.any_eq_true.mpr ⟨x, hx, z⟩)
          cases x <;> first | rfl | simp [isRow] at this
        rw [this]
        have : mxN (List.map (dp d) []) = 0 := rfl
        omega
theorem dp_zero {L : List T} (h : L.any isRow = false) (d : Nat) : mxN (L.map (dp d)) = 0 := by
  cases d with
  | zero =>
    induction L with
    | nil => rfl
    | cons t L ih =>
      rw [List.any_cons, Bool.or_eq_false_iff] at h
      have := ih h.2
      simp only [List.map_cons, mxN, List.foldr_cons, dp] at this ⊢
      omega
  | succ d => rw [dp_level, h]; rfl
end
/-! ### things whose rows are not too long, at each level -/
def Tw : Nat → T → Prop
  | 0, .lst _ => False
  | 0, .dct _ => False
  | n + 1, .lst xs => xs.length ≤ LIM ∧ ∀ x ∈ xs, Tw n x
  | n + 1, .dct kvs => (kvs.length ≤ LIM ∧ (kvs.map (·.1)).Nodup ∧ ∀ p ∈ kvs, KeyIn false p.1) ∧ ∀ p ∈ kvs, Tw n p.2
  | _, .str x => x.length ≤ LIM
  | _, .tup xs => xs.all isScalar = true
  | _, _ => True
theorem Tw.kid {n : Nat} {t k : T} (h : Tw (n + 1) t) (hk : k ∈ kids t) : Tw n k := by
  cases t with
  | lst xs => exact h.2 k hk
  | dct kvs =>
    obtain ⟨p, hp, rfl⟩ := List.mem_map.mp hk
    exact h.2 p hp
  | _ => cases hk
theorem Tw.zero {t : T} (h : Tw 0 t) : kids t = [] ∧ isRow t = false := by
  cases t with
  | lst xs => exact h.elim
  | dct kvs => exact h.elim
  | _ => exact ⟨rfl, rfl⟩
theorem Tw.kl : ∀ {n : Nat} {t : T}, Tw n t → (kids t).length ≤ LIM
  | 0, t, h => by rw [h.zero.1]; simp
  | n + 1, .lst xs, h => h.1
  | n + 1, .dct kvs, h => by rw [kids, List.length_map]; exact h.1.1
  | n + 1, .non, _ => by simp [kids]
  | n + 1, .bl _, _ => by simp [kids]
  | n + 1, .int _, _ => by simp [kids]
  | n + 1, .str _, _ => by simp [kids]
  | n + 1, .tup _, _ => by simp [kids]
theorem Tw.th : ∀ {d : Nat} {t : T}, Tw d t → Th d t
  | 0, t, h => by cases t <;> first | exact h | exact h.elim
  | d + 1, t, h => by
    cases t with
    | lst xs => exact fun x hx => (h.2 x hx).th
    | dct kvs => exact ⟨⟨h.1.2.1, h.1.2.2⟩, fun p hp => (h.2 p hp).th⟩
    | _ => exact h
theorem Tw.str {d : Nat} {x : List Nat} (h : Tw d (.str x)) : x.length ≤ LIM := by cases d <;> exact h
theorem Tw.nd {d : Nat} {kvs : List (Ky × T)} (h : Tw d (.dct kvs)) : (kvs.map (·.1)).Nodup := by
  cases d with
  | zero => exact h.elim
  | succ d => exact h.1.2.1
theorem Tw.keys {d : Nat} {kvs : List (Ky × T)} (h : Tw d (.dct kvs)) : ∀ p ∈ kvs, KeyIn false p.1 := by
  cases d with
  | zero => exact h.elim
  | succ d => exact h.1.2.2
theorem Tw.mono : ∀ {d e : Nat} {t : T}, d ≤ e → Tw d t → Tw e t
  | 0, 0, t, _, h => h
  | 0, e + 1, t, _, h => by cases t <;> first | exact h | exact h.elim
  | d + 1, 0, t, l, h => by omega
  | d + 1, e + 1, t, l, h => by
    cases t with
    | lst xs => exact ⟨h.1, fun x hx => (h.2 x hx).mono (by omega)⟩
    | dct kvs => exact ⟨h.1, fun p hp => (h.2 p hp).mono (by omega)⟩
    | _ => exact h
def fitsW : Nat → A → Bool
  | n, .or a b => fitsW n a && fitsW n b
  | n + 1, .lst _ hi a => decide (hi ≤ LIM) && fitsW n a
  | n + 1, .dct _ _ hi a => decide (hi ≤ LIM) && fitsW n a
  | 0, .lst _ _ _ => false
  | 0, .dct _ _ _ _ => false
  | _, .str _ h => decide (h ≤ LIM)
  | _, .tup as => scT as
  | _, .scr => false
  | n, .any d p => decide (d ≤ n) && decide (p.m ≤ LIM) && decide (p.l ≤ LIM) && decide (p.k ≤ LIM)
  | _, _ => true
theorem dp_tw {p : Pm} (hm : p.m ≤ LIM) (hl : p.l ≤ LIM) (hk : p.k ≤ LIM) : ∀ {d n : Nat} {t : T}, d ≤ n → Dp p d t → Tw n t
  | d, n, .non, _, _ => by cases n <;> trivial
  | d, n, .bl _, _, _ => by cases n <;> trivial
  | d, n, .int _, _, _ => by cases n <;> trivial
  | d, n, .str x, _, g => by
    have g : x.length ≤ p.m := by cases d <;> exact g
    cases n <;> exact Nat.le_trans g hm
  | d, n, .tup _, _, g => by cases d <;> exact g.elim
  | 0, n, .lst _, _, g => g.elim
  | 0, n, .dct _, _, g => g.elim
  | d + 1, 0, .lst _, l, g => by omega
  | d + 1, 0, .dct _, l, g => by omega
  | d + 1, n + 1, .lst xs, l, g => ⟨Nat.le_trans g.1 hl, fun x hx => dp_tw hm hl hk (by omega) (g.2 x hx)⟩
  | d + 1, n + 1, .dct xs, l, g => ⟨⟨Nat.le_trans g.1 hk, g.2.1, fun q hq => (g.2.2 q hq).1.any⟩, fun q hq => dp_tw hm hl hk (by omega) (g.2.2 q hq).2⟩
theorem fitsW_ok {ns : List Int} {a : A} : ∀ {n : Nat} {t : T}, fitsW n a = true → γ ns a t → Tw n t := by
  induction a using A.rec (motive_2 := fun _ => True) with
  | bot => intro n t _ g; exact g.elim
  | or a b iha ihb =>
    intro n t h g
    have h : (fitsW n a && fitsW n b) = true := by cases n <;> exact h
    rw [Bool.and_eq_true] at h
    rcases g with g | g
    · exact iha h.1 g
    · exact ihb h.2 g
  | scr => intro n t h; cases n <;> cases h
  | non => intro n t _ g; cases (show t = _ from g); cases n <;> trivial
  | bl b => intro n t _ g; cases (show t = _ from g); cases n <;> trivial
  | int lo hi => intro n t _ ⟨i, e, _⟩; subst e; cases n <;> trivial
  | str lo hi =>
    intro n t h ⟨i, e, _, h2⟩
    subst e
    have h : decide (hi ≤ LIM) = true := by cases n <;> exact h
    have := of_decide_eq_true h
    cases n <;> exact Nat.le_trans h2 this
  | lst lo hi a ih =>
    intro n t h g
    obtain ⟨xs, rfl, _, l, g⟩ := g
    cases n with
    | zero => cases h
    | succ n =>
      have h : (decide (hi ≤ LIM) && fitsW n a) = true := h
      rw [Bool.and_eq_true, decide_eq_true_eq] at h
      exact ⟨Nat.le_trans l h.1, fun x hx => ih h.2 (g x hx)⟩
  | tup as =>
    intro n t h g
    obtain ⟨ts, rfl, g⟩ := g
    have h : scT as = true := by cases n <;> exact h
    have := scT_ok h g
    cases n <;> exact this
  | dct s lo hi a ih =>
    intro n t h g
    obtain ⟨xs, rfl, _, l, nd, g⟩ := g
    cases n with
    | zero => cases h
    | succ n =>
      have h : (decide (hi ≤ LIM) && fitsW n a) = true := h
      rw [Bool.and_eq_true, decide_eq_true_eq] at h
      exact ⟨⟨Nat.le_trans l h.1, nd, fun p hp => (g p hp).1.any⟩, fun p hp => ih h.2 (g p hp).2⟩
  | any d p =>
    intro n t h g
    have h : (decide (d ≤ n) && decide (p.m ≤ LIM) && decide (p.l ≤ LIM) && decide (p.k ≤ LIM)) = true := by cases n <;> exact h
    simp only [Bool.and_eq_true, decide_eq_true_eq] at h
    exact dp_tw h.1.1.2 h.1.2 h.2 h.1.1.1 g
  | nil => trivial
  | cons => trivial
end Cab

set_option linter.all false
set_option maxRecDepth 100000
namespace Cab
def F_45 : Fn := ⟨1, 3, [], (.cons (.if (.cmp .is (.var 0) (.con .non)) (.cons (.ret (.tupd (.cons (.con (.int 0)) .nil))) .nil) .nil) (.cons (.if (.isi (.var 0) [.bool]) (.cons (.ret (.tupd (.cons (.con (.int 1)) (.cons (.prm .int (.cons (.var 0) .nil)) .nil)))) .nil) .nil) (.cons (.if (.isi (.var 0) [.int]) (.cons (.ret (.tupd (.cons (.con (.int 2)) (.cons (.var 0) .nil)))) .nil) .nil) (.cons (.if (.isi (.var 0) [.str]) (.cons (.ret (.tupd (.cons (.con (.int 3)) (.cons (.var 0) .nil)))) .nil) .nil) (.cons (.if (.isi (.var 0) [.list]) (.cons (.ret (.tupd (.cons (.con (.int 4)) (.cons (.prm .tuple (.cons (.lc [2] (.one 2) (.it (.var 0)) (.call .v 45 (.cons (.var 2) .nil))) .nil)) .nil)))) .nil) .nil) (.cons (.ret (.tupd (.cons (.con (.int 5)) (.cons (.prm .tuple (.cons (.lc [1] (.one 1) (.it (.prm .sorted (.cons (.var 0) .nil))) (.tupd (.cons (.var 1) (.cons (.call .v 45 (.cons (.idx (.var 0) (.var 1)) .nil)) .nil)))) .nil)) .nil)))) .nil))))))⟩
def F_46 : Fn := ⟨2, 2, [], (.cons (.ret (.cmp .lt (.call .v 45 (.cons (.var 0) .nil)) (.call .v 45 (.cons (.var 1) .nil)))) .nil)⟩
def F_2 : Fn := ⟨1, 8, [], (.cons (.set 1 (.con (.str [97, 98, 99, 100, 101, 102, 103, 104, 105, 106, 107, 108, 109, 110, 111, 112, 113, 114, 115, 116, 117, 118, 119, 120, 121, 122, 48, 49, 50, 51, 52, 53, 54, 55, 56, 57]))) (.cons (.set 2 (.idx (.lstd (.cons (.con (.int 1)) (.cons (.bin .add (.con (.int 1)) (.bin .mod (.bin .fdiv (.var 0) (.con (.int 3))) (.con (.int 4)))) (.cons (.bin .add (.con (.int 1)) (.bin .mod (.bin .fdiv (.var 0) (.con (.int 3))) (.con (.int 12)))) .nil)))) (.bin .mod (.var 0) (.con (.int 3))))) (.cons (.if (.cmp .eq (.bin .mod (.bin .fdiv (.var 0) (.con (.int 36))) (.con (.int 2))) (.con (.int 1))) (.cons (.set 5 (.bin .mod (.bin .fdiv (.var 0) (.con (.int 72))) (.var 2))) (.cons (.set 6 (.bin .add (.bin .add (.bin .mul (.con (.str [97])) (.var 5)) (.idx (.var 1) (.bin .mod (.bin .fdiv (.var 0) (.con (.int 864))) (.con (.int 26))))) (.bin .mul (.con (.str [97])) (.bin .sub (.bin .sub (.var 2) (.var 5)) (.con (.int 1)))))) (.cons (.ret (.var 6)) .nil))) .nil) (.cons (.set 3 (.bin .add (.con (.int 1)) (.bin .mod (.bin .fdiv (.var 0) (.con (.int 11))) (.con (.int 35))))) (.cons (.set 4 (.lc [7] (.one 7) (.rng1 (.bin .sub (.var 2) (.con (.int 1)))) (.idx (.var 1) (.bin .mod (.bin .add (.bin .fdiv (.var 0) (.con (.int 7))) (.bin .mul (.var 7) (.var 3))) (.con (.int 36)))))) (.cons (.ret (.bin .add (.idx (.var 1) (.bin .mod (.bin .fdiv (.var 0) (.con (.int 72))) (.con (.int 26)))) (.meth .join (.con (.str [])) (.cons (.var 4) .nil)))) .nil))))))⟩
def F_3 : Fn := ⟨0, 1, [], (.cons (.set 0 (.con (.str [32, 33, 34, 35, 36, 38, 39, 40, 41, 42, 43, 44, 45, 46, 47, 48, 49, 50, 51, 52, 53, 54, 55, 56, 57, 58, 59, 60, 61, 62, 63, 64, 65, 66, 67, 68, 69, 70, 71, 72, 73, 74, 75, 76, 77, 78, 79, 80, 81, 82, 83, 84, 85, 86, 87, 88, 89, 90, 91, 92, 93, 94, 95, 96]))) (.cons (.ret (.bin .add (.var 0) (.con (.str [97, 98, 99, 100, 101, 102, 103, 104, 105, 106, 107, 108, 109, 110, 111, 112, 113, 114, 115, 116, 117, 118, 119, 120, 121, 122, 123, 124, 125, 126])))) .nil))⟩
def F_4 : Fn := ⟨1, 6, [], (.cons (.set 1 (.call .v 3 .nil)) (.cons (.set 2 (.idx (.lstd (.cons (.bin .mod (.bin .fdiv (.var 0) (.con (.int 5))) (.con (.int 4))) (.cons (.bin .mod (.bin .fdiv (.var 0) (.con (.int 5))) (.con (.int 9))) (.cons (.bin .mod (.bin .fdiv (.var 0) (.con (.int 5))) (.con (.int 31))) .nil)))) (.bin .mod (.var 0) (.con (.int 3))))) (.cons (.if (.cmp .eq (.bin .mod (.bin .fdiv (.var 0) (.con (.int 155))) (.con (.int 3))) (.con (.int 1))) (.cons (.set 4 (.bin .fdiv (.var 2) (.con (.int 2)))) (.cons (.ret (.bin .add (.bin .mul (.con (.str [39])) (.var 4)) (.bin .mul (.idx (.var 1) (.bin .mod (.bin .fdiv (.var 0) (.con (.int 465))) (.con (.int 94)))) (.bin .sub (.var 2) (.var 4))))) .nil)) .nil) (.cons (.set 3 (.bin .add (.con (.int 1)) (.bin .mod (.bin .fdiv (.var 0) (.con (.int 13))) (.con (.int 93))))) (.cons (.ret (.meth .join (.con (.str [])) (.cons (.lc [5] (.one 5) (.rng1 (.var 2)) (.idx (.var 1) (.bin .mod (.bin .add (.bin .fdiv (.var 0) (.con (.int 7))) (.bin .mul (.var 5) (.var 3))) (.con (.int 94))))) .nil))) .nil)))))⟩
def F_11 : Fn := ⟨1, 1, [], (.cons (.if (.cmp .eq (.bin .mod (.var 0) (.con (.int 3))) (.con (.int 0))) (.cons (.ret (.bin .sub (.bin .mod (.bin .fdiv (.var 0) (.con (.int 3))) (.con (.int 41))) (.con (.int 20)))) .nil) .nil) (.cons (.if (.cmp .eq (.bin .mod (.var 0) (.con (.int 3))) (.con (.int 1))) (.cons (.ret (.bin .sub (.bin .mod (.bin .pow (.var 0) (.con (.int 4))) (.bin .add (.bin .mul (.con (.int 2)) (.bin .pow (.con (.int 10)) (.con (.int 12)))) (.con (.int 1)))) (.bin .pow (.con (.int 10)) (.con (.int 12))))) .nil) .nil) (.cons (.ret (.idx (.lstd (.cons (.bin .pow (.con (.int 10)) (.con (.int 12))) (.cons (.neg (.bin .pow (.con (.int 10)) (.con (.int 12)))) (.cons (.bin .sub (.bin .pow (.con (.int 10)) (.con (.int 12))) (.con (.int 1))) (.cons (.con (.int 0)) (.cons (.con (.int 1)) (.cons (.neg (.con (.int 1))) (.cons (.bin .pow (.con (.int 10)) (.con (.int 11))) (.cons (.con (.int 999)) .nil))))))))) (.bin .mod (.bin .fdiv (.var 0) (.con (.int 3))) (.con (.int 8))))) .nil)))⟩
def F_12 : Fn := ⟨3, 8, [], (.cons (.set 3 (.call .v 1 (.cons (.var 0) (.cons (.var 1) .nil)))) (.cons (.set 4 (.bin .mod (.var 3) (.idx (.lstd (.cons (.con (.int 5)) (.cons (.con (.int 9)) .nil))) (.prm .int (.cons (.cmp .gt (.var 2) (.con (.int 0))) .nil))))) (.cons (.if (.cmp .eq (.var 4) (.con (.int 0))) (.cons (.ret (.idx (.lstd (.cons (.con .non) (.cons (.con (.bl true)) (.cons (.con (.bl false)) .nil)))) (.bin .mod (.bin .fdiv (.var 3) (.con (.int 9))) (.con (.int 3))))) .nil) .nil) (.cons (.if (.cmp .lt (.var 4) (.con (.int 3))) (.cons (.ret (.call .v 11 (.cons (.bin .fdiv (.var 3) (.con (.int 9))) .nil))) .nil) .nil) (.cons (.if (.cmp .lt (.var 4) (.con (.int 5))) (.cons (.ret (.call .v 4 (.cons (.bin .fdiv (.var 3) (.con (.int 9))) .nil))) .nil) .nil) (.cons (.set 5 (.lc [7] (.one 7) (.rng1 (.bin .mod (.bin .fdiv (.var 3) (.con (.int 9))) (.con (.int 5)))) (.call .v 12 (.cons (.var 0) (.cons (.bin .add (.bin .add (.bin .mul (.var 1) (.con (.int 5))) (.con (.int 1))) (.var 7)) (.cons (.bin .sub (.var 2) (.con (.int 1))) .nil)))))) (.cons (.if (.cmp .lt (.var 4) (.con (.int 7))) (.cons (.ret (.var 5)) .nil) .nil) (.cons (.set 6 (.dctO [] .nil)) (.cons (.for (.one 7) (.rng1 (.len (.var 5))) (.cons (.sub (.var 6) (.call .v 2 (.cons (.bin .add (.bin .fdiv (.call .v 1 (.cons (.var 0) (.cons (.bin .add (.bin .add (.bin .mul (.var 1) (.con (.int 5))) (.con (.int 1))) (.var 7)) .nil))) (.con (.int 9))) (.var 7)) .nil)) (.idx (.var 5) (.var 7))) .nil)) (.cons (.ret (.var 6)) .nil))))))))))⟩
def F_40 : Fn := ⟨3, 8, [], (.cons (.set 3 (.call .v 1 (.cons (.var 0) (.cons (.bin .add (.var 1) (.con (.int 650))) .nil)))) (.cons (.if (.cmp .mem (.bin .mod (.var 3) (.con (.int 8))) (.tupd (.cons (.con (.int 1)) (.cons (.con (.int 2)) (.cons (.con (.int 3)) (.cons (.con (.int 7)) .nil)))))) (.cons (.set 2 (.prm .min (.cons (.var 2) (.cons (.con (.int 2)) .nil)))) .nil) .nil) (.cons (.set 4 (.call .v 12 (.cons (.var 0) (.cons (.var 1) (.cons (.var 2) .nil))))) (.cons (.if (.cmp .eq (.bin .mod (.var 3) (.con (.int 8))) (.con (.int 1))) (.cons (.set 5 (.lc [7] (.one 7) (.rng1 (.bin .mod (.bin .fdiv (.var 3) (.con (.int 64))) (.con (.int 51)))) (.call .v 11 (.cons (.bin .add (.bin .fdiv (.var 3) (.con (.int 8))) (.bin .mul (.con (.int 5)) (.var 7))) .nil)))) (.cons (.set 4 (.idx (.lstd (.cons (.lstd (.cons (.var 5) (.cons (.var 4) .nil))) (.cons (.dctd [.s [97], .s [98]] (.cons (.var 4) (.cons (.var 5) .nil))) .nil))) (.bin .mod (.bin .fdiv (.var 3) (.con (.int 8))) (.con (.int 2))))) .nil)) .nil) (.cons (.if (.cmp .eq (.bin .mod (.var 3) (.con (.int 8))) (.con (.int 2))) (.cons (.set 6 (.prm .dict (.cons (.lc [7] (.one 7) (.rng1 (.bin .mod (.bin .fdiv (.var 3) (.con (.int 64))) (.con (.int 31)))) (.tupd (.cons (.bin .add (.con (.str [110])) (.prm .str (.cons (.bin .mod (.bin .add (.bin .mul (.var 7) (.con (.int 7))) (.var 3)) (.con (.int 30))) .nil))) (.cons (.var 7) .nil)))) .nil))) (.cons (.set 4 (.lstd (.cons (.var 6) (.cons (.var 4) .nil)))) .nil)) .nil) (.cons (.if (.cmp .eq (.bin .mod (.var 3) (.con (.int 4))) (.con (.int 3))) (.cons (.for (.one 7) (.rng1 (.bin .add (.con (.int 1)) (.bin .mod (.bin .fdiv (.var 3) (.con (.int 4))) (.con (.int 4))))) (.cons (.set 4 (.idx (.lstd (.cons (.lstd (.cons (.var 4) .nil)) (.cons (.dctd [.s [97], .s [98]] (.cons (.var 4) (.cons (.var 7) .nil))) .nil))) (.bin .mod (.bin .add (.bin .fdiv (.var 3) (.con (.int 16))) (.var 7)) (.con (.int 2))))) .nil)) .nil) .nil) (.cons (.ret (.var 4)) .nil)))))))⟩
def F_13 : Fn := ⟨1, 1, [], (.cons (.if (.cmp .is (.var 0) (.con .non)) (.cons (.ret (.con (.str [110, 111, 116, 104, 105, 110, 103]))) .nil) .nil) (.cons (.if (.isi (.var 0) [.bool]) (.cons (.ret (.con (.str [116, 114, 117, 116, 104]))) .nil) .nil) (.cons (.if (.isi (.var 0) [.int]) (.cons (.ret (.con (.str [110, 117, 109, 98, 101, 114]))) .nil) .nil) (.cons (.if (.isi (.var 0) [.str]) (.cons (.ret (.con (.str [116, 101, 120, 116]))) .nil) .nil) (.cons (.if (.isi (.var 0) [.list]) (.cons (.ret (.con (.str [114, 111, 119]))) .nil) .nil) (.cons (.if (.isi (.var 0) [.dict]) (.cons (.ret (.con (.str [114, 101, 99, 111, 114, 100]))) .nil) .nil) (.cons (.ret (.con .non)) .nil)))))))⟩
def F_24 : Fn := ⟨1, 3, [], (.cons (.if (.isi (.var 0) [.list]) (.cons (.ret (.lc [1] (.one 1) (.it (.var 0)) (.call .v 24 (.cons (.var 1) .nil)))) .nil) .nil) (.cons (.if (.isi (.var 0) [.dict]) (.cons (.ret (.prm .dict (.cons (.lc [2] (.one 2) (.it (.var 0)) (.tupd (.cons (.var 2) (.cons (.call .v 24 (.cons (.idx (.var 0) (.var 2)) .nil)) .nil)))) .nil))) .nil) .nil) (.cons (.ret (.var 0)) .nil)))⟩
def F_26 : Fn := ⟨2, 2, [], (.cons (.ret (.and (.cmp .isn (.call .v 13 (.cons (.var 0) .nil)) (.con .non)) (.and (.cmp .eq (.call .v 13 (.cons (.var 0) .nil)) (.call .v 13 (.cons (.var 1) .nil))) (.cmp .eq (.call .v 28 (.cons (.var 0) (.cons (.var 1) .nil))) (.con (.int 0)))))) .nil)⟩
def F_27 : Fn := ⟨2, 4, [], (.cons (.for (.one 2) (.rng1 (.prm .min (.cons (.len (.var 0)) (.cons (.len (.var 1)) .nil)))) (.cons (.set 3 (.call .v 28 (.cons (.idx (.var 0) (.var 2)) (.cons (.idx (.var 1) (.var 2)) .nil)))) (.cons (.if (.cmp .ne (.var 3) (.con (.int 0))) (.cons (.ret (.var 3)) .nil) .nil) .nil))) (.cons (.ret (.bin .sub (.prm .int (.cons (.cmp .gt (.len (.var 0)) (.len (.var 1))) .nil)) (.prm .int (.cons (.cmp .lt (.len (.var 0)) (.len (.var 1))) .nil)))) .nil))⟩
def F_28 : Fn := ⟨2, 8, [], (.cons (.set 2 (.lstd (.cons (.con (.str [110, 111, 116, 104, 105, 110, 103])) (.cons (.con (.str [116, 114, 117, 116, 104])) (.cons (.con (.str [110, 117, 109, 98, 101, 114])) (.cons (.con (.str [116, 101, 120, 116])) (.cons (.con (.str [114, 111, 119])) (.cons (.con (.str [114, 101, 99, 111, 114, 100])) .nil)))))))) (.cons (.set 3 (.meth .index (.var 2) (.cons (.call .v 13 (.cons (.var 0) .nil)) .nil))) (.cons (.set 4 (.meth .index (.var 2) (.cons (.call .v 13 (.cons (.var 1) .nil)) .nil))) (.cons (.if (.cmp .ne (.var 3) (.var 4)) (.cons (.ret (.bin .sub (.prm .int (.cons (.cmp .gt (.var 3) (.var 4)) .nil)) (.prm .int (.cons (.cmp .lt (.var 3) (.var 4)) .nil)))) .nil) .nil) (.cons (.if (.cmp .eq (.var 3) (.con (.int 0))) (.cons (.ret (.con (.int 0))) .nil) .nil) (.cons (.if (.cmp .lt (.var 3) (.con (.int 4))) (.cons (.ret (.bin .sub (.prm .int (.cons (.cmp .gt (.var 0) (.var 1)) .nil)) (.prm .int (.cons (.cmp .lt (.var 0) (.var 1)) .nil)))) .nil) .nil) (.cons (.if (.cmp .eq (.var 3) (.con (.int 4))) (.cons (.ret (.call .v 27 (.cons (.var 0) (.cons (.var 1) .nil)))) .nil) .nil) (.cons (.set 5 (.lc [7] (.one 7) (.it (.prm .sorted (.cons (.var 0) .nil))) (.lstd (.cons (.var 7) (.cons (.idx (.var 0) (.var 7)) .nil))))) (.cons (.set 6 (.lc [7] (.one 7) (.it (.prm .sorted (.cons (.var 1) .nil))) (.lstd (.cons (.var 7) (.cons (.idx (.var 1) (.var 7)) .nil))))) (.cons (.ret (.call .v 27 (.cons (.var 5) (.cons (.var 6) .nil)))) .nil))))))))))⟩
def F_41 : Fn := ⟨2, 2, [], (.cons (.if (.cmp .is (.var 0) (.con .non)) (.cons (.ret (.idx (.lstd (.cons (.con (.bl false)) (.cons (.con (.int 0)) (.cons (.con (.str [])) (.cons (.lstd .nil) (.cons (.dctd [] .nil) .nil)))))) (.bin .mod (.var 1) (.con (.int 5))))) .nil) .nil) (.cons (.if (.isi (.var 0) [.bool]) (.cons (.ret (.idx (.lstd (.cons (.prm .int (.cons (.var 0) .nil)) (.cons (.not (.var 0)) (.cons (.con .non) (.cons (.lstd (.cons (.var 0) .nil)) .nil))))) (.bin .mod (.var 1) (.con (.int 4))))) .nil) .nil) (.cons (.if (.isi (.var 0) [.int]) (.cons (.ret (.idx (.lstd (.cons (.cmp .eq (.var 0) (.con (.int 1))) (.cons (.bin .sub (.bin .add (.var 0) (.con (.int 1))) (.bin .mul (.con (.int 2)) (.prm .int (.cons (.cmp .gt (.var 0) (.con (.int 0))) .nil)))) (.cons (.cutR (.prm .str (.cons (.var 0) .nil)) (.con (.int 30))) (.cons (.lstd (.cons (.var 0) .nil)) .nil))))) (.bin .mod (.var 1) (.con (.int 4))))) .nil) .nil) (.cons (.if (.isi (.var 0) [.str]) (.cons (.ret (.idx (.lstd (.cons (.cutL (.var 0) (.con (.int 1))) (.cons (.cutR (.bin .add (.var 0) (.con (.str [32]))) (.con (.int 30))) (.cons (.revS (.var 0)) (.cons (.con .non) .nil))))) (.bin .mod (.var 1) (.con (.int 4))))) .nil) .nil) (.cons (.if (.isi (.var 0) [.list]) (.cons (.ret (.idx (.lstd (.cons (.dctd [] .nil) (.cons (.lstd (.cons (.con .non) .nil)) (.cons (.lstd (.cons (.lstd .nil) .nil)) (.cons (.con (.str [])) .nil))))) (.bin .mod (.var 1) (.con (.int 4))))) .nil) .nil) (.cons (.ret (.idx (.lstd (.cons (.lstd .nil) (.cons (.dctd [.s [97]] (.cons (.con .non) .nil)) (.cons (.dctd [.s [97]] (.cons (.dctd [] .nil) .nil)) (.cons (.con .non) .nil))))) (.bin .mod (.var 1) (.con (.int 4))))) .nil))))))⟩
def F_42 : Fn := ⟨3, 7, [], (.cons (.if (.and (.isi (.var 0) [.list]) (.and (.cmp .ne (.var 0) (.lstd .nil)) (.cmp .gt (.bin .mod (.var 1) (.con (.int 7))) (.con (.int 0))))) (.cons (.set 3 (.bin .mod (.bin .fdiv (.var 1) (.con (.int 7))) (.len (.var 0)))) (.cons (.ret (.bin .add (.bin .add (.cutR (.var 0) (.var 3)) (.lstd (.cons (.call .v 42 (.cons (.idx (.var 0) (.var 3)) (.cons (.bin .fdiv (.var 1) (.con (.int 11))) (.cons (.var 2) .nil)))) .nil))) (.cutL (.var 0) (.bin .add (.var 3) (.con (.int 1)))))) .nil)) .nil) (.cons (.if (.and (.isi (.var 0) [.dict]) (.and (.cmp .ne (.var 0) (.dctd [] .nil)) (.cmp .gt (.bin .mod (.var 1) (.con (.int 7))) (.con (.int 0))))) (.cons (.set 4 (.prm .sorted (.cons (.var 0) .nil))) (.cons (.if (.cmp .eq (.bin .mod (.bin .fdiv (.var 1) (.con (.int 5))) (.con (.int 2))) (.con (.int 1))) (.cons (.set 4 (.revS (.var 4))) .nil) .nil) (.cons (.set 3 (.idx (.var 4) (.bin .mod (.bin .fdiv (.var 1) (.con (.int 7))) (.len (.var 4))))) (.cons (.set 5 (.dctO [] .nil)) (.cons (.for (.one 6) (.it (.var 4)) (.cons (.if (.cmp .ne (.var 6) (.var 3)) (.cons (.sub (.var 5) (.var 6) (.call .v 24 (.cons (.idx (.var 0) (.var 6)) .nil))) .nil) (.cons (.if (.cmp .eq (.bin .mod (.bin .fdiv (.var 1) (.con (.int 3))) (.con (.int 5))) (.con (.int 1))) (.cons (.sub (.var 5) (.var 2) (.call .v 24 (.cons (.idx (.var 0) (.var 6)) .nil))) .nil) (.cons (.sub (.var 5) (.var 6) (.call .v 42 (.cons (.idx (.var 0) (.var 6)) (.cons (.bin .fdiv (.var 1) (.con (.int 11))) (.cons (.var 2) .nil))))) .nil)) .nil)) .nil)) (.cons (.ret (.var 5)) .nil)))))) .nil) (.cons (.if (.and (.isi (.var 0) [.list]) (.cmp .ne (.var 0) (.lstd .nil))) (.cons (.ret (.idx (.lstd (.cons (.cutL (.var 0) (.con (.int 1))) (.cons (.cutR (.var 0) (.neg (.con (.int 1)))) (.cons (.bin .add (.var 0) (.lstd (.cons (.idx (.var 0) (.con (.int 0))) .nil))) (.cons (.revS (.var 0)) .nil))))) (.bin .mod (.bin .fdiv (.var 1) (.con (.int 7))) (.con (.int 4))))) .nil) .nil) (.cons (.if (.and (.isi (.var 0) [.dict]) (.cmp .ne (.var 0) (.dctd [] .nil))) (.cons (.ret (.prm .dict (.cons (.lc [6] (.one 6) (.it (.cutL (.prm .sorted (.cons (.var 0) .nil)) (.con (.int 1)))) (.tupd (.cons (.var 6) (.cons (.idx (.var 0) (.var 6)) .nil)))) .nil))) .nil) .nil) (.cons (.ret (.call .v 41 (.cons (.var 0) (.cons (.bin .fdiv (.var 1) (.con (.int 7))) .nil)))) .nil)))))⟩
def F_47 : Fn := ⟨1, 11, [], (.cons (.set 1 (.call .v 1 (.cons (.var 0) (.cons (.con (.int 700)) .nil)))) (.cons (.set 2 (.lstO (.cons (.call .v 40 (.cons (.var 0) (.cons (.con (.int 0)) (.cons (.con (.int 3)) .nil)))) .nil))) (.cons (.for (.one 3) (.rng1 (.con (.int 2))) (.cons (.if (.cmp .eq (.bin .mod (.bin .fdiv (.var 1) (.idx (.lstd (.cons (.con (.int 1)) (.cons (.con (.int 4)) .nil))) (.var 3))) (.con (.int 4))) (.con (.int 0))) (.cons (.ex (.app (.var 2) (.call .v 12 (.cons (.var 0) (.cons (.bin .add (.con (.int 1)) (.var 3)) (.cons (.con (.int 2)) .nil)))))) .nil) (.cons (.set 7 (.call .v 2 (.cons (.call .v 1 (.cons (.var 0) (.cons (.bin .add (.con (.int 710)) (.var 3)) .nil))) .nil))) (.cons (.ex (.app (.var 2) (.call .v 42 (.cons (.idx (.var 2) (.neg (.con (.int 1)))) (.cons (.call .v 1 (.cons (.var 0) (.cons (.bin .add (.con (.int 720)) (.var 3)) .nil))) (.cons (.var 7) .nil)))))) .nil))) .nil)) (.cons (.set 4 (.lc [5] (.one 5) (.it (.var 2)) (.call .v 24 (.cons (.var 5) .nil)))) (.cons (.for (.one 5) (.it (.var 2)) (.cons (.for (.one 6) (.it (.var 2)) (.cons (.set 8 (.call .v 28 (.cons (.var 5) (.cons (.var 6) .nil)))) (.cons (.set 9 (.call .v 46 (.cons (.var 5) (.cons (.var 6) .nil)))) (.cons (.if (.or (.not (.isi (.var 9) [.bool])) (.cmp .ne (.var 9) (.cmp .lt (.var 8) (.con (.int 0))))) (.cons (.ret (.con (.bl false))) .nil) .nil) (.cons (.set 10 (.lstd (.cons (.call .v 45 (.cons (.var 5) .nil)) (.cons (.call .v 45 (.cons (.var 6) .nil)) .nil)))) (.cons (.if (.or (.not (.isi (.idx (.var 10) (.con (.int 0))) [.tuple])) (.cmp .ne (.cmp .lt (.idx (.var 10) (.con (.int 0))) (.idx (.var 10) (.con (.int 1)))) (.cmp .lt (.var 8) (.con (.int 0))))) (.cons (.ret (.con (.bl false))) .nil) .nil) (.cons (.if (.cmp .ne (.cmp .eq (.idx (.var 10) (.con (.int 0))) (.idx (.var 10) (.con (.int 1)))) (.cmp .eq (.var 8) (.con (.int 0)))) (.cons (.ret (.con (.bl false))) .nil) .nil) .nil))))))) .nil)) (.cons (.ret (.and (.cmp .eq (.var 2) (.var 4)) (.cmp .eq (.lc [3] (.one 3) (.rng1 (.con (.int 3))) (.call .v 26 (.cons (.idx (.var 2) (.var 3)) (.cons (.idx (.var 4) (.var 3)) .nil)))) (.bin .mul (.lstd (.cons (.con (.bl true)) .nil)) (.con (.int 3)))))) .nil))))))⟩
end Cab

set_option linter.all false
set_option maxRecDepth 100000
namespace Cab
/-! Sorted keys, sums: for the plain sides. -/
def kyS : Ky → List Nat
  | .s x => x
  | .i _ => []
def keysS (kvs : List (Ky × T)) : List (List Nat) := (kvs.map fun p => kyS p.1).mergeSort strLe
def valS (kvs : List (Ky × T)) (k : List Nat) : T := (kget (.s k) kvs).getD .non
theorem mem_keysS {kvs : List (Ky × T)} {k : List Nat} (h : k ∈ keysS kvs) : ∃ p ∈ kvs, kyS p.1 = k := by
  have := (List.mergeSort_perm _ _).mem_iff.mp h
  exact List.mem_map.mp this
theorem keysS_len (kvs : List (Ky × T)) : (keysS kvs).length = kvs.length := by simp [keysS, List.length_mergeSort]
theorem valS_mem {kvs : List (Ky × T)} (nd : (kvs.map (·.1)).Nodup) (hs : ∀ p ∈ kvs, ∃ k, p.1 = .s k) {k : List Nat} (h : k ∈ keysS kvs) : ∃ p ∈ kvs, p.1 = .s k ∧ kget (.s k) kvs = some p.2 ∧ valS kvs k = p.2 := by
  obtain ⟨p, hp, rfl⟩ := mem_keysS h
  obtain ⟨k, e⟩ := hs p hp
  have e2 : p.1 = .s (kyS p.1) := by rw [e]; rfl
  have e3 : kget (.s (kyS p.1)) kvs = some p.2 := by
    rw [← e2]
    exact kget_nodup nd p hp
  exact ⟨p, hp, e2, e3, by rw [valS, e3]; rfl⟩
theorem allStr_map {α : Type} (f : α → List Nat) : ∀ xs : List α, allStr (xs.map fun x => .str (f x)) = some (xs.map f)
  | [] => rfl
  | x :: xs => by
    have ih := allStr_map f xs
    unfold allStr at ih ⊢
    simp only [List.map_cons, optAll_cons, ih]
theorem sort_keys {kvs : List (Ky × T)} (hs : ∀ p ∈ kvs, ∃ k, p.1 = .s k) : sortT (kvs.map fun p => kyT p.1) = some ((keysS kvs).map .str) := by
  have e : (kvs.map fun p => kyT p.1) = (kvs.map fun p => kyS p.1).map .str := by
    rw [List.map_map]
    refine List.map_congr_left fun p hp => ?_
    obtain ⟨k, e⟩ := hs p hp
    simp [e, kyT, kyS]
  have e2 : allStr ((kvs.map fun p => kyS p.1).map .str) = some (kvs.map fun p => kyS p.1) := by
    have := allStr_map (fun x : List Nat => x) (kvs.map fun p => kyS p.1)
    rwa [List.map_id'] at this
  rw [e]
  unfold sortT keysS
  cases kvs with
  | nil => simp [allInt]
  | cons p r =>
    have e3 : allInt (((p :: r).map fun p => kyS p.1).map .str) = none := by simp [allInt]
    rw [e3, e2]
theorem le_sum_f {α : Type} (f : α → Nat) : ∀ {l : List α} {x : α}, x ∈ l → f x ≤ (l.map f).sum
  | a :: l, x, h => by
    rw [List.map_cons, List.sum_cons]
    rcases List.mem_cons.mp h with h | h
    · rw [h]; omega
    · have := le_sum_f f h
      omega
theorem sum_mono {α : Type} {f g : α → Nat} : ∀ {l : List α}, (∀ x ∈ l, f x ≤ g x) → (l.map f).sum ≤ (l.map g).sum
  | [], _ => Nat.le_refl _
  | a :: l, h => by
    have := sum_mono (l := l) fun x hx => h x (List.mem_cons_of_mem _ hx)
    have := h a List.mem_cons_self
    simp only [List.map_cons, List.sum_cons]
    omega
theorem sum_add {α : Type} (f : α → Nat) (c : Nat) : ∀ l : List α, (l.map fun x => f x + c).sum = (l.map f).sum + l.length * c
  | [] => by simp
  | a :: l => by
    have := sum_add f c l
    simp only [List.map_cons, List.sum_cons, List.length_cons, Nat.succ_mul]
    omega
theorem rangeL_mem : ∀ {n : Nat} {a : Int} {u : U}, u ∈ rangeL a n → ∃ k : Nat, k < n ∧ u = .v (.int (a + k))
  | 0, a, u, h => by simp [rangeL] at h
  | n + 1, a, u, h => by
    rw [rangeL] at h
    rcases List.mem_cons.mp h with h | h
    · exact ⟨0, by omega, by rw [h]; simp⟩
    · obtain ⟨k, hk, e⟩ := rangeL_mem h
      exact ⟨k + 1, by omega, by rw [e]; congr 2; push_cast; omega⟩
theorem allBl_true : ∀ {l : List T}, (∀ x ∈ l, x = .bl true) → primT .all [.lst l] = some (.bl true)
  | l, h => by
    have e : l = l.map fun _ => .bl true := by
      have : l.map (fun x => x) = l.map fun _ => .bl true := List.map_congr_left fun x hx => h x hx
      rwa [List.map_id'] at this
    rw [e]
    have := allBl_map (fun _ : T => true) l
    simp only [primT, this, Option.map_some]
    congr 2
    simp
theorem kyS_mem {kvs : List (Ky × T)} (nd : (kvs.map (·.1)).Nodup) (hs : ∀ p ∈ kvs, ∃ k, p.1 = .s k) {p : Ky × T} (hp : p ∈ kvs) : kyS p.1 ∈ keysS kvs ∧ valS kvs (kyS p.1) = p.2 := by
  have e2 : p.1 = .s (kyS p.1) := by
    obtain ⟨k, e⟩ := hs p hp
    rw [e]; rfl
  refine ⟨(List.mergeSort_perm _ _).mem_iff.mpr (List.mem_map.mpr ⟨p, hp, rfl⟩), ?_⟩
  rw [valS, ← e2, kget_nodup nd p hp]
  rfl
end Cab

set_option linter.all false
set_option maxRecDepth 100000
namespace Cab
/-! The order of things: by ranks (tuples), and by a comparing of one's own. -/
/-- a thing that is ordered: how deep, how long -/
def Wo : Nat → T → Prop
  | _, .str x => x.length ≤ LIM
  | _, .tup _ => False
  | 0, .lst _ => False
  | 0, .dct _ => False
  | d + 1, .lst xs => xs.length ≤ 1000 ∧ ∀ x ∈ xs, Wo d x
  | d + 1, .dct kvs => ((kvs.map (·.1)).Nodup ∧ kvs.length < 64 ∧ ∀ p ∈ kvs, ∃ k, p.1 = .s k ∧ k.length ≤ KW) ∧ ∀ p ∈ kvs, Wo d p.2
  | _, _ => True
theorem Wo.ks {d : Nat} {kvs : List (Ky × T)} (h : Wo (d + 1) (.dct kvs)) : ∀ p ∈ kvs, ∃ k, p.1 = .s k := fun p hp => by
  obtain ⟨k, e, _⟩ := h.1.2.2 p hp
  exact ⟨k, e⟩
theorem Wo.th : ∀ {d : Nat} {t : T}, Wo d t → Th d t
  | 0, t, h => by cases t <;> first | exact h | trivial | exact h.elim
  | d + 1, t, h => by
    cases t with
    | lst xs => exact fun x hx => (h.2 x hx).th
    | dct kvs => exact ⟨⟨h.1.1, fun p hp => by
        obtain ⟨k, e, hk⟩ := h.1.2.2 p hp
        rw [e]
        exact hk⟩, fun p hp => (h.2 p hp).th⟩
    | str x => exact h
    | tup xs => exact h.elim
    | _ => trivial
def fitsO : Nat → A → Bool
  | n, .or a b => fitsO n a && fitsO n b
  | n + 1, .lst _ hi a => decide (hi ≤ 1000) && fitsO n a
  | n + 1, .dct s _ hi a => s && decide (hi < 64) && fitsO n a
  | 0, .lst _ _ _ => false
  | 0, .dct _ _ _ _ => false
  | _, .str _ hi => decide (hi ≤ LIM)
  | _, .scr => false
  | _, .tup _ => false
  | n, .any d p => decide (d ≤ n) && decide (p.m ≤ LIM) && decide (p.l ≤ 1000) && decide (p.k < 64)
  | _, _ => true
theorem dp_wo {p : Pm} (hm : p.m ≤ LIM) (hl : p.l ≤ 1000) (hk : p.k < 64) : ∀ {d n : Nat} {t : T}, d ≤ n → Dp p d t → Wo n t
  | d, n, .non, _, _ => by cases n <;> trivial
  | d, n, .bl _, _, _ => by cases n <;> trivial
  | d, n, .int _, _, _ => by cases n <;> trivial
  | d, n, .str x, _, g => by
    have g : x.length ≤ p.m := by cases d <;> exact g
    cases n <;> exact Nat.le_trans g hm
  | d, n, .tup _, _, g => by cases d <;> exact g.elim
  | 0, n, .lst _, _, g => g.elim
  | 0, n, .dct _, _, g => g.elim
  | d + 1, 0, .lst _, l, g => by omega
  | d + 1, 0, .dct _, l, g => by omega
  | d + 1, n + 1, .lst xs, l, g => ⟨Nat.le_trans g.1 hl, fun x hx => dp_wo hm hl hk (by omega) (g.2 x hx)⟩
  | d + 1, n + 1, .dct xs, l, g => ⟨⟨g.2.1, Nat.lt_of_le_of_lt g.1 hk, fun q hq => by
      have := (g.2.2 q hq).1
      cases e : q.1 with
      | s k => rw [e] at this; exact ⟨k, rfl, this⟩
      | i k => rw [e] at this; cases (show true = false from this)⟩, fun q hq => dp_wo hm hl hk (by omega) (g.2.2 q hq).2⟩
theorem fitsO_ok {ns : List Int} {a : A} : ∀ {n : Nat} {t : T}, fitsO n a = true → γ ns a t → Wo n t := by
  induction a using A.rec (motive_2 := fun _ => True) with
  | bot => intro n t _ g; exact g.elim
  | or a b iha ihb =>
    intro n t h g
    have h : (fitsO n a && fitsO n b) = true := by cases n <;> exact h
    rw [Bool.and_eq_true] at h
    rcases g with g | g
    · exact iha h.1 g
    · exact ihb h.2 g
  | scr => intro n t h; cases n <;> cases h
  | tup _ => intro n t h; cases n <;> cases h
  | non => intro n t _ g; cases (show t = _ from g); cases n <;> trivial
  | bl b => intro n t _ g; cases (show t = _ from g); cases n <;> trivial
  | int lo hi => intro n t _ ⟨i, e, _⟩; subst e; cases n <;> trivial
  | str lo hi =>
    intro n t h ⟨i, e, _, h2⟩
    subst e
    have h : decide (hi ≤ LIM) = true := by cases n <;> exact h
    have := Nat.le_trans h2 (of_decide_eq_true h)
    cases n <;> exact this
  | lst lo hi a ih =>
    intro n t h g
    obtain ⟨xs, rfl, _, l, g⟩ := g
    cases n with
    | zero => cases h
    | succ n =>
      have h : (decide (hi ≤ 1000) && fitsO n a) = true := h
      rw [Bool.and_eq_true, decide_eq_true_eq] at h
      exact ⟨Nat.le_trans l h.1, fun x hx => ih h.2 (g x hx)⟩
  | dct s lo hi a ih =>
    intro n t h g
    obtain ⟨xs, rfl, _, l, nd, g⟩ := g
    cases n with
    | zero => cases h
    | succ n =>
      have h : (s && decide (hi < 64) && fitsO n a) = true := h
      simp only [Bool.and_eq_true, decide_eq_true_eq] at h
      obtain ⟨⟨rfl, h2⟩, h3⟩ := h
      refine ⟨⟨nd, by omega, fun p hp => ?_⟩, fun p hp => ih h3 (g p hp).2⟩
      have := (g p hp).1
      cases e : p.1 with
      | s k =>
        rw [e] at this
        exact ⟨k, rfl, this⟩
      | i k =>
        rw [e] at this
        cases (show true = false from this)
  | any d p =>
    intro n t h g
    have h : (decide (d ≤ n) && decide (p.m ≤ LIM) && decide (p.l ≤ 1000) && decide (p.k < 64)) = true := by cases n <;> exact h
    simp only [Bool.and_eq_true, decide_eq_true_eq] at h
    exact dp_wo h.1.1.2 h.1.2 h.2 h.1.1.1 g
  | nil => trivial
  | cons => trivial
/-! ### comparing -/
def sg (a b : Bool) : Int := b2i a - b2i b
def cmpL {α : Type} (f : α → α → Int) : List α → List α → Int
  | [], [] => 0
  | [], _ :: _ => -1
  | _ :: _, [] => 1
  | x :: xs, y :: ys => if f x y = 0 then cmpL f xs ys else f x y
def knd : T → Int
  | .non => 0
  | .bl _ => 1
  | .int _ => 2
  | .str _ => 3
  | .lst _ => 4
  | .dct _ => 5
  | .tup _ => 6
/-- a record's pairs, as lists -/
def prsL (kvs : List (Ky × T)) : List T := (keysS kvs).map fun k => .lst [.str k, valS kvs k]
def itsL : T → List T
  | .lst xs => xs
  | _ => []
def cmpN : Nat → T → T → Int
  | _, .non, .non => 0
  | _, .bl x, .bl y => sg (x && !y) (!x && y)
  | _, .int i, .int j => sg (decide (j < i)) (decide (i < j))
  | _, .str x, .str y => sg (strLt y x) (strLt x y)
  | d + 1, .lst xs, .lst ys => cmpL (cmpN d) xs ys
  | d + 1, .dct xs, .dct ys => cmpL (fun p q => cmpL (cmpN d) (itsL p) (itsL q)) (prsL xs) (prsL ys)
  | _, a, b => sg (decide (knd b < knd a)) (decide (knd a < knd b))
def rk : Nat → T → T
  | _, .non => .tup [.int 0]
  | _, .bl b => .tup [.int 1, .int (b2i b)]
  | _, .int i => .tup [.int 2, .int i]
  | _, .str x => .tup [.int 3, .str x]
  | d + 1, .lst xs => .tup [.int 4, .tup (xs.map (rk d))]
  | d + 1, .dct kvs => .tup [.int 5, .tup ((keysS kvs).map fun k => .tup [.str k, rk d (valS kvs k)])]
  | _, _ => .tup [.int 6]
theorem nd_mono {n m : Nat} {t : T} (h : nodct n t = true) (hm : n ≤ m) : nodct m t = true := by
  obtain ⟨k, rfl⟩ : ∃ k, m = n + k := ⟨m - n, by omega⟩
  clear hm
  induction k with
  | zero => exact h
  | succ k ih => exact nd_up _ ih
theorem rk_nd : ∀ (d : Nat) {t : T} {n : Nat}, Wo d t → 3 * d + 1 ≤ n → nodct n (rk d t) = true := by
  have sc : ∀ {n : Nat} {t : T}, isScalar t = true → nodct n t = true := by
    intro n t h
    cases n with
    | zero => exact h
    | succ n => cases t <;> first | rfl | (simp [isScalar] at h; done)
  intro d
  induction d with
  | zero =>
    intro t n h hn
    obtain ⟨n, rfl⟩ : ∃ k, n = k + 1 := ⟨n - 1, by omega⟩
    cases t <;> first | exact h.elim | (simp only [rk, nodct, List.all_cons, List.all_nil, Bool.and_true, Bool.and_eq_true]; first | exact sc rfl | exact ⟨sc rfl, sc rfl⟩)
  | succ d ih =>
    intro t n h hn
    obtain ⟨n, rfl⟩ : ∃ k, n = k + 3 := ⟨n - 3, by omega⟩
    cases t with
    | lst xs =>
      simp only [rk, nodct, List.all_cons, List.all_nil, Bool.and_true, Bool.true_and, List.all_map, List.all_eq_true]
      exact fun x hx => ih (h.2 x hx) (by omega)
    | dct kvs =>
      simp only [rk, nodct, List.all_cons, List.all_nil, Bool.and_true, Bool.true_and, List.all_map, List.all_eq_true]
      intro k hk
      obtain ⟨p, hp, _, _, e⟩ := valS_mem h.1.1 h.ks hk
      simp only [Function.comp, nodct, List.all_cons, List.all_nil, Bool.and_true, Bool.and_eq_true]
      exact ⟨sc rfl, by rw [e]; exact ih (h.2 p hp) (by omega)⟩
    | tup xs => exact h.elim
    | _ => simp [rk, nodct]
/-- two data compare as c says -/
structure Cm (n : Nat) (s t : T) (c : Int) : Prop where
  ok : ltOk n s t = true
  eq : pyEq s t = decide (c = 0)
  lt : tupLt s t = decide (c < 0)
theorem zipAll_nd {n : Nat} : ∀ {xs ys : List T}, (∀ x ∈ xs, nodct n x = true) → (∀ x ∈ ys, nodct n x = true) → zipAll (eqOk n) xs ys = true
  | [], ys, _, _ => by cases ys <;> rfl
  | _ :: _, [], _, _ => rfl
  | x :: xs, y :: ys, h, k => by
    simp only [zipAll, eqOk_nd n (h x List.mem_cons_self) (k y List.mem_cons_self), zipAll_nd (fun z hz => h z (List.mem_cons_of_mem _ hz)) (fun z hz => k z (List.mem_cons_of_mem _ hz)), Bool.and_self]
structure CmL (n : Nat) (s t : List T) (c : Int) : Prop where
  ok : firstOk (ltOk n) s t = true
  eq : eqL s t = decide (c = 0)
  lt : tupsLt s t = decide (c < 0)
theorem cmL_nil {n : Nat} : CmL n [] [] 0 := ⟨rfl, by simp [eqL], by simp [tupsLt]⟩
theorem cmL_l {n : Nat} {y : T} {ys : List T} : CmL n [] (y :: ys) (-1) := ⟨rfl, by simp [eqL], by simp [tupsLt]⟩
theorem cmL_r {n : Nat} {y : T} {ys : List T} : CmL n (y :: ys) [] 1 := ⟨rfl, by simp [eqL], by simp [tupsLt]⟩
theorem cmL_cons {n : Nat} {x y : T} {xs ys : List T} {c e : Int} (h : Cm n x y c) (k : CmL n xs ys e) : CmL n (x :: xs) (y :: ys) (if c = 0 then e else c) := by
  have h2 := h.eq
  have h3 := h.lt
  by_cases hc : c = 0
  · rw [decide_eq_true hc] at h2
    rw [if_pos hc]
    exact ⟨by rw [firstOk, h2]; exact k.ok, by rw [eqL, h2, Bool.true_and]; exact k.eq, by rw [tupsLt, h2]; exact k.lt⟩
  · rw [decide_eq_false hc] at h2
    rw [if_neg hc]
    exact ⟨by rw [firstOk, h2]; exact h.ok, by rw [eqL, h2, Bool.false_and, decide_eq_false hc], by rw [tupsLt, h2]; exact h3⟩
theorem cm_of {n : Nat} {s t : List T} {c : Int} (h : CmL n s t c) (h1 : ∀ x ∈ s, nodct n x = true) (h2 : ∀ x ∈ t, nodct n x = true) : Cm (n + 1) (.tup s) (.tup t) c :=
  ⟨by rw [ltOk, h.ok, Bool.and_true]; exact zipAll_nd h1 h2, by rw [pyEq]; exact h.eq, by rw [tupLt]; exact h.lt⟩
theorem cm_lists {α : Type} {n : Nat} (g h : α → T) (f : α → α → Int) : ∀ {xs ys : List α}, (∀ x ∈ xs, ∀ y ∈ ys, Cm n (g x) (h y) (f x y)) → CmL n (xs.map g) (ys.map h) (cmpL f xs ys)
  | [], [], _ => cmL_nil
  | [], y :: ys, _ => cmL_l
  | x :: xs, [], _ => cmL_r
  | x :: xs, y :: ys, k => cmL_cons (k x List.mem_cons_self y List.mem_cons_self) (cm_lists g h f fun a ha b hb => k a (List.mem_cons_of_mem _ ha) b (List.mem_cons_of_mem _ hb))
theorem cm_int (n : Nat) (i j : Int) : Cm n (.int i) (.int j) (sg (decide (j < i)) (decide (i < j))) := by
  refine ⟨by cases n <;> rfl, ?_, ?_⟩
  · rw [pyEq, Bool.eq_iff_iff]
    simp only [beq_iff_eq, decide_eq_true_eq, sg]
    by_cases a : i < j <;> by_cases b : j < i <;> simp [a, b, b2i] <;> omega
  · rw [tupLt, Bool.eq_iff_iff]
    simp only [decide_eq_true_eq, sg]
    by_cases a : i < j <;> by_cases b : j < i <;> simp [a, b, b2i] <;> omega
theorem strLt_irr : ∀ x : List Nat, strLt x x = false
  | [] => rfl
  | a :: x => by rw [strLt, if_pos rfl]; exact strLt_irr x
theorem strLt_tri : ∀ x y : List Nat, (strLt x y = true ∧ strLt y x = false ∧ x ≠ y) ∨ (strLt x y = false ∧ strLt y x = true ∧ x ≠ y) ∨ (strLt x y = false ∧ strLt y x = false ∧ x = y)
  | [], [] => .inr (.inr ⟨rfl, rfl, rfl⟩)
  | [], b :: y => .inl ⟨rfl, rfl, by simp⟩
  | a :: x, [] => .inr (.inl ⟨rfl, rfl, by simp⟩)
  | a :: x, b :: y => by
    by_cases e : a = b
    · subst e
      have ih := strLt_tri x y
      simp only [strLt, if_true, ne_eq, List.cons.injEq, true_and]
      exact ih
    · have e2 : ¬ b = a := fun z => e z.symm
      simp only [strLt, if_neg e, if_neg e2]
      rcases Nat.lt_or_ge a b with h | h
      · exact .inl ⟨by simpa using h, by simp; omega, by simp [e]⟩
      · exact .inr (.inl ⟨by simp; omega, by simp; omega, by simp [e]⟩)
theorem cm_str (n : Nat) (x y : List Nat) : Cm n (.str x) (.str y) (sg (strLt y x) (strLt x y)) := by
  have e : pyEq (.str x) (.str y) = decide (x = y) := by
    rw [pyEq, Bool.eq_iff_iff]
    simp
  refine ⟨by cases n <;> rfl, ?_, ?_⟩
  · rw [e]
    rcases strLt_tri x y with ⟨h1, h2, h3⟩ | ⟨h1, h2, h3⟩ | ⟨h1, h2, h3⟩ <;> simp [h1, h2, h3, sg, b2i]
  · rw [tupLt]
    rcases strLt_tri x y with ⟨h1, h2, h3⟩ | ⟨h1, h2, h3⟩ | ⟨h1, h2, h3⟩ <;> simp [h1, h2, sg, b2i]
/-- behind the same number -/
theorem cm_same {n : Nat} {i : Int} {s t : T} {c : Int} (h : Cm n s t c) (h1 : nodct n s = true) (h2 : nodct n t = true) : Cm (n + 1) (.tup [.int i, s]) (.tup [.int i, t]) c := by
  have z : nodct n (.int i) = true := by cases n <;> rfl
  have all : ∀ {x : T}, nodct n x = true → ∀ y ∈ [T.int i, x], nodct n y = true := by
    intro x hx y hy
    rcases List.mem_cons.mp hy with e | hy
    · rw [e]; exact z
    · rw [List.mem_singleton.mp hy]; exact hx
  have := cm_of (cmL_cons (cm_int n i i) (cmL_cons h cmL_nil)) (all h1) (all h2)
  have e : (if sg (decide (i < i)) (decide (i < i)) = 0 then (if c = 0 then 0 else c) else sg (decide (i < i)) (decide (i < i))) = c := by
    have : sg (decide (i < i)) (decide (i < i)) = 0 := by simp [sg]
    rw [if_pos this]
    split <;> simp_all
  rw [e] at this
  exact this
/-- by the number ahead -/
theorem cm_diff {n : Nat} {i j : Int} {r r' : List T} (hne : i ≠ j) (h1 : ∀ x ∈ r, nodct n x = true) (h2 : ∀ x ∈ r', nodct n x = true) : Cm (n + 1) (.tup (.int i :: r)) (.tup (.int j :: r')) (sg (decide (j < i)) (decide (i < j))) := by
  have c := cm_int n i j
  have e : pyEq (.int i) (.int j) = false := by simp [pyEq, hne]
  have z : ∀ k : Int, nodct n (.int k) = true := fun k => by cases n <;> rfl
  refine cm_of ⟨?_, ?_, ?_⟩ (fun x hx => ?_) fun x hx => ?_
  · rw [firstOk, e]
    exact c.ok
  · rw [eqL, e, Bool.false_and, ← c.eq, e]
  · rw [tupsLt, e]
    exact c.lt
  · rcases List.mem_cons.mp hx with e | hx
    · rw [e]; exact z _
    · exact h1 x hx
  · rcases List.mem_cons.mp hx with e | hx
    · rw [e]; exact z _
    · exact h2 x hx
/-- what stands behind a rank's number -/
def rkT : T → List T
  | .tup (_ :: r) => r
  | _ => []
theorem rk_head {d : Nat} {t : T} (h : Wo d t) : rk d t = .tup (.int (knd t) :: rkT (rk d t)) := by
  cases d <;> cases t <;> first | rfl | exact h.elim
theorem rk_rest {d n : Nat} {t : T} (h : Wo d t) (hn : 3 * d + 1 ≤ n + 1) : ∀ x ∈ rkT (rk d t), nodct n x = true := by
  have := rk_nd d (n := n + 1) h hn
  rw [rk_head h] at this
  simp only [nodct, List.all_cons, Bool.and_eq_true, List.all_eq_true] at this
  exact this.2
theorem cmp_diff {d : Nat} {a b : T} (h : knd a ≠ knd b) : cmpN d a b = sg (decide (knd b < knd a)) (decide (knd a < knd b)) := by
  cases d <;> cases a <;> cases b <;> first | rfl | exact absurd rfl h
/-- ranks stand as the things do -/
theorem cm_rk : ∀ (d : Nat) {a b : T} {n : Nat}, Wo d a → Wo d b → 3 * d + 1 ≤ n → Cm n (rk d a) (rk d b) (cmpN d a b) := by
  have sc : ∀ {n : Nat} {t : T}, isScalar t = true → nodct n t = true := by
    intro n t h
    cases n with
    | zero => exact h
    | succ n => cases t <;> first | rfl | (simp [isScalar] at h; done)
  intro d
  induction d with
  | zero =>
    intro a b n ha hb hn
    obtain ⟨n, rfl⟩ : ∃ k, n = k + 1 := ⟨n - 1, by omega⟩
    by_cases hk : knd a = knd b
    · cases a <;> cases b <;> first | exact ha.elim | (simp [knd] at hk; done) | skip
      · exact ⟨by simp [rk, ltOk, zipAll, firstOk, eqOk_nd n (sc (t := .int 0) rfl) (sc (t := .int 0) rfl)], by simp [rk, pyEq, eqL, cmpN], by simp [rk, tupLt, tupsLt, pyEq, cmpN]⟩
      · rename_i x y
        have := cm_same (i := 1) (cm_int n (b2i x) (b2i y)) (sc rfl) (sc rfl)
        cases x <;> cases y <;> exact this
      · exact cm_same (cm_int n _ _) (sc rfl) (sc rfl)
      · exact cm_same (cm_str n _ _) (sc rfl) (sc rfl)
    · rw [rk_head ha, rk_head hb, cmp_diff hk]
      exact cm_diff hk (rk_rest ha hn) (rk_rest hb hn)
  | succ d ih =>
    intro a b n ha hb hn
    obtain ⟨n, rfl⟩ : ∃ k, n = k + 3 := ⟨n - 3, by omega⟩
    by_cases hk : knd a = knd b
    · cases a <;> cases b <;> first | exact ha.elim | (simp [knd] at hk; done) | skip
      · exact ⟨by simp [rk, ltOk, zipAll, firstOk, eqOk_nd (n + 2) (sc (t := .int 0) rfl) (sc (t := .int 0) rfl)], by simp [rk, pyEq, eqL, cmpN], by simp [rk, tupLt, tupsLt, pyEq, cmpN]⟩
      · rename_i x y
        have := cm_same (i := 1) (cm_int (n + 2) (b2i x) (b2i y)) (sc rfl) (sc rfl)
        cases x <;> cases y <;> exact this
      · exact cm_same (cm_int (n + 2) _ _) (sc rfl) (sc rfl)
      · exact cm_same (cm_str (n + 2) _ _) (sc rfl) (sc rfl)
      · rename_i xs ys
        have c := cm_of (cm_lists (n := n + 1) (rk d) (rk d) (cmpN d) (xs := xs) (ys := ys) (fun x hx y hy => ih (ha.2 x hx) (hb.2 y hy) (by omega))) (fun x hx => by
          obtain ⟨y, hy, rfl⟩ := List.mem_map.mp hx
          exact rk_nd d (ha.2 y hy) (by omega)) fun x hx => by
          obtain ⟨y, hy, rfl⟩ := List.mem_map.mp hx
          exact rk_nd d (hb.2 y hy) (by omega)
        have n1 := rk_rest (n := n + 2) ha (by omega) (.tup (xs.map (rk d))) (by simp [rk, rkT])
        have n2 := rk_rest (n := n + 2) hb (by omega) (.tup (ys.map (rk d))) (by simp [rk, rkT])
        exact cm_same c n1 n2
      · rename_i xs ys
        have one : ∀ {kvs : List (Ky × T)}, Wo (d + 1) (.dct kvs) → ∀ k ∈ keysS kvs, Wo d (valS kvs k) := by
          intro kvs h k hk
          obtain ⟨p, hp, _, _, e⟩ := valS_mem h.1.1 h.ks hk
          rw [e]
          exact h.2 p hp
        have pr : ∀ k ∈ keysS xs, ∀ k' ∈ keysS ys, Cm (n + 1) (.tup [.str k, rk d (valS xs k)]) (.tup [.str k', rk d (valS ys k')]) (cmpL (cmpN d) [.str k, valS xs k] [.str k', valS ys k']) := by
          intro k hk k' hk'
          have m1 := rk_nd d (n := n) (one ha k hk) (by omega)
          have m2 := rk_nd d (n := n) (one hb k' hk') (by omega)
          have all : ∀ {w : List Nat} {x : T}, nodct n x = true → ∀ y ∈ [T.str w, x], nodct n y = true := by
            intro w x hx y hy
            rcases List.mem_cons.mp hy with e | hy
            · rw [e]; exact sc rfl
            · rw [List.mem_singleton.mp hy]; exact hx
          have s1 : cmpN d (.str k) (.str k') = sg (strLt k' k) (strLt k k') := by cases d <;> rfl
          have := cm_of (cmL_cons (cm_str n k k') (cmL_cons (ih (n := n) (one ha k hk) (one hb k' hk') (by omega)) cmL_nil)) (all m1) (all m2)
          simp only [cmpL, s1]
          exact this
        have key : ∀ (l l' : List (List Nat)), (∀ k ∈ l, ∀ k' ∈ l', Cm (n + 1) (.tup [.str k, rk d (valS xs k)]) (.tup [.str k', rk d (valS ys k')]) (cmpL (cmpN d) [.str k, valS xs k] [.str k', valS ys k'])) → CmL (n + 1) (l.map fun k => .tup [.str k, rk d (valS xs k)]) (l'.map fun k => .tup [.str k, rk d (valS ys k)]) (cmpL (fun p q => cmpL (cmpN d) (itsL p) (itsL q)) (l.map fun k => .lst [.str k, valS xs k]) (l'.map fun k => .lst [.str k, valS ys k])) := by
          intro l
          induction l with
          | nil =>
            intro l' _
            cases l' with
            | nil => exact cmL_nil
            | cons k' l' => exact cmL_l
          | cons k l il =>
            intro l' h
            cases l' with
            | nil => exact cmL_r
            | cons k' l' => exact cmL_cons (h k List.mem_cons_self k' List.mem_cons_self) (il l' fun z hz z' hz' => h z (List.mem_cons_of_mem _ hz) z' (List.mem_cons_of_mem _ hz'))
        have g := key (keysS xs) (keysS ys) pr
        have n1 := rk_rest (n := n + 2) ha (by omega) _ (show T.tup ((keysS xs).map fun k => .tup [.str k, rk d (valS xs k)]) ∈ rkT (rk (d + 1) (.dct xs)) by simp [rk, rkT])
        have n2 := rk_rest (n := n + 2) hb (by omega) _ (show T.tup ((keysS ys).map fun k => .tup [.str k, rk d (valS ys k)]) ∈ rkT (rk (d + 1) (.dct ys)) by simp [rk, rkT])
        have m1 : ∀ {t}, nodct (n + 2) t = true → ∀ l, t = .tup l → ∀ x ∈ l, nodct (n + 1) x = true := by
          intro t h l e
          subst e
          simp only [nodct, List.all_eq_true] at h
          exact h
        exact cm_same (cm_of g (m1 n1 _ rfl) (m1 n2 _ rfl)) n1 n2
    · rw [rk_head ha, rk_head hb, cmp_diff hk]
      exact cm_diff hk (rk_rest ha (by omega)) (rk_rest hb (by omega))
end Cab

set_option linter.all false
set_option maxRecDepth 100000
set_option maxHeartbeats 1000000
namespace Cab
/-! Kinds, held copies, ranks, the order asked: for the laws of order. -/
def kindW : T → T
  | .non => .str [110, 111, 116, 104, 105, 110, 103]
  | .bl _ => .str [116, 114, 117, 116, 104]
  | .int _ => .str [110, 117, 109, 98, 101, 114]
  | .str _ => .str [116, 101, 120, 116]
  | .lst _ => .str [114, 111, 119]
  | .dct _ => .str [114, 101, 99, 111, 114, 100]
  | .tup _ => .non
theorem lim_of {n : Nat} (h : n ≤ 1000) : n ≤ LIM := by
  show n ≤ 16777216
  omega
theorem lim_64 {n : Nat} (h : n < 64) : n ≤ LIM := by
  show n ≤ 16777216
  omega
theorem allPairW (kvs : List (Ky × T)) : allPair (kvs.map fun p => .tup [kyT p.1, p.2]) = some kvs := by
  induction kvs with
  | nil => rfl
  | cons p r ih =>
    unfold allPair at ih ⊢
    simp only [List.map_cons, optAll_cons, ih, tKy_ky, Option.map_some]
theorem kputW {α : Type} {k : Ky} {a : α} : ∀ {l : List (Ky × α)}, k ∉ l.map (·.1) → kput k a l = l ++ [(k, a)]
  | [], _ => rfl
  | p :: r, h => by
    rw [List.map_cons, List.mem_cons, not_or] at h
    unfold kput
    rw [if_neg fun e => h.1 e.symm, kputW h.2]
    rfl
theorem mergeW {α : Type} : ∀ {ps acc : List (Ky × α)}, ((acc ++ ps).map (·.1)).Nodup → merge acc ps = acc ++ ps
  | [], acc, _ => by simp [merge]
  | p :: ps, acc, h => by
    have h1 : p.1 ∉ acc.map (·.1) := by
      rw [List.map_append, List.map_cons, List.nodup_append] at h
      intro z
      exact h.2.2 _ z _ List.mem_cons_self rfl
    simp only [merge]
    rw [kputW h1, mergeW (by simpa using h)]
    simp
section
variable {G : Glo} {D : Tbl} {W n : Nat}
theorem ans_kindW (hD : D 13 = some F_13) (t : T) : Ans (callF G D W (n + 1)) 13 [t] (kindW t) := by
  refine ans_fn [some (.v t)] hD rfl rfl ?_
  cases t <;> simp [F_13, exB, exS, R.toS, WS, cmpT, isKd, kindW, view_v1]
theorem ans_heldW (h24 : D 24 = some F_24) : ∀ (d : Nat) {t : T} {n : Nat}, Wo d t → d + 1 ≤ n → Ans (callF G D W n) 24 [t] t
  | d, t, 0, _, hn => by omega
  | d, t, n + 1, h, hn => by
    refine ans_fn [some (.v t), none, none] h24 rfl rfl ?_
    cases t with
    | lst xs =>
      cases d with
      | zero => exact h.elim
      | succ d =>
        have e := ev_lc_v (G := G) (C := callF G D W n) (own := [1]) (tg := .one 1) (src := .it (.var 0)) (elt := .call .v 24 (.cons (.var 1) .nil)) (ρ := [some (.v (.lst xs)), none, none]) (s := []) xs (fun t => t) (by simp) (lim_of h.1) fun k hk => by
          refine ⟨_, rfl, ?_⟩
          have := callV1 [] (ans_heldW h24 d (h.2 k hk) (show d + 1 ≤ n by omega))
          simp [wipeE, this]
        rw [List.map_id'] at e
        simp [F_24, exB, exS, WS, isKd, view_v1, e]
    | dct kvs =>
      cases d with
      | zero => exact h.elim
      | succ d =>
        have e := ev_lc_v (G := G) (C := callF G D W n) (own := [2]) (tg := .one 2) (src := .it (.var 0)) (elt := .tupd (.cons (.var 2) (.cons (.call .v 24 (.cons (.idx (.var 0) (.var 2)) .nil)) .nil))) (ρ := [some (.v (.dct kvs)), none, none]) (s := []) (kvs.map fun p => kyT p.1) (fun t => .tup [t, ((tKy t).bind fun k => kget k kvs).getD .non]) (by simp) (by simpa using lim_64 h.1.2.1) fun k hk => by
          obtain ⟨p, hp, rfl⟩ := List.mem_map.mp hk
          refine ⟨_, rfl, ?_⟩
          have := callV1 [] (ans_heldW h24 d (h.2 p hp) (show d + 1 ≤ n by omega))
          simp [wipeE, kget_nodup h.1.1 p hp, this]
          decide
        have e2 : (kvs.map fun p => kyT p.1).map (fun t => T.tup [t, ((tKy t).bind fun k => kget k kvs).getD .non]) = kvs.map fun p => .tup [kyT p.1, p.2] := by
          rw [List.map_map]
          exact List.map_congr_left fun p hp => by simp [kget_nodup h.1.1 p hp]
        rw [e2] at e
        have e3 : merge [] kvs = kvs := mergeW (acc := []) (by simpa using h.1.1)
        simp [F_24, exB, exS, WS, isKd, view_v1, e, primT, allPairW, e3]
    | _ => simp [F_24, exB, exS, WS, isKd, view_v1]
theorem srt_dct {d : Nat} {kvs : List (Ky × T)} (h : Wo (d + 1) (.dct kvs)) : primT .sorted [.dct kvs] = some (.lst ((keysS kvs).map .str)) := by
  simp only [primT, if_pos h.1.2.1, sort_keys h.ks, Option.map_some]
theorem keys_lim {d : Nat} {kvs : List (Ky × T)} (h : Wo (d + 1) (.dct kvs)) : ((keysS kvs).map T.str).length ≤ LIM := by
  rw [List.length_map, keysS_len]
  exact lim_64 h.1.2.1
theorem ans_rankW (h45 : D 45 = some F_45) : ∀ (d : Nat) {t : T} {n : Nat}, Wo d t → d + 1 ≤ n → Ans (callF G D W n) 45 [t] (rk d t)
  | d, t, 0, _, hn => by omega
  | d, t, n + 1, h, hn => by
    refine ans_fn [some (.v t), none, none] h45 rfl rfl ?_
    have l1 : 1 ≤ LIM := by decide
    have l2 : 2 ≤ LIM := by decide
    cases t with
    | lst xs =>
      cases d with
      | zero => exact h.elim
      | succ d =>
        have e := ev_lc_v (G := G) (C := callF G D W n) (own := [2]) (tg := .one 2) (src := .it (.var 0)) (elt := .call .v 45 (.cons (.var 2) .nil)) (ρ := [some (.v (.lst xs)), none, none]) (s := []) xs (rk d) (by simp) (lim_of h.1) fun k hk => by
          refine ⟨_, rfl, ?_⟩
          have := callV1 [] (ans_rankW h45 d (h.2 k hk) (show d + 1 ≤ n by omega))
          simp [wipeE, this]
        simp [F_45, exB, exS, WS, isKd, view_v1, e, primT, rk, l2]
    | dct kvs =>
      cases d with
      | zero => exact h.elim
      | succ d =>
        have e := ev_lc_v (G := G) (C := callF G D W n) (own := [1]) (tg := .one 1) (src := .it (.prm .sorted (.cons (.var 0) .nil))) (elt := .tupd (.cons (.var 1) (.cons (.call .v 45 (.cons (.idx (.var 0) (.var 1)) .nil)) .nil))) (ρ := [some (.v (.dct kvs)), none, none]) (s := []) ((keysS kvs).map .str) (fun t => match t with
          | .str k => .tup [.str k, rk d (valS kvs k)]
          | _ => .non) (by simp [srt_dct h]) (keys_lim h) fun t ht => by
          obtain ⟨k', hk, rfl⟩ := List.mem_map.mp ht
          obtain ⟨p, hp, e1, e2, e3⟩ := valS_mem h.1.1 h.ks hk
          have := callV1 [] (ans_rankW h45 d (h.2 p hp) (show d + 1 ≤ n by omega))
          refine ⟨_, rfl, ?_⟩
          simp only [e3]
          simp [wipeE, e2, this, l2]
        rw [List.map_map] at e
        simp [F_45, exB, exS, WS, isKd, view_v1, e, primT, rk, l2] <;> rfl
    | tup xs => cases d <;> exact h.elim
    | non => cases d <;> simp [F_45, exB, exS, WS, isKd, view_v1, rk, l1]
    | bl b => cases d <;> simp [F_45, exB, exS, WS, isKd, view_v1, rk, l2, primT]
    | int i => cases d <;> simp [F_45, exB, exS, WS, isKd, view_v1, rk, l2]
    | str x => cases d <;> simp [F_45, exB, exS, WS, isKd, view_v1, rk, l2]
theorem cmp_ltW {d : Nat} {a b : T} (ha : Wo d a) (hb : Wo d b) (hd : 3 * d + 1 ≤ 60) : cmpT .lt (rk d a) (rk d b) = some (decide (cmpN d a b < 0)) := by
  have c := cm_rk d ha hb hd
  have h1 := c.ok
  have h2 := c.lt
  rw [rk_head ha, rk_head hb] at h1 h2 ⊢
  rw [tupLt] at h2
  simp only [cmpT, h1, if_true, h2]
theorem cmp_eqW {d : Nat} {a b : T} (ha : Wo d a) (hb : Wo d b) (hd : 3 * d + 1 ≤ 60) : cmpT .eq (rk d a) (rk d b) = some (decide (cmpN d a b = 0)) := by
  have c := cm_rk d ha hb hd
  have h1 := eqOk_nd (b := rk d b) 60 (rk_nd d ha hd) (rk_nd d hb hd)
  simp only [cmpT, h1, if_true, c.eq]
theorem ans_beforeW (h45 : D 45 = some F_45) (h46 : D 46 = some F_46) {d : Nat} {a b : T} (ha : Wo d a) (hb : Wo d b) (hd : 3 * d + 1 ≤ 60) (hn : d + 1 ≤ n) : Ans (callF G D W (n + 1)) 46 [a, b] (.bl (decide (cmpN d a b < 0))) := by
  refine ans_fn [some (.v a), some (.v b)] h46 rfl rfl ?_
  have c1 := callV1 [] (ans_rankW (G := G) (W := W) h45 d ha hn)
  have c2 := callV1 [] (ans_rankW (G := G) (W := W) h45 d hb hn)
  have c3 := cmp_ltW ha hb hd
  simp [F_46, exB, exS, WS, c1, c2, c3, view_v1]
end
theorem cmpL_self {α : Type} {f : α → α → Int} : ∀ {l : List α}, (∀ x ∈ l, f x x = 0) → cmpL f l l = 0
  | [], _ => rfl
  | x :: l, h => by
    rw [cmpL, if_pos (h x List.mem_cons_self)]
    exact cmpL_self fun y hy => h y (List.mem_cons_of_mem _ hy)
theorem cmpN_self : ∀ (d : Nat) (t : T), cmpN d t t = 0
  | 0, .non => rfl
  | 0, .bl b => by cases b <;> rfl
  | 0, .int i => by simp [cmpN, sg]
  | 0, .str x => by simp [cmpN, sg, strLt_irr]
  | 0, .lst _ => by simp [cmpN, sg]
  | 0, .dct _ => by simp [cmpN, sg]
  | 0, .tup _ => by simp [cmpN, sg]
  | d + 1, .non => rfl
  | d + 1, .bl b => by cases b <;> rfl
  | d + 1, .int i => by simp [cmpN, sg]
  | d + 1, .str x => by simp [cmpN, sg, strLt_irr]
  | d + 1, .lst xs => by
    simp only [cmpN]
    exact cmpL_self fun x _ => cmpN_self d x
  | d + 1, .dct xs => by
    simp only [cmpN]
    exact cmpL_self fun x _ => cmpL_self fun y _ => cmpN_self d y
  | d + 1, .tup _ => by simp [cmpN, sg]
end Cab

set_option linter.all false
set_option maxRecDepth 100000
set_option maxHeartbeats 1000000
set_option pp.maxSteps 1500
namespace Cab
theorem cmp_lts (x y : List Nat) : cmpT .lt (.str x) (.str y) = some (strLt x y) := rfl
theorem cmp_gts (x y : List Nat) : cmpT .gt (.str x) (.str y) = some (strLt y x) := rfl
theorem cmp_ltb (a b : Bool) : cmpT .lt (.bl a) (.bl b) = some (!a && b) := rfl
theorem cmp_gtb (a b : Bool) : cmpT .gt (.bl a) (.bl b) = some (a && !b) := rfl
def kdsW : List T := [.str [110, 111, 116, 104, 105, 110, 103], .str [116, 114, 117, 116, 104], .str [110, 117, 109, 98, 101, 114], .str [116, 101, 120, 116], .str [114, 111, 119], .str [114, 101, 99, 111, 114, 100]]
def isTup : T → Bool
  | .tup _ => true
  | _ => false
theorem Wo.nt {d : Nat} {t : T} (h : Wo d t) : isTup t = false := by
  cases t <;> first | rfl | (cases d <;> exact h.elim)
theorem ixW {t : T} (h : isTup t = false) : primT .index [.lst kdsW, kindW t] = some (.int (knd t)) := by
  cases t <;> first | (cases h; done) | simp [primT, kdsW, kindW, nodct, isScalar, firstIx, pyEq, knd]
theorem cmpL_end {α : Type} (f : α → α → Int) : ∀ (xs ys : List α), xs = [] ∨ ys = [] → cmpL f xs ys = sg (decide ((ys.length : Int) < xs.length)) (decide ((xs.length : Int) < ys.length))
  | [], [], _ => rfl
  | [], y :: ys, _ => by simp [cmpL, sg, b2i] <;> omega
  | x :: xs, [], _ => by simp [cmpL, sg, b2i] <;> omega
  | x :: xs, y :: ys, h => by simp at h
theorem cmpL_min {α : Type} (f : α → α → Int) (xs ys : List α) : cmpL f (xs.drop (min xs.length ys.length)) (ys.drop (min xs.length ys.length)) = sg (decide ((ys.length : Int) < xs.length)) (decide ((xs.length : Int) < ys.length)) := by
  rw [cmpL_end]
  · congr 1
    · congr 1
      simp only [List.length_drop, eq_iff_iff]
      omega
    · congr 1
      simp only [List.length_drop, eq_iff_iff]
      omega
  · rcases Nat.le_total xs.length ys.length with h | h
    · left
      rw [Nat.min_eq_left h, List.drop_length]
    · right
      rw [Nat.min_eq_right h, List.drop_length]
theorem prs_mem {d : Nat} {kvs : List (Ky × T)} (h : Wo (d + 1) (.dct kvs)) {p : T} (hp : p ∈ prsL kvs) : ∃ k v, p = .lst [.str k, v] ∧ Wo d (.str k) ∧ Wo d v := by
  obtain ⟨k, hk, rfl⟩ := List.mem_map.mp hp
  obtain ⟨q, hq, e1, _, e⟩ := valS_mem h.1.1 h.ks hk
  refine ⟨k, _, rfl, ?_, by rw [e]; exact h.2 q hq⟩
  obtain ⟨k', e2, l⟩ := h.1.2.2 q hq
  rw [e1] at e2
  cases e2
  have : k.length ≤ LIM := Nat.le_trans l (by decide)
  cases d <;> exact this
theorem prs_len (kvs : List (Ky × T)) : (prsL kvs).length = kvs.length := by rw [prsL, List.length_map, keysS_len]
section
variable {G : Glo} {D : Tbl} {W n : Nat}
theorem ev_min27 {C : Call} (xs ys : List T) (z w : Option U) : ev G C (.prm .min (.cons (.len (.var 0)) (.cons (.len (.var 1)) .nil))) [some (.v (.lst xs)), some (.v (.lst ys)), z, w] [] = .ok (.v (.int ((min xs.length ys.length : Nat) : Int))) [] := by
  simp only [ev_prm, evs_cons, ev_len, ev_var, List.getElem?_cons_zero, List.getElem?_cons_succ, bind_ok, lenU_lst, Option.map_some, okO_some, evs_nil, optAll_cons, asT_v, optAll_nil, primT_min]
theorem ans_rows27 (h27 : D 27 = some F_27) {xs ys : List T} (f : T → T → Int) (lx : xs.length ≤ 1000) (ly : ys.length ≤ 1000) (k : ∀ x ∈ xs, ∀ y ∈ ys, Ans (callF G D W n) 28 [x, y] (.int (f x y))) : Ans (callF G D W (n + 1)) 27 [.lst xs, .lst ys] (.int (cmpL f xs ys)) := by
  refine ans_fn [some (.v (.lst xs)), some (.v (.lst ys)), none, none] h27 rfl rfl ?_
  refine ws_cons ?_
  refine ws_for (xs := rangeL 0 (min xs.length ys.length)) (s' := []) (fun i ρ s => ∃ z w, ρ = [some (.v (.lst xs)), some (.v (.lst ys)), z, w] ∧ s = [] ∧ cmpL f (xs.drop i) (ys.drop i) = cmpL f xs ys) ?_ ⟨_, _, rfl, rfl, rfl⟩ ?_ ?_
  · exact src_rng1 _ (ev_min27 xs ys _ _) (by omega)
  · rintro i hi ρ s ⟨z, w, rfl, rfl, e⟩
    rw [rangeL_len] at hi
    refine ⟨_, by rw [rangeL_at]; simp only [bindT]; rfl, ?_⟩
    rw [Int.zero_add]
    have hx : i < xs.length := by omega
    have hy : i < ys.length := by omega
    have c := callV2 [] (k xs[i] (List.getElem_mem hx) ys[i] (List.getElem_mem hy))
    rw [List.drop_eq_getElem_cons hx, List.drop_eq_getElem_cons hy, cmpL] at e
    have a1 : atI xs (i : Int) = some xs[i] := by rw [atI_nat xs i i rfl, List.getElem?_eq_getElem hx]
    have a2 : atI ys (i : Int) = some ys[i] := by rw [atI_nat ys i i rfl, List.getElem?_eq_getElem hy]
    generalize xs[i] = x at c e a1
    generalize ys[i] = y at c e a2
    refine ws_cons (ws_set (u := .v (.int (f x y))) (s' := []) (by simp [a1, a2, c]) ?_)
    refine ws_cons (ws_if (!decide (f x y = 0)) (u := .v (.bl (!decide (f x y = 0)))) (s' := []) (by simp) rfl (fun z => ?_) fun z => ?_)
    · have z : ¬ f x y = 0 := by simpa using z
      rw [if_neg z] at e
      exact ws_cons (ws_ret (u := .v (.int (f x y))) (s' := []) (by simp) (by rw [← e]; exact view_v1 _ _ _))
    · have z : f x y = 0 := by simpa using z
      rw [if_pos z] at e
      exact ws_nil (ws_nil ⟨_, _, rfl, rfl, e⟩)
  · rintro ρ s ⟨z, w, rfl, rfl, e⟩
    rw [rangeL_len, cmpL_min] at e
    rw [← e]
    refine ws_cons (ws_ret (u := .v (.int (sg (decide ((ys.length : Int) < xs.length)) (decide ((xs.length : Int) < ys.length))))) (s' := []) ?_ (view_v1 _ _ _))
    simp [primT, sg]
def tl28 : Cab.B := bDrop 3 F_28.body
def env28 (a b : T) : Env := [some (.v a), some (.v b), some (.v (.lst kdsW)), some (.v (.int (knd a))), some (.v (.int (knd b))), none, none, none]
theorem ans_pre28 (h13 : D 13 = some F_13) (h28 : D 28 = some F_28) {a b t : T} (ha : isTup a = false) (hb : isTup b = false) (h : WS (exB G (callF G D W (n + 1)) W tl28 (env28 a b) []) NO (fun u s => view 64 s u = some t) NO NO) : Ans (callF G D W (n + 2)) 28 [a, b] t := by
  refine ans_fn [some (.v a), some (.v b), none, none, none, none, none, none] h28 rfl rfl ?_
  have c1 := callV1 [] (ans_kindW (G := G) (W := W) (n := n) h13 a)
  have c2 := callV1 [] (ans_kindW (G := G) (W := W) (n := n) h13 b)
  have i1 := ixW ha
  have i2 := ixW hb
  have l6 : 6 ≤ LIM := by decide
  have hk : ∀ us, headOk .index us (.v (.lst kdsW)) = true := fun _ => rfl
  have mk : ∀ us, metOk .index us = true := fun _ => rfl
  refine ws_cons (ws_set (u := .v (.lst kdsW)) (s' := []) (by simp [l6, kdsW]) ?_)
  refine ws_cons (ws_set (u := .v (.int (knd a))) (s' := []) (by simp [ev_meth, hk, mk, c1, i1]) ?_)
  refine ws_cons (ws_set (u := .v (.int (knd b))) (s' := []) (by simp [ev_meth, hk, mk, c2, i2]) ?_)
  exact h
theorem tl_ne {C : Call} {a b : T} (h : knd a ≠ knd b) : WS (exB G C W tl28 (env28 a b) []) NO (fun u s => view 64 s u = some (.int (sg (decide (knd b < knd a)) (decide (knd a < knd b))))) NO NO := by
  unfold tl28 F_28 env28
  simp only [bDrop]
  refine ws_cons (ws_if true (u := .v (.bl true)) (s' := []) (by simp [h]) rfl (fun _ => ?_) fun z => by cases z)
  exact ws_cons (ws_ret (u := .v (.int (sg (decide (knd b < knd a)) (decide (knd a < knd b))))) (s' := []) (by simp [primT, sg]) (view_v1 _ _ _))
theorem tl_sc {C : Call} {a b : T} {d : Nat} (h : knd a = knd b) (ha : isScalar a = true) (hb : isScalar b = true) : WS (exB G C W tl28 (env28 a b) []) NO (fun u s => view 64 s u = some (.int (cmpN d a b))) NO NO := by
  unfold tl28 F_28 env28
  simp only [bDrop]
  cases a <;> cases b <;> first | (simp [knd] at h; done) | (simp [isScalar] at ha; done) | skip
  · have e : cmpN d .non .non = 0 := by cases d <;> rfl
    rw [e]
    simp [exB, exS, WS, view_v1, knd]
  · rename_i x y
    have e : cmpN d (.bl x) (.bl y) = sg (x && !y) (!x && y) := by cases d <;> rfl
    rw [e]
    cases x <;> cases y <;> simp [exB, exS, WS, view_v1, knd, primT, sg, b2i, cmp_ltb, cmp_gtb]
  · rename_i x y
    have e : cmpN d (.int x) (.int y) = sg (decide (y < x)) (decide (x < y)) := by cases d <;> rfl
    rw [e]
    simp [exB, exS, WS, view_v1, knd, primT, sg]
  · rename_i x y
    have e : cmpN d (.str x) (.str y) = sg (strLt y x) (strLt x y) := by cases d <;> rfl
    rw [e]
    simp [exB, exS, WS, view_v1, knd, primT, sg, cmp_lts, cmp_gts]
theorem ans_row28 (h13 : D 13 = some F_13) (h28 : D 28 = some F_28) {xs ys : List T} {t : T} (h : Ans (callF G D W (n + 1)) 27 [.lst xs, .lst ys] t) : Ans (callF G D W (n + 2)) 28 [.lst xs, .lst ys] t := by
  refine ans_pre28 h13 h28 rfl rfl ?_
  have c := callV2 [] h
  unfold tl28 F_28 env28
  simp only [bDrop]
  simp [exB, exS, WS, view_v1, knd, c]
theorem ev_prs {C : Call} {ρ : Env} {d j : Nat} {kvs : List (Ky × T)} (h : Wo (d + 1) (.dct kvs)) (hj : ρ[j]? = some (some (.v (.dct kvs)))) (h7 : 7 < ρ.length) (hn : 7 ≠ j) : ev G C (.lc [7] (.one 7) (.it (.prm .sorted (.cons (.var j) .nil))) (.lstd (.cons (.var 7) (.cons (.idx (.var j) (.var 7)) .nil)))) ρ [] = .ok (.v (.lst (prsL kvs))) [] := by
  have l2 : 2 ≤ LIM := by decide
  have e := ev_lc_v (G := G) (C := C) (own := [7]) (tg := .one 7) (src := .it (.prm .sorted (.cons (.var j) .nil))) (elt := .lstd (.cons (.var 7) (.cons (.idx (.var j) (.var 7)) .nil))) (ρ := ρ) (s := []) ((keysS kvs).map .str) (fun t => match t with
    | .str k => .lst [.str k, valS kvs k]
    | _ => .non) (by simp [hj, srt_dct h]) (keys_lim h) fun t ht => by
    obtain ⟨k', hk, rfl⟩ := List.mem_map.mp ht
    obtain ⟨p, hp, e1, e2, e3⟩ := valS_mem h.1.1 h.ks hk
    have e4 : ((wipeE ρ [7]).set 7 (some (.v (.str k'))))[j]? = some (some (.v (.dct kvs))) := by
      simp only [wipeE]
      rw [List.getElem?_set_ne hn, List.getElem?_set_ne hn, hj]
    have e5 : ((wipeE ρ [7]).set 7 (some (.v (.str k'))))[7]? = some (some (.v (.str k'))) := List.getElem?_set_self (by simpa [wipeE] using h7)
    refine ⟨_, rfl, ?_⟩
    simp only [e3]
    simp [e4, e5, e2, l2]
  rw [List.map_map] at e
  exact e
theorem ans_dct28 (h13 : D 13 = some F_13) (h28 : D 28 = some F_28) {d e : Nat} {xs ys : List (Ky × T)} {t : T} (hx : Wo (d + 1) (.dct xs)) (hy : Wo (e + 1) (.dct ys)) (h : Ans (callF G D W (n + 1)) 27 [.lst (prsL xs), .lst (prsL ys)] t) : Ans (callF G D W (n + 2)) 28 [.dct xs, .dct ys] t := by
  refine ans_pre28 h13 h28 rfl rfl ?_
  have c := callV2 [] h
  unfold tl28 F_28 env28
  simp only [bDrop]
  refine ws_cons (ws_if false (u := .v (.bl false)) (s' := []) (by simp [knd]) rfl (fun z => by cases z) fun _ => ws_nil ?_)
  refine ws_cons (ws_if false (u := .v (.bl false)) (s' := []) (by simp [knd]) rfl (fun z => by cases z) fun _ => ws_nil ?_)
  refine ws_cons (ws_if false (u := .v (.bl false)) (s' := []) (by simp [knd]) rfl (fun z => by cases z) fun _ => ws_nil ?_)
  refine ws_cons (ws_if false (u := .v (.bl false)) (s' := []) (by simp [knd]) rfl (fun z => by cases z) fun _ => ws_nil ?_)
  refine ws_cons (ws_set (u := .v (.lst (prsL xs))) (s' := []) (ev_prs hx rfl (by simp) (by decide)) ?_)
  refine ws_cons (ws_set (u := .v (.lst (prsL ys))) (s' := []) (ev_prs hy rfl (by simp) (by decide)) ?_)
  exact ws_cons (ws_ret (u := .v t) (s' := []) (by simp [c]) (view_v1 _ _ _))
theorem ans_cmp28 (h13 : D 13 = some F_13) (h27 : D 27 = some F_27) (h28 : D 28 = some F_28) : ∀ (d : Nat) {a b : T} {n : Nat}, Wo d a → Wo d b → 4 * d + 2 ≤ n → Ans (callF G D W n) 28 [a, b] (.int (cmpN d a b)) := by
  intro d
  induction d with
  | zero =>
    intro a b n ha hb hn
    obtain ⟨n, rfl⟩ : ∃ k, n = k + 2 := ⟨n - 2, by omega⟩
    refine ans_pre28 h13 h28 ha.nt hb.nt ?_
    by_cases hk : knd a = knd b
    · have s1 : isScalar a = true := by cases a <;> first | rfl | exact ha.elim
      have s2 : isScalar b = true := by cases b <;> first | rfl | exact hb.elim
      exact tl_sc hk s1 s2
    · rw [cmp_diff hk]
      exact tl_ne hk
  | succ d ih =>
    intro a b n ha hb hn
    obtain ⟨n, rfl⟩ : ∃ k, n = k + 4 := ⟨n - 4, by omega⟩
    by_cases hk : knd a = knd b
    · by_cases s1 : isScalar a = true
      · have s2 : isScalar b = true := by
          cases a <;> cases b <;> first | rfl | (simp [knd] at hk; done) | (simp [isScalar] at s1; done)
        exact ans_pre28 h13 h28 ha.nt hb.nt (tl_sc hk s1 s2)
      · cases a with
        | lst xs =>
          cases b with
          | lst ys =>
            have := ans_rows27 (G := G) (W := W) (n := n + 2) h27 (cmpN d) ha.1 hb.1 fun x hx y hy => ih (ha.2 x hx) (hb.2 y hy) (by omega)
            exact ans_row28 h13 h28 this
          | _ => simp [knd] at hk
        | dct xs =>
          cases b with
          | dct ys =>
            have l1 : (prsL xs).length ≤ 1000 := by
              rw [prs_len]
              have := ha.1.2.1
              omega
            have l2 : (prsL ys).length ≤ 1000 := by
              rw [prs_len]
              have := hb.1.2.1
              omega
            refine ans_dct28 (n := n + 2) h13 h28 ha hb ?_
            refine ans_rows27 (n := n + 2) h27 (fun p q => cmpL (cmpN d) (itsL p) (itsL q)) l1 l2 fun p hp q hq => ?_
            obtain ⟨k1, v1, rfl, w1, w2⟩ := prs_mem ha hp
            obtain ⟨k2, v2, rfl, w3, w4⟩ := prs_mem hb hq
            refine ans_row28 (n := n) h13 h28 ?_
            refine ans_rows27 (n := n) h27 (cmpN d) (by simp) (by simp) fun x hx y hy => ih ?_ ?_ (by omega)
            · rcases List.mem_cons.mp hx with e | hx
              · rw [e]; exact w1
              · rw [List.mem_singleton.mp hx]; exact w2
            · rcases List.mem_cons.mp hy with e | hy
              · rw [e]; exact w3
              · rw [List.mem_singleton.mp hy]; exact w4
          | _ => simp [knd] at hk
        | tup xs => exact ha.elim
        | _ => simp [isScalar] at s1
    · refine ans_pre28 (n := n + 2) h13 h28 ha.nt hb.nt ?_
      rw [cmp_diff hk]
      exact tl_ne hk
theorem ans_same26 (h13 : D 13 = some F_13) (h26 : D 26 = some F_26) (h27 : D 27 = some F_27) (h28 : D 28 = some F_28) {d : Nat} {a : T} (ha : Wo d a) (hn : 4 * d + 2 ≤ n) : Ans (callF G D W (n + 1)) 26 [a, a] (.bl true) := by
  obtain ⟨n, rfl⟩ : ∃ k, n = k + 1 := ⟨n - 1, by omega⟩
  refine ans_fn [some (.v a), some (.v a)] h26 rfl rfl ?_
  have c1 := callV1 [] (ans_kindW (G := G) (W := W) (n := n) h13 a)
  have c2 := callV2 [] (ans_cmp28 (G := G) (W := W) (n := n + 1) h13 h27 h28 d ha ha hn)
  rw [cmpN_self] at c2
  have nt := ha.nt
  cases a <;> first | (simp [isTup] at nt; done) | (simp only [kindW] at c1; simp [F_26, exB, exS, WS, c1, c2, view_v1])
end
end Cab

set_option linter.all false
set_option maxRecDepth 100000
set_option maxHeartbeats 1000000
namespace Cab
def pm15 : Pm := ⟨-1000000000010, 1000000000010, 200, 60, 31⟩
def pn15 : Pm := ⟨-1000000000020, 1000000000020, 300, 130, 40⟩
def po15 : Pm := ⟨-1000000000030, 1000000000030, 400, 300, 60⟩
def tab15 : List Ent := downE (fun d => ⟨42, [.any d pn15, .int 0 1000002, .str 0 60], .any (d + 1) po15⟩) 11 ++ downE (fun d => ⟨42, [.any d pm15, .int 0 1000002, .str 0 60], .any (d + 1) pn15⟩) 10 ++ downE (fun d => ⟨24, [.any d pn15], .any d pn15⟩) 11
abbrev Sp15 : Nat → List A → Option A := SpT SpC tab15
def ok3 (G : Glo) (D : Tbl) (w : A) : Nat → A → Bool
  | 0, a => fitsO 16 a
  | k + 1, a => fitsO 16 a && (callA G D Sp15 14 42 [a, .int 0 1000002, w]).any (ok3 G D w k)
def P15 (G : Glo) (D : Tbl) (w : A) : Bool := (callA G D Sp15 14 40 [.scr, .int 0 0, .int 3 3]).any (ok3 G D w 2) && (callA G D Sp15 14 12 [.scr, .int 1 1, .int 2 2]).any (ok3 G D w 1) && (callA G D Sp15 14 12 [.scr, .int 2 2, .int 2 2]).any (ok3 G D w 0)
theorem len15 (n : Nat) : 14 + (1 + (1 + 1) * tab15.length) ≤ n + 200 := by
  have : tab15.length = 32 := rfl
  omega
theorem anyW {α : Type} {o : Option α} {p : α → Bool} (h : o.any p = true) : ∃ a, o = some a ∧ p a = true := by
  cases o with
  | none => cases h
  | some a => exact ⟨a, rfl, h⟩
theorem ok3_fits {G : Glo} {D : Tbl} {w a : A} {k : Nat} (h : ok3 G D w k a = true) : fitsO 16 a = true := by
  cases k with
  | zero => exact h
  | succ k =>
    simp only [ok3, Bool.and_eq_true] at h
    exact h.1
theorem atI_last {α : Type} (xs : List α) (x : α) : atI (xs ++ [x]) (-1) = some x := by
  have e : ¬ (0 : Int) ≤ -1 := by decide
  have e2 : -((xs ++ [x]).length : Int) ≤ -1 := by simp <;> omega
  have e3 : (-1 + ((xs ++ [x]).length : Int)).toNat = xs.length := by simp <;> omega
  rw [atI, if_neg e, if_pos e2, e3]
  simp
section
variable {G : Glo} {D : Tbl} {W n : Nat}
theorem rk_tup {d : Nat} {t : T} (h : Wo d t) : isKd (rk d t) .tuple = true := by
  rw [rk_head h]
  rfl
def e15 (i : Nat) : Int := if i = 0 then 1 else 4
theorem atI_15 {i : Nat} (h : i < 2) : atI [T.int 1, T.int 4] (i : Int) = some (.int (e15 i)) := by
  match i, h with
  | 0, _ => rfl
  | 1, _ => rfl
theorem e15_pos (i : Nat) : 0 < e15 i ∧ e15 i < 1073741824 := by
  unfold e15
  split <;> decide
theorem ev_kept15 {C : Call} {us : List T} {x0 x1 x3 x4 x5 x6 x7 x8 x9 x10 : Option U} (hl : us.length ≤ LIM) (hk : ∀ t ∈ us, callM C .v 24 [.v t] [.lst (us.map .v)] = .ok (.v t) [.lst (us.map .v)]) : ev G C (.lc [5] (.one 5) (.it (.var 2)) (.call .v 24 (.cons (.var 5) .nil))) [x0, x1, some (.ref 0), x3, x4, x5, x6, x7, x8, x9, x10] [.lst (us.map .v)] = .ok (.v (.lst us)) [.lst (us.map .v)] := by
  let g : U → T := fun u => match u with
    | .v t => t
    | _ => .non
  have e := ev_lc (G := G) (C := C) (own := [5]) (tg := .one 5) (src := .it (.var 2)) (elt := .call .v 24 (.cons (.var 5) .nil)) (ρ := [x0, x1, some (.ref 0), x3, x4, x5, x6, x7, x8, x9, x10]) (s := [.lst (us.map .v)]) (w := .at 0) (s' := [.lst (us.map .v)]) (xs := us.map .v) g (by simp [wkU]) (walks_at rfl) (by simpa using hl) fun x hx => by
    obtain ⟨t, ht, rfl⟩ := List.mem_map.mp hx
    refine ⟨_, rfl, ?_⟩
    have := hk t ht
    simp [wipeE, this, g]
  have e2 : (us.map U.v).map g = us := by
    rw [List.map_map]
    have : us.map (g ∘ U.v) = us.map fun x => x := List.map_congr_left fun x _ => rfl
    rw [this, List.map_id']
  rw [e2] at e
  exact e
theorem ev_same15 {C : Call} {us : List T} {s : Store} {x0 x1 x3 x5 x6 x7 x8 x9 x10 : Option U} (hl : us.length = 3) (hs : s = [.lst (us.map .v)]) (hk : ∀ t ∈ us, callM C .v 26 [.v t, .v t] s = .ok (.v (.bl true)) s) : ev G C (.lc [3] (.one 3) (.rng1 (.con (.int 3))) (.call .v 26 (.cons (.idx (.var 2) (.var 3)) (.cons (.idx (.var 4) (.var 3)) .nil)))) [x0, x1, some (.ref 0), x3, some (.v (.lst us)), x5, x6, x7, x8, x9, x10] s = .ok (.v (.lst [.bl true, .bl true, .bl true])) s := by
  have src : evSrc G C (.rng1 (.con (.int 3))) [x0, x1, some (.ref 0), x3, some (.v (.lst us)), x5, x6, x7, x8, x9, x10] s = .ok (.xs (rangeL 0 3)) s := src_rng1 3 (by simp) (by omega)
  have e := ev_lc (G := G) (C := C) (own := [3]) (tg := .one 3) (elt := .call .v 26 (.cons (.idx (.var 2) (.var 3)) (.cons (.idx (.var 4) (.var 3)) .nil))) (fun _ => .bl true) src (walks_xs _) (by rw [rangeL_len]; decide) fun x hx => by
    obtain ⟨k, hk3, rfl⟩ := rangeL_mem hx
    refine ⟨_, rfl, ?_⟩
    have hk4 : k < us.length := by omega
    have a1 : atI us (k : Int) = some us[k] := by rw [atI_nat us k k rfl, List.getElem?_eq_getElem hk4]
    have c := hk _ (List.getElem_mem hk4)
    have i1 : idxU s (.ref 0) (.v (.int (k : Int))) = some (.v us[k]) := by
      rw [hs]
      simp [idxU, atI_mapL, a1]
    generalize us[k] = t at a1 c i1
    simp [wipeE, i1, a1, c]
  exact e
/-- a turn of the comparing -/
def in15 : Cab.B := match F_47.body with
  | .cons _ (.cons _ (.cons _ (.cons _ (.cons (.for _ _ (.cons (.for _ _ b) _)) _)))) => b
  | _ => .nil
theorem ws_in15 {C : Call} {N B K : Env → Store → Prop} {Q : U → Store → Prop} {s : Store} {a b : T} {x0 x1 x2 x3 x4 x7 x8 x9 x10 : Option U} (ha : Wo 16 a) (hb : Wo 16 b) (c28 : callM C .v 28 [.v a, .v b] s = .ok (.v (.int (cmpN 16 a b))) s) (c46 : callM C .v 46 [.v a, .v b] s = .ok (.v (.bl (decide (cmpN 16 a b < 0)))) s) (c45a : callM C .v 45 [.v a] s = .ok (.v (rk 16 a)) s) (c45b : callM C .v 45 [.v b] s = .ok (.v (rk 16 b)) s) (k : ∀ y8 y9 y10, N [x0, x1, x2, x3, x4, some (.v a), some (.v b), x7, y8, y9, y10] s) : WS (exB G C W in15 [x0, x1, x2, x3, x4, some (.v a), some (.v b), x7, x8, x9, x10] s) N Q B K := by
  have l2 : 2 ≤ LIM := by decide
  have t1 := rk_tup ha
  have lt := cmp_ltW ha hb (by decide)
  have eq := cmp_eqW ha hb (by decide)
  unfold in15 F_47
  simp only []
  refine ws_cons (ws_set (u := .v (.int (cmpN 16 a b))) (s' := s) (by simp [c28]) ?_)
  refine ws_cons (ws_set (u := .v (.bl (decide (cmpN 16 a b < 0)))) (s' := s) (by simp [c46]) ?_)
  refine ws_cons (ws_if false (u := .v (.bl false)) (s' := s) (by simp [isKd]) rfl (fun z => by cases z) fun _ => ws_nil ?_)
  refine ws_cons (ws_set (u := .v (.lst [rk 16 a, rk 16 b])) (s' := s) (by simp [c45a, c45b, l2]) ?_)
  refine ws_cons (ws_if false (u := .v (.bl false)) (s' := s) (by simp [t1, lt]) rfl (fun z => by cases z) fun _ => ws_nil ?_)
  refine ws_cons (ws_if false (u := .v (.bl false)) (s' := s) (by simp [eq]) rfl (fun z => by cases z) fun _ => ws_nil ?_)
  exact ws_nil (k _ _ _)
theorem ans_law15 (h1 : D 1 = some F_1) (h13 : D 13 = some F_13) (h24 : D 24 = some F_24) (h26 : D 26 = some F_26) (h27 : D 27 = some F_27) (h28 : D 28 = some F_28) (h45 : D 45 = some F_45) (h46 : D 46 = some F_46) (h47 : D 47 = some F_47) (ht : tabOk G D SpC 1 tab15 = true) (q : (callA G D Sp15 14 2 [.int 0 1000002]).any (P15 G D) = true) {ns : List Int} (hn : ns.length ≤ 63) : Ans (callF G D W (n + 201)) 47 [.lst (ns.map .int)] (.bl true) := by
  obtain ⟨w, ew, q⟩ := anyW q
  simp only [P15, Bool.and_eq_true] at q
  obtain ⟨⟨q40, q12⟩, q12'⟩ := q
  obtain ⟨a0, e0, p0⟩ := anyW q40
  obtain ⟨t0, g0, c40⟩ := builtT (W := W) h1 hn ht e0 (n := n + 200) (len15 n) (ts := [.lst (ns.map .int), .int 0, .int 3]) ⟨_, _, rfl, rfl, _, _, rfl, ⟨0, rfl, by decide, by decide⟩, _, _, rfl, ⟨3, rfl, by decide, by decide⟩, rfl⟩
  have cc : ∀ (k : Int), 0 ≤ k → k < 1099511627776 → Ans (callF G D W (n + 200)) 1 [.lst (ns.map .int), .int k] (.int (cell ns k)) := fun k h2 h3 => ans_cell (n := n + 199) h1 hn h2 h3
  have cg : ∀ k, γ ns (.int 0 1000002) (.int (cell ns k)) := fun k => ⟨_, rfl, cell_nonneg ns k, by have := cell_lt ns k; omega⟩
  refine ans_fn [some (.v (.lst (ns.map .int))), none, none, none, none, none, none, none, none, none, none] h47 rfl rfl ?_
  have l1 : 1 ≤ LIM := by decide
  have l2 : 2 ≤ LIM := by decide
  refine ws_cons (ws_set (u := .v (.int (cell ns 700))) (s' := []) (by simp [callV2 [] (cc 700 (by decide) (by decide))]) ?_)
  refine ws_cons (ws_set (u := .ref 0) (s' := [.lst [.v t0]]) (by simp [callV3 [] c40, l1]) ?_)
  refine ws_cons ?_
  refine ws_for (xs := rangeL 0 2) (s' := [.lst [.v t0]]) (fun i ρ s => ∃ (ts : List T) (t : T) (a : A) (x3 x7 : Option U), ρ = [some (.v (.lst (ns.map .int))), some (.v (.int (cell ns 700))), some (.ref 0), x3, none, none, none, x7, none, none, none] ∧ s = [.lst ((ts ++ [t]).map .v)] ∧ ts.length = i ∧ (∀ x ∈ ts, Wo 16 x) ∧ ok3 G D w (2 - i) a = true ∧ γ ns a t) ?_ ⟨[], t0, a0, _, _, rfl, rfl, rfl, fun x hx => (by cases hx), p0, g0⟩ ?_ ?_
  · exact src_rng1 2 (by simp) (by omega)
  · rintro i hi ρ s ⟨ts, t, a, x3, x7, rfl, rfl, hl, hw, ok, g⟩
    rw [rangeL_len] at hi
    refine ⟨_, by rw [rangeL_at]; simp only [bindT]; rfl, ?_⟩
    rw [Int.zero_add]
    have hwt : Wo 16 t := fitsO_ok (ok3_fits ok) g
    have lim : (ts ++ [t]).length < LIM := by
      rw [List.length_append, hl]
      show i + 1 < 16777216
      omega
    obtain ⟨d1, d2⟩ := e15_pos i
    have at15 := atI_15 hi
    have hw2 : ∀ x ∈ ts ++ [t], Wo 16 x := fun x hx => by
      rcases List.mem_append.mp hx with hx | hx
      · exact hw x hx
      · rw [List.mem_singleton.mp hx]; exact hwt
    refine ws_cons (ws_if (decide (cell ns 700 / e15 i % 4 = 0)) (u := .v (.bl (decide (cell ns 700 / e15 i % 4 = 0)))) (s' := [.lst ((ts ++ [t]).map .v)]) (by simp [l2, at15, d1, d2]) rfl (fun z => ?_) fun z => ?_)
    · have bt : ∃ b u, ok3 G D w (1 - i) b = true ∧ γ ns b u ∧ Ans (callF G D W (n + 200)) 12 [.lst (ns.map .int), .int (1 + (i : Int)), .int 2] u := by
        match i, hi with
        | 0, _ =>
          obtain ⟨b, e, p⟩ := anyW q12
          obtain ⟨u, g1, c⟩ := builtT (W := W) h1 hn ht e (n := n + 200) (len15 n) (ts := [.lst (ns.map .int), .int 1, .int 2]) ⟨_, _, rfl, rfl, _, _, rfl, ⟨1, rfl, by decide, by decide⟩, _, _, rfl, ⟨2, rfl, by decide, by decide⟩, rfl⟩
          exact ⟨b, u, p, g1, c⟩
        | 1, _ =>
          obtain ⟨b, e, p⟩ := anyW q12'
          obtain ⟨u, g1, c⟩ := builtT (W := W) h1 hn ht e (n := n + 200) (len15 n) (ts := [.lst (ns.map .int), .int 2, .int 2]) ⟨_, _, rfl, rfl, _, _, rfl, ⟨2, rfl, by decide, by decide⟩, _, _, rfl, ⟨2, rfl, by decide, by decide⟩, rfl⟩
          exact ⟨b, u, p, g1, c⟩
      obtain ⟨b, u, p, g1, c⟩ := bt
      refine ws_cons (ws_ex (u := .v .non) (s' := [.lst ((ts ++ [t] ++ [u]).map .v)]) ?_ (ws_nil (ws_nil ⟨ts ++ [t], u, b, _, _, rfl, rfl, by rw [List.length_append, hl]; rfl, hw2, by rw [show 2 - (i + 1) = 1 - i by omega]; exact p, g1⟩)))
      have c := callV3 [.lst ((ts ++ [t]).map .v)] c
      rw [List.map_append] at c ⊢
      rw [List.length_append] at lim
      simp only [List.map_cons, List.map_nil, List.length_cons, List.length_nil] at c lim ⊢
      simp [lstAt, c, lim]
    · have cn := callV2 [.lst ((ts ++ [t]).map .v)] (cc (710 + (i : Int)) (by omega) (by omega))
      have ck := callV2 [.lst ((ts ++ [t]).map .v)] (cc (720 + (i : Int)) (by omega) (by omega))
      obtain ⟨nm, gn, c2⟩ := builtT (W := W) h1 hn ht ew (n := n + 200) (len15 n) (ts := [.int (cell ns (710 + (i : Int)))]) ⟨_, _, rfl, cg _, rfl⟩
      have c2 := callV1 [.lst ((ts ++ [t]).map .v)] c2
      have ok' : (callA G D Sp15 14 42 [a, .int 0 1000002, w]).any (ok3 G D w (1 - i)) = true := by
        rw [show 2 - i = (1 - i) + 1 by omega, ok3, Bool.and_eq_true] at ok
        exact ok.2
      obtain ⟨b, e, p⟩ := anyW ok'
      obtain ⟨u, g1, c⟩ := builtT (W := W) h1 hn ht e (n := n + 200) (len15 n) (ts := [t, .int (cell ns (720 + (i : Int))), nm]) ⟨_, _, rfl, g, _, _, rfl, cg _, _, _, rfl, gn, rfl⟩
      have c := callV3 [.lst ((ts ++ [t]).map .v)] c
      refine ws_cons (ws_set (u := .v nm) (s' := [.lst ((ts ++ [t]).map .v)]) (by simp only [ev_call, evs_cons, evs_nil, ev_var, ev_bin, ev_con, List.set_cons_succ, List.set_cons_zero, List.getElem?_cons_succ, List.getElem?_cons_zero, bind_ok, lift2_v, binT_add, Option.map_some, okO_some, cn, c2]) ?_)
      refine ws_cons (ws_ex (u := .v .non) (s' := [.lst ((ts ++ [t] ++ [u]).map .v)]) ?_ (ws_nil (ws_nil ⟨ts ++ [t], u, b, _, _, rfl, rfl, by rw [List.length_append, hl]; rfl, hw2, by rw [show 2 - (i + 1) = 1 - i by omega]; exact p, g1⟩)))
      have la : idxU [.lst ((ts ++ [t]).map .v)] (.ref 0) (.v (.int (-1))) = some (.v t) := by
        have := atI_last ts t
        simp only [idxU, List.getElem?_cons_zero, atI_mapL, this, Option.map_some]
      have lm : ((ts ++ [t]).map U.v).length < LIM := by rw [List.length_map]; exact lim
      have ls : lstAt [.lst ((ts ++ [t]).map .v)] (.ref 0) = some (0, (ts ++ [t]).map .v) := rfl
      have fin : ([O.lst ((ts ++ [t]).map .v)] : Store).set 0 (.lst ((ts ++ [t]).map .v ++ [.v u])) = [.lst ((ts ++ [t] ++ [u]).map .v)] := by
        rw [List.map_append (l₁ := ts ++ [t])]
        rfl
      rw [← fin]
      simp only [ev_app, ev_call, evs_cons, evs_nil, ev_var, ev_idx, ev_bin, ev_con, sev_neg, List.set_cons_succ, List.set_cons_zero, List.getElem?_cons_succ, List.getElem?_cons_zero, bind_ok, lift2_v, binT_add, Option.map_some, okO_some, ls, la, ck, c, if_pos lm]
  · rintro ρ s ⟨ts, t, a, x3, x7, rfl, rfl, hl, hw, ok, g⟩
    rw [rangeL_len] at hl ok
    have hwt : Wo 16 t := fitsO_ok (ok3_fits ok) g
    have hw2 : ∀ x ∈ ts ++ [t], Wo 16 x := fun x hx => by
      rcases List.mem_append.mp hx with hx | hx
      · exact hw x hx
      · rw [List.mem_singleton.mp hx]; exact hwt
    have l3 : (ts ++ [t]).length = 3 := by simp [hl]
    clear hw hwt ok g hl
    generalize ts ++ [t] = us at hw2 l3
    have k24 : ∀ x ∈ us, callM (callF G D W (n + 200)) .v 24 [.v x] [.lst (us.map .v)] = .ok (.v x) [.lst (us.map .v)] := fun x hx => callV1 _ (ans_heldW h24 16 (hw2 x hx) (by omega))
    refine ws_cons (ws_set (u := .v (.lst us)) (s' := [.lst (us.map .v)]) (ev_kept15 (by rw [l3]; decide) k24) ?_)
    refine ws_cons ?_
    refine ws_forR (j := 0) (xs := us.map .v) (s' := [.lst (us.map .v)]) (fun i ρ s => ∃ x5 x6 x8 x9 x10, ρ = [some (.v (.lst (ns.map .int))), some (.v (.int (cell ns 700))), some (.ref 0), x3, some (.v (.lst us)), x5, x6, x7, x8, x9, x10] ∧ s = [.lst (us.map .v)]) (by simp [wkU]) ⟨_, _, _, _, _, rfl, rfl⟩ ?_ ?_ ?_
    · rintro i ρ s ⟨x5, x6, x8, x9, x10, rfl, rfl⟩
      rfl
    · rintro i hi ρ s ⟨x5, x6, x8, x9, x10, rfl, rfl⟩
      rw [List.length_map] at hi
      refine ⟨_, by rw [List.getElem_map]; simp only [bindT]; rfl, ?_⟩
      have hx := hw2 _ (List.getElem_mem hi)
      generalize us[i] = x at hx
      refine ws_cons ?_
      refine ws_forR (j := 0) (xs := us.map .v) (s' := [.lst (us.map .v)]) (fun i ρ s => ∃ x6 x8 x9 x10, ρ = [some (.v (.lst (ns.map .int))), some (.v (.int (cell ns 700))), some (.ref 0), x3, some (.v (.lst us)), some (.v x), x6, x7, x8, x9, x10] ∧ s = [.lst (us.map .v)]) (by simp [wkU]) ⟨_, _, _, _, rfl, rfl⟩ ?_ ?_ ?_
      · rintro i ρ s ⟨x6, x8, x9, x10, rfl, rfl⟩
        rfl
      · rintro i' hi' ρ s ⟨x6, x8, x9, x10, rfl, rfl⟩
        rw [List.length_map] at hi'
        refine ⟨_, by rw [List.getElem_map]; simp only [bindT]; rfl, ?_⟩
        have hy := hw2 _ (List.getElem_mem hi')
        generalize us[i'] = y at hy
        exact ws_in15 hx hy (callV2 _ (ans_cmp28 h13 h27 h28 16 hx hy (by omega))) (callV2 _ (ans_beforeW (n := n + 199) h45 h46 hx hy (by decide) (by omega))) (callV1 _ (ans_rankW h45 16 hx (by omega))) (callV1 _ (ans_rankW h45 16 hy (by omega))) fun y8 y9 y10 => ⟨_, _, _, _, rfl, rfl⟩
      · rintro ρ s ⟨x6, x8, x9, x10, rfl, rfl⟩
        exact ws_nil ⟨_, _, _, _, _, rfl, rfl⟩
    · rintro ρ s ⟨x5, x6, x8, x9, x10, rfl, rfl⟩
      have th : Th 17 (.lst us) := fun x hx => (hw2 x hx).th
      have cs := cmp_same (d := 17) (by decide) th
      have vr : view 64 [.lst (us.map .v)] (.ref 0) = some (.lst us) := view_refL rfl
      have e3 := ev_same15 (G := G) (C := callF G D W (n + 200)) (x0 := some (.v (.lst (ns.map .int)))) (x1 := some (.v (.int (cell ns 700)))) (x3 := x3) (x5 := x5) (x6 := x6) (x7 := x7) (x8 := x8) (x9 := x9) (x10 := x10) l3 rfl fun x hx => callV2 _ (ans_same26 (n := n + 199) h13 h26 h27 h28 (d := 16) (hw2 x hx) (by omega))
      have eq1 : cmpU .eq [.lst (us.map .v)] (.ref 0) (.v (.lst us)) = some true := by
        simp only [cmpU, vr, view_v1, cs]
      have m3 : binT .mul (.lst [.bl true]) (.int 3) = some (.lst [.bl true, .bl true, .bl true]) := rfl
      have eq2 : cmpT .eq (.lst [.bl true, .bl true, .bl true]) (.lst [.bl true, .bl true, .bl true]) = some true := by simp [cmpT, eqOk, zipAll, pyEq, eqL]
      refine ws_cons (ws_ret (u := .v (.bl true)) (s' := [.lst (us.map .v)]) ?_ (view_v1 _ _ _))
      rw [ev_and, ev_cmp, ev_var]
      simp only [List.getElem?_cons_succ, List.getElem?_cons_zero, bind_ok, ev_var, eq1, Option.map_some, okO_some, asBl_bl]
      rw [ev_cmp, e3]
      simp [l1, m3, eq2]
end
end Cab

set_option Elab.async false
set_option linter.all false
set_option maxRecDepth 100000
set_option maxHeartbeats 0
namespace Cab
open PySem PySem.Spec PyProof.Rows L2
def dvOf : PySem.Expr → He.Dv
  | .Constant (.int i) _ _ => .int i
  | .Constant (.str s) _ _ => .str s
  | .Constant (.bool b) _ _ => .bl b
  | .Constant .none _ _ => .non
  | _ => .non
def dflsOf (a : Arguments) : List He.Dv := a.defaults.map dvOf
def defsIn (c : Str) : List Stmt → List He.DefD
  | [] => []
  | .FunctionDef n a b _ _ _ sc _ _ _ :: r => ⟨(c, some n), n, c ++ Str.ofString "." ++ n, a, b, sc, dflsOf a, []⟩ :: defsIn c r
  | _ :: r => defsIn c r
def defsOf : List Stmt → List He.DefD
  | [] => []
  | .FunctionDef n a b _ _ _ sc _ _ _ :: r => ⟨(n, none), n, n, a, b, sc, dflsOf a, []⟩ :: defsOf r
  | .ClassDef n _ _ body _ _ _ _ _ _ _ :: r => defsIn n body ++ defsOf r
  | _ :: r => defsOf r
abbrev ROW : PySem.W.OpenRow := PySem.W.OpenLaw.row PySem.Challenge.rw_cabinet_k15_order_of_three
def fn : List He.DefD := defsOf PySem.Challenge.pw_cabinet_k15_order_of_three.main.body
def loose : List PySem.Str := (["rank", "before", "_law_cell", "_law_name_by", "_law_signs", "_law_text_by", "_law_number_by", "_law_thing_by", "_law_wide_by", "_law_kind", "_law_held", "_law_marked", "_law_same", "_law_rows_compare", "_law_compare", "_law_leaf_other", "_law_varied", "__name__"] : List PySem.Str)
def prs : List PF := [⟨45, 0, "rank", ["thing", "name", "one"], F_45⟩,
  ⟨46, 1, "before", ["one", "other"], F_46⟩,
  ⟨1, 2, "_law_cell", ["_law_script", "_law_k", "_law_more"], F_1⟩,
  ⟨2, 3, "_law_name_by", ["_law_more", "_law_letters", "_law_size", "_law_by", "_law_signs_here", "_law_at", "_law_word", "_law_j"], F_2⟩,
  ⟨3, 4, "_law_signs", ["_law_some"], F_3⟩,
  ⟨4, 5, "_law_text_by", ["_law_more", "_law_signs_here", "_law_size", "_law_by", "_law_half", "_law_j"], F_4⟩,
  ⟨11, 6, "_law_number_by", ["_law_more"], F_11⟩,
  ⟨12, 7, "_law_thing_by", ["_law_script", "_law_k", "_law_deep", "_law_more", "_law_kind_here", "_law_some", "_law_result", "_law_j"], F_12⟩,
  ⟨40, 8, "_law_wide_by", ["_law_script", "_law_k", "_law_deep", "_law_more", "_law_thing", "_law_row", "_law_names", "_law_j"], F_40⟩,
  ⟨13, 9, "_law_kind", ["_law_thing"], F_13⟩,
  ⟨24, 10, "_law_held", ["_law_thing", "_law_one", "_law_name"], F_24⟩,
  ⟨26, 12, "_law_same", ["_law_one", "_law_other"], F_26⟩,
  ⟨27, 13, "_law_rows_compare", ["_law_one", "_law_other", "_law_k", "_law_result"], F_27⟩,
  ⟨28, 14, "_law_compare", ["_law_one", "_law_other", "_law_words", "_law_first", "_law_second", "_law_left", "_law_right", "_law_name"], F_28⟩,
  ⟨41, 15, "_law_leaf_other", ["_law_thing", "_law_more"], F_41⟩,
  ⟨42, 16, "_law_varied", ["_law_thing", "_law_more", "_law_names", "_law_at", "_law_some", "_law_result", "_law_name"], F_42⟩,
  ⟨47, 17, "law", ["_law_script", "_law_more", "_law_things", "_law_k", "_law_kept", "_law_one", "_law_other", "_law_name", "_law_due", "_law_result", "_law_ranks"], F_47⟩]
def LT : LawT := ⟨prs, ["bool", "dict", "int", "isinstance", "len", "list", "min", "range", "sorted", "str", "tuple"], [], []⟩
theorem runs : LT.Runs 47 := fun ns hn => by obtain ⟨s, e⟩ := ans_bl (ans_law15 (G := LT.glo) (D := LT.tbl) (W := 100) (n := 20) rfl rfl rfl rfl rfl rfl rfl rfl rfl (by kernel_rfl) (by kernel_rfl) hn); exact ⟨100, 221, s, by decide, e⟩
abbrev hk : PySem.W.Hook := hookC 5 LT.fa fn
def ob (s : PySem.W.SharedT) : He.AlD × Bool := obC 5 LT.fa fn (HandSHeadRun.getT s)
theorem ob_eq (s : PySem.W.SharedT) : ob s = hk.obs s.abs := obC_eq (HandSHeadRun.getT_eq s)
theorem run (w : World) : HandSHeadRun.RunEq ROW (PySem.W.view ROW.prog [19]) hk ob 20000 loose w := by
  intro os
  kernel_rfl
theorem chk : LT.good fn = true := by kernel_rfl
end Cab
open PySem PySem.W PySem.Calls PyProof.Rows
theorem PySem.Challenge.cw_cabinet_k15_order_of_three_holds : PySem.Challenge.rw_cabinet_k15_order_of_three.Holds := by
  w_on; o_law
  refine HandSHeadRun.head_any (r := OpenLaw.row PySem.Challenge.rw_cabinet_k15_order_of_three) (q := view (OpenLaw.row PySem.Challenge.rw_cabinet_k15_order_of_three).prog [19]) (H := Cab.hk) (ob := Cab.ob) (M := 20000) (loose := Cab.loose) (d := HandSHeadRun.topDef (OpenLaw.row PySem.Challenge.rw_cabinet_k15_order_of_three).prog 19) (kwd := []) Cab.ob_eq
    (by kernel_rfl) (fun s => by kernel_rfl) Cab.run (by kernel_rfl) (by kernel_rfl) (by kernel_rfl) (by rfl) (by first | assumption | decide +kernel) (by decide +kernel) ⟨rfl, rfl, rfl, rfl, rfl, by decide +kernel⟩ ?hw ?hc
  case hw => w_witness2
  case hc => exact Cab.law_walk (l := PySem.Challenge.rw_cabinet_k15_order_of_three) (n := 63) (L := Cab.LT) (ds := Cab.fn) (p := ⟨47, 17, "law", ["_law_script", "_law_more", "_law_things", "_law_k", "_law_kept", "_law_one", "_law_other", "_law_name", "_law_due", "_law_result", "_law_ranks"], Cab.F_47⟩) rfl (Nat.le_refl _) (by kernel_rfl) Cab.chk (by unfold Cab.LT Cab.prs; simp) rfl rfl ⟨_, rfl⟩ (by kernel_rfl) Cab.runs
