import PyProof.Rows.All
import Wide.All
import OpenK.AllK
import Wide.FinOn
import HandS.ForMost
import HandS.ForExc
import HandS.TupAny
import HandS.TupMul
import HandS.Deep
import KE.SortData
import HandS.Flow
import HandS.Style
import HandS.IsInst
import HandS.Zip
import KE.GoesMore
import KE.GoesEnum
import HandS.DictComp
import HandS.Replace
import HandS.SetFor
import HandS.Strs
import HandS.Conv
import HandS.Flt
import HandS.Defaults
import HandS.Head0
import HandS.Head1
import HandS.Head2
import HandS.HeadEnd
import HandS.HeadHook1
import HandS.HeadHook2
import KE.KDictZip
import HandS.RevTup
import HandS.ExcValue
import KE.DataMinMax
import HandS.Codes
import PySem.Challenge.RW_twotexts_k18_whole_patterns_with_slips
set_option Elab.async false
set_option linter.all false
set_option maxRecDepth 100000
set_option maxHeartbeats 4123000
/-! MiniPy: values, primitives, terms and their evaluation (plain Lean, no model in sight) -/
namespace MP

inductive Val where
  | none
  | bool (b : Bool)
  | int (i : Int)
  | str (s : List Nat)
  | txt (s : List Nat)
  | tup (vs : List Val)
  | lst (vs : List Val)
  | dict (kvs : List (Val × Val))
  | dicT (kvs : List (Val × Val))
  | fn (f : Nat)
  deriving Inhabited

inductive Res (α : Type) where
  | ok (a : α)
  | exc (c : Nat) (vs : List Val)
  | stuck
  deriving Inhabited

namespace Res
@[inline] def bind {α β : Type} (x : Res α) (f : α → Res β) : Res β := match x with
  | .ok a => f a
  | .exc c vs => .exc c vs
  | .stuck => .stuck
instance : Monad Res where
  pure := .ok
  bind := Res.bind
/-- what raises counts as stuck -/
def noexc {α : Type} : Res α → Res α
  | .ok a => .ok a
  | _ => .stuck
end Res

/-- an upper bound of lengths (below the model's own) -/
def big : Nat := 16000000

mutual
def veq : Val → Val → Bool
  | .none, .none => true
  | .bool a, .bool b => a == b
  | .bool a, .int j => (if a then 1 else 0) == j
  | .int i, .bool b => i == (if b then 1 else 0)
  | .int i, .int j => i == j
  | .str x, .str y => x == y
  | .lst xs, .lst ys => veqs xs ys
  | .tup xs, .tup ys => veqs xs ys
  | _, _ => false
def veqs : List Val → List Val → Bool
  | [], [] => true
  | x :: xs, y :: ys => veq x y && veqs xs ys
  | _, _ => false
end

mutual
/-- None, flags, integers, strings, lists and tuples of these, nested at most n deep -/
def shp : Nat → Val → Bool
  | _, .none => true
  | _, .bool _ => true
  | _, .int _ => true
  | _, .str _ => true
  | _, .txt _ => false
  | 0, _ => false
  | n + 1, .tup vs => shps n vs
  | n + 1, .lst vs => shps n vs
  | _ + 1, .dict _ => false
  | _ + 1, .dicT _ => false
  | _ + 1, .fn _ => false
def shps : Nat → List Val → Bool
  | _, [] => true
  | n, v :: vs => shp n v && shps n vs
end

mutual
def alike : Val → Val → Bool
  | .none, .none => true
  | .bool _, .bool _ => true
  | .int _, .int _ => true
  | .str _, .str _ => true
  | .lst xs, .lst ys => alikes xs ys
  | .tup xs, .tup ys => alikes xs ys
  | _, _ => false
def alikes : List Val → List Val → Bool
  | x :: xs, y :: ys => alike x y && alikes xs ys
  | [], _ => true
  | _ :: _, [] => true
end

mutual
/-- x < y, for alike ones -/
def vlt : Val → Val → Bool
  | .bool a, .bool b => !a && b
  | .int a, .int b => decide (a < b)
  | .str a, .str b => decide (a < b)
  | .lst xs, .lst ys => vlts xs ys
  | .tup xs, .tup ys => vlts xs ys
  | _, _ => false
def vlts : List Val → List Val → Bool
  | [], [] => false
  | [], _ :: _ => true
  | _ :: _, [] => false
  | x :: xs, y :: ys => if veq x y then vlts xs ys else vlt x y
end

/-- keys of dicts: integers, strings, tuples of these -/
def keyA : Val → Bool
  | .int _ => true
  | .str _ => true
  | _ => false
/-- keys of the other kind: tuples of these -/
def strV : Val → Bool
  | .str _ => true
  | _ => false
def keyT : Val → Bool
  | .tup vs => vs.all keyA && !(decide (3 ≤ vs.length) && vs.all strV)
  | _ => false

def dget (kvs : List (Val × Val)) (k : Val) : Option Val := (kvs.find? fun kv => veq kv.1 k).map (·.2)
def dput (kvs : List (Val × Val)) (k v : Val) : List (Val × Val) :=
  if kvs.any (fun kv => veq kv.1 k) then kvs.map fun kv => if veq kv.1 k then (kv.1, v) else kv else kvs ++ [(k, v)]
def ddel (kvs : List (Val × Val)) (k : Val) : List (Val × Val) := kvs.filter fun kv => !veq kv.1 k
def truthy : Val → Res Bool
  | .none => .ok false
  | .bool b => .ok b
  | .int i => .ok (i != 0)
  | .str s => .ok (!s.isEmpty)
  | .tup vs => .ok (!vs.isEmpty)
  | .lst vs => .ok (!vs.isEmpty)
  | .dict _ => .stuck
  | .dicT _ => .stuck
  | .fn _ => .stuck
  | .txt _ => .stuck

inductive Bin where
  | add | sub | mul | fdiv | mod | pow
  deriving DecidableEq
inductive Cmp where
  | eq | ne | lt | le | gt | ge | is | isnot | mem | nmem
  deriving DecidableEq

def small63 (i : Int) : Bool := decide (-(2 ^ 63) ≤ i) && decide (i < 2 ^ 63)
def small64 (i : Int) : Bool := decide (-(2 ^ 64) < i) && decide (i < 2 ^ 64)
def rep {α : Type} (n : Int) (xs : List α) : List α := (List.replicate n.toNat xs).flatten

def bin : Bin → Val → Val → Res Val
  | .add, .int a, .int b => .ok (.int (a + b))
  | .add, .str a, .str b => if a.length + b.length ≤ big then .ok (.str (a ++ b)) else .stuck
  | .add, .lst a, .lst b => if a.length + b.length ≤ big then .ok (.lst (a ++ b)) else .stuck
  | .add, .tup a, .tup b => if a.length + b.length ≤ big then .ok (.tup (a ++ b)) else .stuck
  | .sub, .int a, .int b => .ok (.int (a - b))
  | .mul, .int a, .int b => if small64 a || small64 b then .ok (.int (a * b)) else .stuck
  | .mul, .str a, .int n => if small63 n && decide (a.length * n.toNat ≤ big) then .ok (.str (rep n a)) else .stuck
  | .mul, .lst a, .int n => if small63 n && decide (a.length * n.toNat ≤ big) then .ok (.lst (rep n a)) else .stuck
  | .mul, .tup a, .int n => if small63 n && decide (n ≤ 1000 ∧ a.length ≤ 1000) then .ok (.tup (rep n a)) else .stuck
  | .fdiv, .int a, .int b => if 0 < b ∧ b < 1073741824 then .ok (.int (a / b)) else .stuck
  | .mod, .int a, .int b => if 0 < b then .ok (.int (a % b)) else .stuck
  | .pow, .int a, .int b => if 0 ≤ b ∧ b ≤ 1000 ∧ -1000 < a ∧ a < 1000 then .ok (.int (a ^ b.toNat)) else .stuck
  | _, _, _ => .stuck

/-- does s stand in t -/
def subStr (s t : List Nat) : Bool := match s with
  | [c] => t.contains c
  | s => (List.range (t.length + 1)).any fun i => s.isPrefixOf (t.drop i)

def scalar : Val → Bool
  | .none => true
  | .bool _ => true
  | .int _ => true
  | .str _ => true
  | _ => false
/-- what == may be asked of -/
def eqOk (a b : Val) : Bool := shp 60 a && shp 60 b
def eqR (a b : Val) : Res Bool := match a, b with
  | .txt x, .txt y => .ok (x == y)
  | a, b => if eqOk a b then .ok (veq a b) else .stuck
def contains (x : Val) (ys : List Val) : Bool := ys.any fun y => veq y x

def memOf (x : Val) : Val → Res Bool
  | .str t => match x with
    | .str s => .ok (subStr s t)
    | _ => .stuck
  | .lst ys => if shp 60 x && shps 60 ys then .ok (contains x ys) else .stuck
  | .tup ys => if shp 60 x && shps 60 ys then .ok (contains x ys) else .stuck
  | .dict kvs => if keyA x then .ok (dget kvs x).isSome else .stuck
  | .dicT kvs => if keyT x then .ok (dget kvs x).isSome else .stuck
  | _ => .stuck

def isNone : Val → Bool
  | .none => true
  | _ => false

def cmp : Cmp → Val → Val → Res Val
  | .eq, a, b => (eqR a b).bind fun c => .ok (.bool c)
  | .ne, a, b => (eqR a b).bind fun c => .ok (.bool (!c))
  | .lt, a, b => if alike a b && !isNone a && shp 60 a && shp 60 b then .ok (.bool (vlt a b)) else .stuck
  | .le, .int a, .int b => .ok (.bool (decide (a ≤ b)))
  | .gt, .int a, .int b => .ok (.bool (decide (b < a)))
  | .ge, .int a, .int b => .ok (.bool (decide (b ≤ a)))
  | .le, .str a, .str b => .ok (.bool (!decide (b < a)))
  | .gt, .str a, .str b => .ok (.bool (decide (b < a)))
  | .ge, .str a, .str b => .ok (.bool (!decide (a < b)))
  | .is, a, .none => .ok (.bool (isNone a))
  | .isnot, a, .none => .ok (.bool (!isNone a))
  | .mem, a, b => (memOf a b).bind fun r => .ok (.bool r)
  | .nmem, a, b => (memOf a b).bind fun r => .ok (.bool (!r))
  | _, _, _ => .stuck

/-- Python's place i of n -/
def place (n : Nat) (i : Int) : Option Nat :=
  if 0 ≤ i then (if i < n then some i.toNat else none) else if -(n : Int) ≤ i then some (i + n).toNat else none
def at? {α : Type} (xs : List α) (i : Int) : Option α := (place xs.length i).bind fun j => xs[j]?
def orStuck {α : Type} : Option α → Res α
  | some a => .ok a
  | .none => .stuck

def idx : Val → Val → Res Val
  | .lst vs, .int i => orStuck (at? vs i)
  | .tup vs, .int i => orStuck (at? vs i)
  | .str s, .int i => orStuck ((at? s i).map fun c => .str [c])
  | .dict kvs, k => if keyA k then orStuck (dget kvs k) else .stuck
  | .dicT kvs, k => if keyT k then orStuck (dget kvs k) else .stuck
  | _, _ => .stuck

/-- a bound of a slice, clipped -/
def clip (n d : Nat) : Val → Option Nat
  | .none => some d
  | .int i => some (if i < 0 then (i + n).toNat else min i.toNat n)
  | _ => Option.none
def cut {α : Type} (xs : List α) (lo hi : Val) : Option (List α) := do
  let a ← clip xs.length 0 lo
  let b ← clip xs.length xs.length hi
  return (xs.drop a).take (b - a)
def okPart : Val → Bool
  | .none => true
  | .int _ => true
  | _ => false
def slc (v lo hi : Val) : Res Val := match v with
  | .lst vs => orStuck ((cut vs lo hi).map .lst)
  | .tup vs => orStuck ((cut vs lo hi).map .tup)
  | .str s => orStuck ((cut s lo hi).map .str)
  | _ => .stuck
def rev : Val → Res Val
  | .lst vs => .ok (.lst vs.reverse)
  | .tup vs => .ok (.tup vs.reverse)
  | .str s => .ok (.str s.reverse)
  | _ => .stuck

/-- the items that a thing yields -/
def items : Val → Res (List Val)
  | .lst vs => .ok vs
  | .tup vs => .ok vs
  | .str s => .ok (s.map fun c => .str [c])
  | .dict kvs => .ok (kvs.map (·.1))
  | .dicT kvs => .ok (kvs.map (·.1))
  | _ => .stuck

def rngL (a : Int) (n : Nat) : List Val := (List.range n).map fun (i : Nat) => .int (a + i)
def rngD (a : Int) (n : Nat) : List Val := (List.range n).map fun (i : Nat) => .int (a - i)
def lim (i : Int) : Bool := decide (-1000000000 ≤ i) && decide (i ≤ 1000000000)
def range : List Val → Res (List Val)
  | [.int b] => if lim b then .ok (rngL 0 b.toNat) else .stuck
  | [.int a, .int b] => if lim a && lim b then .ok (rngL a (b - a).toNat) else .stuck
  | [.int a, .int b, .int (-1)] => if lim a && lim b then .ok (rngD a (a - b).toNat) else .stuck
  | _ => .stuck

def allInts : List Val → Option (List Int)
  | [] => some []
  | .int i :: vs => (allInts vs).map (i :: ·)
  | _ => Option.none
def allBools : List Val → Option (List Bool)
  | [] => some []
  | .bool b :: vs => (allBools vs).map (b :: ·)
  | _ => Option.none
def allStrs : List Val → Option (List (List Nat))
  | [] => some []
  | .str s :: vs => (allStrs vs).map (s :: ·)
  | _ => Option.none

def allSeqs : List Val → Option (List (List Val))
  | [] => some []
  | .lst us :: vs => (allSeqs vs).map (us :: ·)
  | _ => Option.none
def allPairs : List Val → Option (List (Val × Val))
  | [] => some []
  | .tup [a, b] :: vs => (allPairs vs).map ((a, b) :: ·)
  | _ => Option.none

def le' (a b : Val) : Bool := !vlt b a
def allAlike (vs : List Val) : Bool := vs.all fun a => vs.all fun b => alike a b
def sortable (vs : List Val) : Bool := (vs.all fun v => match v with
    | .tup (_ :: _) => true
    | _ => false) || (vs.all fun v => match v with
    | .none => false
    | .tup _ => false
    | _ => true)
def sorted (vs : List Val) : Res (List Val) := if allAlike vs && shps 60 vs && sortable vs then .ok (vs.mergeSort le') else .stuck
def best (lt : Val → Val → Bool) : List Val → Option Val
  | [] => Option.none
  | v :: vs => some (vs.foldl (fun b x => if lt x b then x else b) v)
/-- each but once, in order of first coming -/
def dedup (vs : List Val) : List Val := vs.foldl (fun acc v => if contains v acc then acc else acc ++ [v]) []

def leI (a b : Int) : Bool := decide (a ≤ b)
def leS (a b : List Nat) : Bool := !decide (b < a)
def dedupI (ns : List Int) : List Int := ns.foldl (fun acc n => if n ∈ acc then acc else acc ++ [n]) []

def joinWith (sep : List Nat) : List (List Nat) → List Nat
  | [] => []
  | [x] => x
  | x :: xs => x ++ sep ++ joinWith sep xs
/-- how often y stands in x, not overlapping (y not empty) -/
def countStr (y : List Nat) : Nat → List Nat → Nat
  | 0, _ => 0
  | _ + 1, [] => 0
  | n + 1, c :: x => if y.isPrefixOf (c :: x) then 1 + countStr y n ((c :: x).drop y.length) else countStr y n x
/-- the first place from i at which y stands -/
def findStr (y : List Nat) : Nat → List Nat → Option Nat
  | i, [] => if y.isEmpty then some i else Option.none
  | i, c :: x => if y.isPrefixOf (c :: x) then some i else findStr y (i + 1) x
def digits (n : Nat) : List Nat := (Nat.toDigits 10 n).map Char.toNat
def intText (i : Int) : List Nat := if i < 0 then 45 :: digits i.natAbs else digits i.toNat

/-- built-in types -/
inductive Ty where
  | int | bool | str | tuple | list | dict
  deriving DecidableEq
def isTy : Ty → Val → Bool
  | .int, .int _ => true
  | .int, .bool _ => true
  | .bool, .bool _ => true
  | .str, .str _ => true
  | .str, .txt _ => true
  | .tuple, .tup _ => true
  | .list, .lst _ => true
  | .dict, .dict _ => true
  | _, _ => false

inductive Blt where
  | len | abs | int | str | list | tuple | dict | sum | min | max | any | all | sorted | repr
  | isinst (ts : List Ty)
  | sortedSet | lenSet | listRange | tupRange | tupEnum | tupZip | listZip
  | newDict | newDicT
  | minD | maxD | sortedTxt | sortedSetS | sumL | dictL | lenDif | listTxt
  deriving DecidableEq

mutual
/-- what repr may be asked of: integers below 10^12, not too much of all -/
def ints12 : Val → Bool
  | .int i => decide (-1000000000000 < i) && decide (i < 1000000000000)
  | .tup vs => ints12s vs
  | .lst vs => ints12s vs
  | _ => true
def ints12s : List Val → Bool
  | [] => true
  | v :: vs => ints12 v && ints12s vs
end
mutual
def wgt : Val → Nat
  | .int _ => 40
  | .str s => s.length
  | .tup vs => wgts vs
  | .lst vs => wgts vs
  | _ => 0
def wgts : List Val → Nat
  | [] => 0
  | v :: vs => wgt v + 1 + wgts vs
end
def repOk (v : Val) : Bool := shp 60 v && ints12 v && decide (wgt v ≤ 1048576)

def bestI (mx : Bool) : List Int → Option Int
  | [] => Option.none
  | n :: ns => some (if mx then ns.foldl max n else ns.foldl min n)
def blt : Blt → List Val → Res Val
  | .len, [.str s] => .ok (.int s.length)
  | .len, [.lst vs] => .ok (.int vs.length)
  | .len, [.tup vs] => .ok (.int vs.length)
  | .len, [.dict kvs] => .ok (.int kvs.length)
  | .abs, [.int i] => .ok (.int (if i < 0 then -i else i))
  | .int, [.int i] => .ok (.int i)
  | .int, [.bool b] => .ok (.int (if b then 1 else 0))
  | .list, [.lst vs] => .ok (.lst vs)
  | .list, [.tup vs] => .ok (.lst vs)
  | .tuple, [.lst vs] => .ok (.tup vs)
  | .tuple, [.tup vs] => .ok (.tup vs)
  | .sum, [.lst vs] => (orStuck (allInts vs)).bind fun ns => .ok (.int ns.sum)
  | .min, [.lst vs] => (orStuck (allInts vs)).bind fun ns => (orStuck (bestI false ns)).bind fun n => .ok (.int n)
  | .max, [.lst vs] => (orStuck (allInts vs)).bind fun ns => (orStuck (bestI true ns)).bind fun n => .ok (.int n)
  | .min, [.int a, .int b] => .ok (.int (if b < a then b else a))
  | .max, [.int a, .int b] => .ok (.int (if b > a then b else a))
  | .min, [.int a, .int b, .int c] => .ok (.int (min (min a b) c))
  | .max, [.int a, .int b, .int c] => .ok (.int (max (max a b) c))
  | .min, [.int a, .int b, .int c, .int d] => .ok (.int (min (min (min a b) c) d))
  | .max, [.int a, .int b, .int c, .int d] => .ok (.int (max (max (max a b) c) d))
  | .any, [.lst vs] => (orStuck (allBools vs)).bind fun bs => .ok (.bool (bs.any id))
  | .all, [.lst vs] => (orStuck (allBools vs)).bind fun bs => .ok (.bool (bs.all id))
  | .sorted, [.lst vs] => (sorted vs).bind fun r => .ok (.lst r)
  | .sorted, [.dict kvs] => if kvs.length < 64 then (sorted (kvs.map (·.1))).bind fun r => .ok (.lst r) else .stuck
  | .isinst _, [.dicT _] => .stuck
  | .isinst _, [.fn _] => .stuck
  | .isinst ts, [v] => .ok (.bool (ts.any fun t => isTy t v))
  | .listRange, vs => (range vs).bind fun r => if r.length ≤ big then .ok (.lst r) else .stuck
  | .tupRange, vs => (range vs).bind fun r => if r.length ≤ big then .ok (.tup r) else .stuck
  | .sortedSet, [.lst vs] => (orStuck (allInts vs)).bind fun ns => if ns.length ≤ 4000 ∧ (dedupI ns).length < 64 then .ok (.lst (((dedupI ns).mergeSort leI).map .int)) else .stuck
  | .lenSet, [.lst vs] => (orStuck (allInts vs)).bind fun ns => if ns.length ≤ 4000 then .ok (.int (dedupI ns).length) else .stuck
  | .tupEnum, [.lst vs] => .ok (.tup (vs.zipIdx.map fun u => .tup [.int u.2, u.1]))
  | .tupZip, [v, u] => (items v).bind fun vs => (items u).bind fun us => .ok (.tup ((vs.zip us).map fun u => .tup [u.1, u.2]))
  | .listZip, [v, u] => (items v).bind fun vs => (items u).bind fun us => .ok (.lst ((vs.zip us).map fun u => .tup [u.1, u.2]))
  | .newDict, [] => .ok (.dict [])
  | .newDicT, [] => .ok (.dicT [])
  | .dict, [.dict kvs] => .ok (.dict kvs)
  | .dict, [.dicT kvs] => .ok (.dicT kvs)
  | .dict, [.lst vs] => (orStuck (allPairs vs)).bind fun ps => if ps.all (fun u => keyA u.1) then .ok (.dict (ps.foldl (fun a u => dput a u.1 u.2) [])) else .stuck
  | .minD, [.lst vs] => if allAlike vs && shps 60 vs && sortable vs then orStuck (best vlt vs) else .stuck
  | .maxD, [.lst vs] => if allAlike vs && shps 60 vs && sortable vs then orStuck (best (fun a b => vlt b a) vs) else .stuck
  | .sortedTxt, [.str s] => if s.length < 64 then .ok (.lst ((s.mergeSort fun a b => decide (a ≤ b)).map fun c => .str [c])) else .stuck
  | .sortedSetS, [.lst vs] => (orStuck (allStrs vs)).bind fun ss => if (dedup vs).length < 64 then .ok (.lst ((dedup vs).mergeSort le')) else .stuck
  | .sumL, [.lst vs] => (orStuck (allSeqs vs)).bind fun ss => if ss.flatten.length ≤ big then .ok (.lst ss.flatten) else .stuck
  | .listTxt, [.str s] => .ok (.lst (s.map fun c => .str [c]))
  | .str, [.int i] => if 0 ≤ i ∧ i < 1000 then .ok (.str (intText i)) else .stuck
  | _, _ => .stuck

end MP
/-! MiniPy: terms and their evaluation -/
namespace MP

/-- the other one, where the one is stuck -/
def Res.alt {α : Type} : Res α → Res α → Res α
  | .stuck, y => y
  | x, _ => x
/-- targets -/
inductive T where
  | var (i : Nat)
  | tup (ts : List T)

inductive Mth where
  | count | join | index | find | endswith | replace | split | lstrip | get | items | values
  deriving DecidableEq
inductive Mut where
  | append | extend | pop | update | remove
  deriving DecidableEq

mutual
inductive E where
  | var (i : Nat)
  | k (v : Val)
  | g (j : Nat)
  | bin (o : Bin) (a b : E)
  | cmp (o : Cmp) (a b : E)
  | cmp2 (o o' : Cmp) (a b c : E)
  | neg (a : E)
  | not (a : E)
  | and (a b : E)
  | or (a b : E)
  | bad
  | ite (c a b : E)
  | tup (es : Es)
  | lst (es : Es)
  | dic (ps : Ps)
  | idx (a i : E)
  | slc (a lo hi : E)
  | rev (a : E)
  | call (f : Nat) (es : Es) (io : List (Nat × Nat))
  | blt (b : Blt) (es : Es)
  | mth (m : Mth) (o : E) (es : Es)
  | mtl (m : Mth) (o : E) (es : Es)
  | mtt (m : Mth) (o : E) (es : Es)
  | mtq (m : Mth) (o : E) (es : Es)
  | mtc (m : Mut) (i : Nat) (es : Es)
  | mtd (m : Mut) (i : Nat) (es : Es)
  | mtc2 (m : Mut) (i : Nat) (ix : E) (es : Es)
  | lc (elt : E) (t : T) (it : It) (c : E) (own : List Nat)
  | dc (ke ve : E) (t : T) (it : It) (c : E) (own : List Nat)
  | lc2 (elt : E) (t : T) (it : It) (c : E) (t2 : T) (it2 : It) (c2 : E) (own own2 : List Nat)
  | dc2 (ke ve : E) (t : T) (it : It) (c : E) (t2 : T) (it2 : It) (c2 : E) (own own2 : List Nat)
  | alt (a b : E)
inductive Es where
  | nil
  | cons (e : E) (es : Es)
inductive Ps where
  | nil
  | cons (k v : E) (r : Ps)
inductive It where
  | e (a : E)
  | rng (es : Es)
  | enum (a : E)
  | zip (a b : E)
  | items (a : E)
end

mutual
inductive S where
  | set (i : Nat) (e : E)
  | unp (t : T) (e : E)
  | par (is : List Nat) (es : Es)
  | sti (i : Nat) (ix e : E)
  | sti2 (i : Nat) (ix jx e : E)
  | aug (i : Nat) (o : Bin) (e : E)
  | augi (i : Nat) (ix : E) (o : Bin) (e : E)
  | ex (e : E)
  | ret (e : E)
  | ret0
  | ifs (c : E) (a b : Ss)
  | whl (c : E) (b : Ss)
  | loop (t : T) (it : It) (b : Ss)
  | brk
  | pass
  | rais (c : Nat) (es : Es)
  | bad
inductive Ss where
  | nil
  | cons (s : S) (ss : Ss)
end

instance : Inhabited Ss := ⟨.nil⟩
instance : Inhabited E := ⟨.k .none⟩
def Ps.ofList : List (E × E) → Ps
  | [] => .nil
  | (k, v) :: r => .cons k v (Ps.ofList r)
def Es.ofList : List E → Es
  | [] => .nil
  | e :: es => .cons e (Es.ofList es)
def Ss.ofList : List S → Ss
  | [] => .nil
  | s :: ss => .cons s (Ss.ofList ss)

abbrev Env := List (Option Val)
def get (ρ : Env) (i : Nat) : Res Val := match ρ[i]? with
  | some (some v) => .ok v
  | _ => .stuck
def put (ρ : Env) (i : Nat) (v : Val) : Env := ρ.set i (some v)
def wipe (ρ : Env) : List Nat → Env
  | [] => ρ
  | i :: is => wipe (ρ.set i Option.none) is
/-- the comprehension's own slots as they were -/
def back (ρ ρ' : Env) : List Nat → Env
  | [] => ρ'
  | i :: is => back ρ (ρ'.set i (ρ.getD i Option.none)) is

mutual
/-- the slots of a target -/
def T.has : T → Nat → Bool
  | .var i, j => i == j
  | .tup ts, j => T.hasAny ts j
def T.hasAny : List T → Nat → Bool
  | [], _ => false
  | t :: ts, j => T.has t j || T.hasAny ts j
end
mutual
def bindT : T → Val → Env → Option Env
  | .var i, v, ρ => some (put ρ i v)
  | .tup ts, v, ρ => match v with
    | .tup vs => bindTs ts vs ρ
    | _ => Option.none
def bindTs : List T → List Val → Env → Option Env
  | [], [], ρ => some ρ
  | t :: ts, v :: vs, ρ => match bindT t v ρ with
    | some ρ' => bindTs ts vs ρ'
    | Option.none => Option.none
  | _, _, _ => Option.none
end

/-- what a loop may walk -/
def walked : Val → Res (List Val)
  | .lst vs => .ok vs
  | .tup vs => .ok vs
  | .str s => .ok (s.map fun c => .str [c])
  | _ => .stuck
def numb : Nat → List Val → List Val
  | _, [] => []
  | i, v :: vs => .tup [.int i, v] :: numb (i + 1) vs
def enumd (v : Val) : Res (List Val) := (walked v).bind fun vs => .ok (numb 0 vs)
def pairUp (vs us : List Val) : List Val := (vs.zip us).map fun u => .tup [u.1, u.2]
def zipped (v u : Val) : Res (List Val) := (walked v).bind fun vs => (walked u).bind fun us => .ok (pairUp vs us)
/-- list methods that change it: (what stands then, what is told) -/
def mutate : Mut → Val → List Val → Res (Val × Val)
  | .append, .lst vs, [v] => if vs.length < big then .ok (.lst (vs ++ [v]), .none) else .stuck
  | .extend, .lst vs, [.lst us] => if vs.length + us.length ≤ big then .ok (.lst (vs ++ us), .none) else .stuck
  | .pop, .lst vs, [] => (orStuck vs.getLast?).bind fun v => .ok (.lst vs.dropLast, v)
  | .pop, .lst vs, [.int i] => if small63 i then (orStuck (place vs.length i)).bind fun j => (orStuck vs[j]?).bind fun v => .ok (.lst (vs.eraseIdx j), v) else .stuck
  | .remove, .lst vs, [v] => if shp 60 v && shps 60 vs then (orStuck (vs.findIdx? fun u => veq u v)).bind fun j => .ok (.lst (vs.eraseIdx j), .none) else .stuck
  | .update, .dict kvs, [.dict us] => if kvs.length + us.length ≤ big then .ok (.dict (us.foldl (fun a u => dput a u.1 u.2) kvs), .none) else .stuck
  | .pop, .dict kvs, [k] => if keyA k then (orStuck (dget kvs k)).bind fun v => .ok (.dict (ddel kvs k), v) else .stuck
  | _, _, _ => .stuck

def isLst : Val → Bool
  | .lst _ => true
  | _ => false
def isStr : Val → Bool
  | .str _ => true
  | _ => false
def isTup : Val → Bool
  | .tup _ => true
  | _ => false
def isDct : Val → Bool
  | .dict _ => true
  | .dicT _ => true
  | _ => false
def isDic : Val → Bool
  | .dict _ => true
  | _ => false
def replStr (o n : List Nat) : Nat → List Nat → List Nat
  | 0, s => s
  | _ + 1, [] => []
  | k + 1, c :: s => if o.isPrefixOf (c :: s) then n ++ replStr o n k ((c :: s).drop o.length) else c :: replStr o n k s
def seqOf : Val → Res (List Val)
  | .lst vs => .ok vs
  | .tup vs => .ok vs
  | _ => .stuck
def mth : Mth → Val → List Val → Res Val
  | .lstrip, .str s, [.str t] => .ok (.str (s.dropWhile fun c => t.contains c))
  | .endswith, .str s, [.str t] => .ok (.bool (t.isSuffixOf s))
  | .replace, .str s, [.str o, .str n] => if o.isEmpty then .stuck else .ok (.str (replStr o n s.length s))
  | .find, .str s, [.str t] => .ok (.int (match findStr t 0 s with | some i => i | Option.none => -1))
  | .count, .lst vs, [v] => if shp 60 v && shps 60 vs then .ok (.int (vs.countP fun u => veq u v)) else .stuck
  | .count, .tup vs, [v] => if shp 60 v && shps 60 vs then .ok (.int (vs.countP fun u => veq u v)) else .stuck
  | .count, .str s, [.str t] => if t.isEmpty then .stuck else .ok (.int (countStr t s.length s))
  | .join, .str s, [v] => (seqOf v).bind fun vs => (orStuck (allStrs vs)).bind fun ss => if (ss.map (·.length)).sum + ss.length * s.length ≤ big then .ok (.str (joinWith s ss)) else .stuck
  | .index, .lst vs, [v] => if shp 60 v && shps 60 vs then (orStuck (vs.findIdx? fun u => veq u v)).bind fun j => .ok (.int j) else .stuck
  | .index, .tup vs, [v] => if shp 60 v && shps 60 vs then (orStuck (vs.findIdx? fun u => veq u v)).bind fun j => .ok (.int j) else .stuck
  | .index, .str s, [.str t] => (orStuck (findStr t 0 s)).bind fun j => .ok (.int j)
  | .get, .dict kvs, [k] => if keyA k then .ok ((dget kvs k).getD .none) else .stuck
  | .get, .dict kvs, [k, d] => if keyA k then .ok ((dget kvs k).getD d) else .stuck
  | .get, .dicT kvs, [k] => if keyT k then .ok ((dget kvs k).getD .none) else .stuck
  | .get, .dicT kvs, [k, d] => if keyT k then .ok ((dget kvs k).getD d) else .stuck
  | _, _, _ => .stuck

def setItem (o i v : Val) : Res Val := match o with
  | .lst vs => match i with
    | .int n => (orStuck (place vs.length n)).bind fun j => .ok (.lst (vs.set j v))
    | _ => .stuck
  | .dict kvs => if keyA i && decide (kvs.length < big) then .ok (.dict (dput kvs i v)) else .stuck
  | .dicT kvs => if keyT i && decide (kvs.length < big) then .ok (.dicT (dput kvs i v)) else .stuck
  | _ => .stuck

def fill (ρ : Env) (vs : List Val) : List (Nat × Nat) → Res (List Val)
  | [] => .ok vs
  | (p, i) :: r => (get ρ i).bind fun v => fill ρ (vs.set p v) r
def spill (ρ : Env) : List (Nat × Nat) → List Val → Env
  | (_, i) :: r, v :: vs => spill (put ρ i v) r vs
  | _, _ => ρ

inductive Flow where
  | next | brk | ret (v : Val)

/-- acc: what stands in the new list already -/
def lcGo (step : Val → List Val → Env → Res (List Val × Env)) : List Val → List Val → Env → Res (List Val × Env)
  | [], acc, ρ => .ok (acc, ρ)
  | x :: xs, acc, ρ => (step x acc ρ).bind fun o => lcGo step xs o.1 o.2
def dcGo (step : Val → List (Val × Val) → Env → Res (List (Val × Val) × Env)) : List Val → List (Val × Val) → Env → Res (List (Val × Val) × Env)
  | [], d, ρ => .ok (d, ρ)
  | x :: xs, d, ρ => (step x d ρ).bind fun o => dcGo step xs o.1 o.2
def snoc (acc : List Val) (v : Val) (ρ : Env) : Res (List Val × Env) := if acc.length < big then .ok (acc ++ [v], ρ) else .stuck
def dsnoc (d : List (Val × Val)) (k v : Val) (ρ : Env) : Res (List (Val × Val) × Env) := if keyA k && decide (d.length < big) then .ok (dput d k v, ρ) else .stuck
def forGo (step : Val → Env → Res (Flow × Env)) : List Val → Env → Res (Flow × Env)
  | [], ρ => .ok (.next, ρ)
  | x :: xs, ρ => (step x ρ).bind fun (f, ρ1) => match f with
    | .next => forGo step xs ρ1
    | .brk => .ok (.next, ρ1)
    | .ret v => .ok (.ret v, ρ1)
def whGo (c : Env → Res (Bool × Env)) (b : Env → Res (Flow × Env)) : Nat → Env → Res (Flow × Env)
  | 0, _ => .stuck
  | n + 1, ρ => (c ρ).bind fun (t, ρ1) => if t then (b ρ1).bind fun (f, ρ2) => match f with
      | .next => whGo c b n ρ2
      | .brk => .ok (.next, ρ2)
      | .ret v => .ok (.ret v, ρ2)
    else .ok (.next, ρ1)

/-- what a program has beside its terms: calls, module constants, the text of repr, how often a while may turn -/
structure Gl where
  call : Nat → List Val → Res (Val × List Val)
  con : Nat → Val
  rp : Val → List Nat
  wh : Nat

mutual
def evE (G : Gl) : E → Env → Res (Val × Env)
  | .var i, ρ => (get ρ i).bind fun v => .ok (v, ρ)
  | .k v, ρ => .ok (v, ρ)
  | .g j, ρ => .ok (G.con j, ρ)
  | .bin o a b, ρ => (evE G a ρ).bind fun (x, ρ) => (evE G b ρ).bind fun (y, ρ) => (bin o x y).bind fun v => .ok (v, ρ)
  | .cmp o a b, ρ => (evE G a ρ).bind fun (x, ρ) => (evE G b ρ).bind fun (y, ρ) => (cmp o x y).bind fun v => .ok (v, ρ)
  | .cmp2 o o' a b c, ρ => (evE G a ρ).bind fun (x, ρ) => (evE G b ρ).bind fun (y, ρ) => (cmp o x y).bind fun v => (truthy v).bind fun t =>
      if t then (evE G c ρ).bind fun (z, ρ) => (cmp o' y z).bind fun v => .ok (v, ρ) else .ok (v, ρ)
  | .neg a, ρ => (evE G a ρ).bind fun (x, ρ) => match x with
    | .int i => .ok (.int (-i), ρ)
    | _ => .stuck
  | .not a, ρ => (evE G a ρ).bind fun (x, ρ) => (truthy x).bind fun t => .ok (.bool (!t), ρ)
  | .and a b, ρ => (evE G a ρ).bind fun (x, ρ) => (truthy x).bind fun t => if t then evE G b ρ else .ok (x, ρ)
  | .or a b, ρ => (evE G a ρ).bind fun (x, ρ) => (truthy x).bind fun t => if t then .ok (x, ρ) else evE G b ρ
  | .bad, _ => .stuck
  | .ite c a b, ρ => (evE G c ρ).bind fun (x, ρ) => (truthy x).bind fun t => if t then evE G a ρ else evE G b ρ
  | .tup es, ρ => (evEs G es ρ).bind fun (vs, ρ) => .ok (.tup vs, ρ)
  | .lst es, ρ => (evEs G es ρ).bind fun (vs, ρ) => .ok (.lst vs, ρ)
  | .dic ps, ρ => (evPs G ps ρ).bind fun (kvs, ρ) => if kvs.all (fun u => keyA u.1) then .ok (.dict (kvs.foldl (fun a u => dput a u.1 u.2) []), ρ) else .stuck
  | .idx a i, ρ => (evE G a ρ).bind fun (x, ρ) => (evE G i ρ).bind fun (y, ρ) => (idx x y).bind fun v => .ok (v, ρ)
  | .slc a lo hi, ρ => (evE G a ρ).bind fun (x, ρ) => (evE G lo ρ).bind fun (l, ρ) => if okPart l then (evE G hi ρ).bind fun (h, ρ) => (slc x l h).bind fun v => .ok (v, ρ) else .stuck
  | .rev a, ρ => (evE G a ρ).bind fun (x, ρ) => (rev x).bind fun v => .ok (v, ρ)
  | .call f es io, ρ => (evEs G es ρ).bind fun (vs, ρ) => (fill ρ vs io).bind fun vs => (G.call f vs).bind fun (v, outs) => if outs.length = io.length then .ok (v, spill ρ io outs) else .stuck
  | .blt b es, ρ => (evEs G es ρ).bind fun (vs, ρ) => match b, vs with
    | .repr, [v] => if repOk v then .ok (.txt (G.rp v), ρ) else .stuck
    | b, vs => (blt b vs).bind fun v => .ok (v, ρ)
  | .mth m o es, ρ => (evE G o ρ).bind fun (x, ρ) => if isStr x then (evEs G es ρ).bind fun (vs, ρ) => (mth m x vs).bind fun v => .ok (v, ρ) else .stuck
  | .mtl m o es, ρ => (evE G o ρ).bind fun (x, ρ) => if isLst x then (evEs G es ρ).bind fun (vs, ρ) => (mth m x vs).bind fun v => .ok (v, ρ) else .stuck
  | .mtt m o es, ρ => (evE G o ρ).bind fun (x, ρ) => if isTup x then (evEs G es ρ).bind fun (vs, ρ) => (mth m x vs).bind fun v => .ok (v, ρ) else .stuck
  | .mtq m o es, ρ => (evE G o ρ).bind fun (x, ρ) => if isDct x then (evEs G es ρ).bind fun (vs, ρ) => (mth m x vs).bind fun v => .ok (v, ρ) else .stuck
  | .mtc2 m i ix es, ρ => (evE G ix ρ).bind fun (j, ρ) => (evEs G es ρ).bind fun (vs, ρ) => (get ρ i).bind fun o => (idx o j).bind fun p => (mutate m p vs).bind fun (p', v) => (setItem o j p').bind fun o' => .ok (v, put ρ i o')
  | .mtc m i es, ρ => (get ρ i).bind fun o0 => if isLst o0 then (evEs G es ρ).bind fun (vs, ρ) => (get ρ i).bind fun o => if isLst o then (mutate m o vs).bind fun (o', v) => .ok (v, put ρ i o') else .stuck else .stuck
  | .mtd m i es, ρ => (get ρ i).bind fun o0 => if isDic o0 then (evEs G es ρ).bind fun (vs, ρ) => (get ρ i).bind fun o => if isDic o then (mutate m o vs).bind fun (o', v) => .ok (v, put ρ i o') else .stuck else .stuck
  | .lc elt t it c own, ρ => (evI G it ρ).bind fun (xs, ρ) =>
      ((lcGo (fun x acc ρ => (orStuck (bindT t x (wipe ρ own))).bind fun ρ => (evE G c ρ).bind fun (b, ρ) => (truthy b).bind fun b =>
        if b then (evE G elt ρ).bind fun (v, ρ) => snoc acc v ρ else .ok (acc, ρ)) xs [] ρ).noexc).bind fun (vs, ρ') => .ok (.lst vs, back ρ ρ' own)
  | .dc ke ve t it c own, ρ => (evI G it ρ).bind fun (xs, ρ) =>
      ((dcGo (fun x d ρ => (orStuck (bindT t x (wipe ρ own))).bind fun ρ => (evE G c ρ).bind fun (b, ρ) => (truthy b).bind fun b =>
        if b then (evE G ke ρ).bind fun (k, ρ) => (evE G ve ρ).bind fun (v, ρ) => dsnoc d k v ρ else .ok (d, ρ)) xs [] ρ).noexc).bind fun (d, ρ') => .ok (.dict d, back ρ ρ' own)
  | .lc2 elt t it c t2 it2 c2 own own2, ρ => (evI G it ρ).bind fun (xs, ρ) =>
      ((lcGo (fun x acc ρ => (orStuck (bindT t x (wipe ρ own))).bind fun ρ => (evE G c ρ).bind fun (b, ρ) => (truthy b).bind fun b =>
        if b then (evI G it2 ρ).bind fun (ys, ρ) => lcGo (fun y acc ρ => (orStuck (bindT t2 y (wipe ρ own2))).bind fun ρ => (evE G c2 ρ).bind fun (b, ρ) => (truthy b).bind fun b =>
          if b then (evE G elt ρ).bind fun (v, ρ) => snoc acc v ρ else .ok (acc, ρ)) ys acc ρ else .ok (acc, ρ)) xs [] ρ).noexc).bind fun (vs, ρ') => .ok (.lst vs, back ρ ρ' own)
  | .dc2 ke ve t it c t2 it2 c2 own own2, ρ => (evI G it ρ).bind fun (xs, ρ) =>
      ((dcGo (fun x d ρ => (orStuck (bindT t x (wipe ρ own))).bind fun ρ => (evE G c ρ).bind fun (b, ρ) => (truthy b).bind fun b =>
        if b then (evI G it2 ρ).bind fun (ys, ρ) => dcGo (fun y d ρ => (orStuck (bindT t2 y (wipe ρ own2))).bind fun ρ => (evE G c2 ρ).bind fun (b, ρ) => (truthy b).bind fun b =>
          if b then (evE G ke ρ).bind fun (k, ρ) => (evE G ve ρ).bind fun (v, ρ) => dsnoc d k v ρ else .ok (d, ρ)) ys d ρ else .ok (d, ρ)) xs [] ρ).noexc).bind fun (d, ρ') => .ok (.dict d, back ρ ρ' own)
  | .alt a b, ρ => (evE G a ρ).alt (evE G b ρ)
def evEs (G : Gl) : Es → Env → Res (List Val × Env)
  | .nil, ρ => .ok ([], ρ)
  | .cons e es, ρ => (evE G e ρ).bind fun (v, ρ) => (evEs G es ρ).bind fun (vs, ρ) => .ok (v :: vs, ρ)
def evPs (G : Gl) : Ps → Env → Res (List (Val × Val) × Env)
  | .nil, ρ => .ok ([], ρ)
  | .cons k v r, ρ => (evE G k ρ).bind fun (x, ρ) => (evE G v ρ).bind fun (y, ρ) => (evPs G r ρ).bind fun (r, ρ) => .ok ((x, y) :: r, ρ)
def evI (G : Gl) : It → Env → Res (List Val × Env)
  | .e a, ρ => (evE G a ρ).bind fun (x, ρ) => (walked x).bind fun xs => .ok (xs, ρ)
  | .rng es, ρ => (evEs G es ρ).bind fun (vs, ρ) => (range vs).bind fun xs => .ok (xs, ρ)
  | .enum a, ρ => (evE G a ρ).bind fun (x, ρ) => (enumd x).bind fun xs => .ok (xs, ρ)
  | .zip a b, ρ => (evE G a ρ).bind fun (x, ρ) => (evE G b ρ).bind fun (y, ρ) => (zipped x y).bind fun xs => .ok (xs, ρ)
  | .items a, ρ => (evE G a ρ).bind fun (x, ρ) => match x with
    | .dict kvs => .ok (kvs.map fun (k, v) => .tup [k, v], ρ)
    | _ => .stuck
end

/-- x += y, of integers -/
def augR : Bin → Val → Val → Res Val
  | .add, .int a, .int b => .ok (.int (a + b))
  | .sub, .int a, .int b => .ok (.int (a - b))
  | _, _, _ => .stuck
def puts (ρ : Env) : List Nat → List Val → Res Env
  | [], [] => .ok ρ
  | i :: is, v :: vs => puts (put ρ i v) is vs
  | _, _ => .stuck

mutual
def evS (G : Gl) : S → Env → Res (Flow × Env)
  | .set i e, ρ => (evE G e ρ).bind fun (v, ρ) => .ok (.next, put ρ i v)
  | .unp t e, ρ => (evE G e ρ).bind fun (v, ρ) => (orStuck (bindT t v ρ)).bind fun ρ => .ok (.next, ρ)
  | .par is es, ρ => (evEs G es ρ).bind fun (vs, ρ) => (puts ρ is vs).bind fun ρ => .ok (.next, ρ)
  | .sti i ix e, ρ => (evE G e ρ).bind fun (v, ρ) => (get ρ i).bind fun o => (evE G ix ρ).bind fun (j, ρ) => (setItem o j v).bind fun o => .ok (.next, put ρ i o)
  | .sti2 i ix jx e, ρ => (evE G e ρ).bind fun (v, ρ) => (evE G ix ρ).bind fun (j, ρ) => (evE G jx ρ).bind fun (l, ρ) => (get ρ i).bind fun o =>
      (idx o j).bind fun p => (setItem p l v).bind fun p => (setItem o j p).bind fun o => .ok (.next, put ρ i o)
  | .aug i o e, ρ => (get ρ i).bind fun x => (evE G e ρ).bind fun (y, ρ) => (augR o x y).bind fun v => .ok (.next, put ρ i v)
  | .augi i ix o e, ρ => (evE G ix ρ).bind fun (j, ρ) => (get ρ i).bind fun c => (idx c j).bind fun x => (evE G e ρ).bind fun (y, ρ) => (bin o x y).bind fun v =>
      (get ρ i).bind fun c => (setItem c j v).bind fun c => .ok (.next, put ρ i c)
  | .ex e, ρ => (evE G e ρ).bind fun (_, ρ) => .ok (.next, ρ)
  | .ret e, ρ => (evE G e ρ).bind fun (v, ρ) => .ok (.ret v, ρ)
  | .ret0, ρ => .ok (.ret .none, ρ)
  | .ifs c a b, ρ => (evE G c ρ).bind fun (x, ρ) => (truthy x).bind fun t => if t then evSs G a ρ else evSs G b ρ
  | .whl c b, ρ => whGo (fun ρ => (evE G c ρ).bind fun (x, ρ) => (truthy x).bind fun t => .ok (t, ρ)) (fun ρ => evSs G b ρ) G.wh ρ
  | .loop t it b, ρ => (evI G it ρ).bind fun (xs, ρ) => forGo (fun x ρ => (orStuck (bindT t x ρ)).bind fun ρ => evSs G b ρ) xs ρ
  | .brk, ρ => .ok (.brk, ρ)
  | .pass, ρ => .ok (.next, ρ)
  | .rais c es, ρ => (evEs G es ρ).bind fun (vs, _) => .exc c vs
  | .bad, _ => .stuck
def evSs (G : Gl) : Ss → Env → Res (Flow × Env)
  | .nil, ρ => .ok (.next, ρ)
  | .cons s ss, ρ => (evS G s ρ).bind fun (f, ρ) => match f with
    | .next => evSs G ss ρ
    | .brk => .ok (.brk, ρ)
    | .ret v => .ok (.ret v, ρ)
end

/-- a def: how many parameters, how many slots, which parameters are changed, its body -/
structure Def where
  np : Nat
  ns : Nat
  io : List Nat
  body : Ss
  deriving Inhabited

def outsOf (ρ : Env) : List Nat → Res (List Val)
  | [] => .ok []
  | i :: is => (get ρ i).bind fun v => (outsOf ρ is).bind fun vs => .ok (v :: vs)
def runDef (G : Gl) (d : Def) (vs : List Val) : Res (Val × List Val) :=
  if vs.length = d.np then
    (evSs G d.body (vs.map some ++ List.replicate (d.ns - d.np) Option.none)).bind fun (f, ρ) => match f with
      | .next => (outsOf ρ d.io).bind fun os => .ok (.none, os)
      | .ret v => (outsOf ρ d.io).bind fun os => .ok (v, os)
      | .brk => .stuck
  else .stuck

structure Prog where
  defs : List Def
  con : Nat → Val
  rp : Val → List Nat
  wh : Nat

def callN (P : Prog) : Nat → Nat → List Val → Res (Val × List Val)
  | 0, _, _ => .stuck
  | n + 1, f, vs => match P.defs[f]? with
    | some d => runDef ⟨callN P n, P.con, P.rp, P.wh⟩ d vs
    | Option.none => .stuck

end MP
/-! MiniPy against the hand layer: how a plain value lies in the heap -/
namespace MP
open L2 PySem.Spec PySem PyProof.Rows

abbrev AS := Addr → Prop
abbrev Fg := PySem.W.Frag
def toStr (s : List Nat) : PySem.Str := ⟨s.toArray⟩
def cpOk (s : List Nat) : Bool := s.all (· < 0x110000) && decide (s.length ≤ big)
def kval : Key → Val
  | .inl i => .int i
  | .inr x => .str x.cps.toList
def kvOk : Key → Bool
  | .inl _ => true
  | .inr x => cpOk x.cps.toList
/-- a tuple stands there: tracked, or written from the beginning -/
def TupAt (K : Fg) (H : Hp) (a : Addr) (ps : List V) : Prop := H a = some (.tup ps) ∨
    ∃ (o : Obj) (its : Array Value) (n : Nat), K.lookup a = some o ∧ o.cls = .type "tuple" ∧ o.data = .seq its n ∧ its.size ≤ sizeLine ∧ Vals ps its.toList ∧ 3 ≤ ps.length ∧ ∀ p ∈ ps, ∃ z, p = .str z
theorem TupAt.sq {K : Fg} {H : Hp} {a : Addr} {ps : List V} (h : TupAt K H a ps) : SqT K H a ps := h.imp .inl fun ⟨o, its, n, a, b, c, d, e, _⟩ => ⟨o, its, n, a, b, c, d, e⟩
mutual
/-- a frozen value: its lists and dicts stand in F, and F is never written -/
inductive FR (K : Fg) (F : AS) (H : Hp) : Val → V → Prop
  | non : FR K F H .none .non
  | bl (b : Bool) : FR K F H (.bool b) (.bl b)
  | int (i : Int) : FR K F H (.int i) (.int i)
  | str {s : List Nat} : cpOk s = true → FR K F H (.str s) (.str (toStr s))
  | txt (s : List Nat) : FR K F H (.txt s) (.str (toStr s))
  | tup {a : Addr} {vs : List Val} {ps : List V} : TupAt K H a ps → FRs K F H vs ps → FR K F H (.tup vs) (.ref a)
  | lst {a : Addr} {vs : List Val} {ps : List V} : F a → Rd H a (.lst ps) → FRs K F H vs ps → FR K F H (.lst vs) (.ref a)
  | dK {a : Addr} {kvs : List (Val × Val)} {kps : List (Key × V)} : F a → Rd H a (.dK kps) → FRk K F H kvs kps → FR K F H (.dict kvs) (.ref a)
  | dT {a : Addr} {kvs : List (Val × Val)} {kps : List (List Key × V)} : F a → Rd H a (.dT kps) → FRt K F H kvs kps → FR K F H (.dicT kvs) (.ref a)
inductive FRs (K : Fg) (F : AS) (H : Hp) : List Val → List V → Prop
  | nil : FRs K F H [] []
  | cons {v : Val} {p : V} {vs : List Val} {ps : List V} : FR K F H v p → FRs K F H vs ps → FRs K F H (v :: vs) (p :: ps)
inductive FRk (K : Fg) (F : AS) (H : Hp) : List (Val × Val) → List (Key × V) → Prop
  | nil : FRk K F H [] []
  | cons {k : Key} {v : Val} {p : V} {kvs : List (Val × Val)} {kps : List (Key × V)} : kvOk k = true → FR K F H v p → FRk K F H kvs kps → FRk K F H ((kval k, v) :: kvs) ((k, p) :: kps)
inductive FRt (K : Fg) (F : AS) (H : Hp) : List (Val × Val) → List (List Key × V) → Prop
  | nil : FRt K F H [] []
  | cons {k : List Key} {v : Val} {p : V} {kvs : List (Val × Val)} {kps : List (List Key × V)} : k.all kvOk = true → FR K F H v p → FRt K F H kvs kps → FRt K F H ((.tup (k.map kval), v) :: kvs) ((k, p) :: kps)
end

section
variable {K : Fg} {F F' : AS} {H H' : Hp}
/-- what frozen values lean on stays -/
structure Keeps (F : AS) (H H' : Hp) : Prop where
  tup : ∀ a ps, H a = some (.tup ps) → H' a = some (.tup ps)
  fz : ∀ a u, F a → Rd H a u → Rd H' a u
theorem Keeps.refl : Keeps F H H := ⟨fun _ _ h => h, fun _ _ _ h => h⟩
mutual
theorem FR.mono (k : Keeps F H H') (hF : ∀ a, F a → F' a) : ∀ {v : Val} {p : V}, FR K F H v p → FR K F' H' v p
  | _, _, .non => .non
  | _, _, .bl b => .bl b
  | _, _, .int i => .int i
  | _, _, .str h => .str h
  | _, _, .txt s => .txt s
  | _, _, .tup h hs => .tup (h.imp (k.tup _ _) id) (FRs.mono k hF hs)
  | _, _, .lst f h hs => .lst (hF _ f) (k.fz _ _ f h) (FRs.mono k hF hs)
  | _, _, .dK f h hs => .dK (hF _ f) (k.fz _ _ f h) (FRk.mono k hF hs)
  | _, _, .dT f h hs => .dT (hF _ f) (k.fz _ _ f h) (FRt.mono k hF hs)
theorem FRs.mono (k : Keeps F H H') (hF : ∀ a, F a → F' a) : ∀ {vs : List Val} {ps : List V}, FRs K F H vs ps → FRs K F' H' vs ps
  | _, _, .nil => .nil
  | _, _, .cons h t => .cons (FR.mono k hF h) (FRs.mono k hF t)
theorem FRk.mono (k : Keeps F H H') (hF : ∀ a, F a → F' a) : ∀ {kvs : List (Val × Val)} {kps : List (Key × V)}, FRk K F H kvs kps → FRk K F' H' kvs kps
  | _, _, .nil => .nil
  | _, _, .cons e h t => .cons e (FR.mono k hF h) (FRk.mono k hF t)
theorem FRt.mono (k : Keeps F H H') (hF : ∀ a, F a → F' a) : ∀ {kvs : List (Val × Val)} {kps : List (List Key × V)}, FRt K F H kvs kps → FRt K F' H' kvs kps
  | _, _, .nil => .nil
  | _, _, .cons e h t => .cons e (FR.mono k hF h) (FRt.mono k hF t)
end
theorem FRs.length : ∀ {vs : List Val} {ps : List V}, FRs K F H vs ps → vs.length = ps.length
  | _, _, .nil => rfl
  | _, _, .cons _ t => by simp [FRs.length t]
theorem FRs.append : ∀ {vs us : List Val} {ps qs : List V}, FRs K F H vs ps → FRs K F H us qs → FRs K F H (vs ++ us) (ps ++ qs)
  | _, _, _, _, .nil, h => h
  | _, _, _, _, .cons a t, h => .cons a (t.append h)
theorem FRs.one {v : Val} {p : V} (h : FR K F H v p) : FRs K F H [v] [p] := .cons h .nil
theorem FRs.at : ∀ {vs : List Val} {ps : List V} {i : Nat} {v : Val}, FRs K F H vs ps → vs[i]? = some v → ∃ p, ps[i]? = some p ∧ FR K F H v p
  | _, _, _, _, .nil, e => by simp at e
  | _, _, 0, _, .cons h _, e => by simp at e; subst e; exact ⟨_, rfl, h⟩
  | _, _, i + 1, v, .cons _ t, e => by
    obtain ⟨p, h1, h2⟩ := FRs.at (i := i) t (by simpa using e)
    exact ⟨p, by simpa using h1, h2⟩
theorem FRs.take : ∀ {vs : List Val} {ps : List V} (n : Nat), FRs K F H vs ps → FRs K F H (vs.take n) (ps.take n)
  | _, _, 0, _ => by simpa using FRs.nil
  | _, _, n + 1, .nil => .nil
  | _, _, n + 1, .cons h t => .cons h (FRs.take n t)
theorem FRs.drop : ∀ {vs : List Val} {ps : List V} (n : Nat), FRs K F H vs ps → FRs K F H (vs.drop n) (ps.drop n)
  | _, _, 0, h => by simpa using h
  | _, _, n + 1, .nil => .nil
  | _, _, n + 1, .cons _ t => FRs.drop n t
theorem FRs.reverse : ∀ {vs : List Val} {ps : List V}, FRs K F H vs ps → FRs K F H vs.reverse ps.reverse
  | _, _, .nil => .nil
  | _, _, .cons h t => by
    rw [List.reverse_cons, List.reverse_cons]
    exact t.reverse.append (.one h)
theorem FRs.set {v : Val} {p : V} (h : FR K F H v p) : ∀ {vs : List Val} {ps : List V} (i : Nat), FRs K F H vs ps → FRs K F H (vs.set i v) (ps.set i p)
  | _, _, _, .nil => .nil
  | _, _, 0, .cons _ t => .cons h t
  | _, _, i + 1, .cons q t => .cons q (FRs.set h i t)
theorem FRs.of_get : ∀ {vs : List Val} {ps : List V}, vs.length = ps.length → (∀ (i : Nat) v p, vs[i]? = some v → ps[i]? = some p → FR K F H v p) → FRs K F H vs ps
  | [], [], _, _ => .nil
  | [], _ :: _, e, _ => by simp at e
  | _ :: _, [], e, _ => by simp at e
  | v :: vs, p :: ps, e, h => .cons (h 0 v p rfl rfl) (FRs.of_get (by simpa using e) fun i v p h1 h2 => h (i + 1) v p h1 h2)
theorem FRs.get {vs : List Val} {ps : List V} (h : FRs K F H vs ps) {i : Nat} {v : Val} {p : V} (h1 : vs[i]? = some v) (h2 : ps[i]? = some p) : FR K F H v p := by
  obtain ⟨q, e, r⟩ := h.at h1
  rw [h2] at e
  cases e
  exact r

/-- a value at hand, lent: its own list or dict may be another's, its items are frozen -/
def B1 (K : Fg) (F : AS) (H : Hp) (v : Val) (p : V) : Prop := match v with
  | .lst vs => ∃ a ps, p = .ref a ∧ Rd H a (.lst ps) ∧ FRs K F H vs ps
  | .dict kvs => ∃ a kps, p = .ref a ∧ Rd H a (.dK kps) ∧ FRk K F H kvs kps
  | .dicT kvs => ∃ a kps, p = .ref a ∧ Rd H a (.dT kps) ∧ FRt K F H kvs kps
  | v => FR K F H v p
theorem FR.b1 {v : Val} {p : V} (h : FR K F H v p) : B1 K F H v p := by
  cases h with
  | lst f h hs => exact ⟨_, _, rfl, h, hs⟩
  | dK f h hs => exact ⟨_, _, rfl, h, hs⟩
  | dT f h hs => exact ⟨_, _, rfl, h, hs⟩
  | non => exact .non
  | bl b => exact .bl b
  | int i => exact .int i
  | str h => exact .str h
  | txt s => exact .txt s
  | tup h hs => exact .tup h hs
theorem FR.tupS {vs : List Val} {p : V} (h : FR K F H (.tup vs) p) : ∃ a ps, p = .ref a ∧ TupAt K H a ps ∧ FRs K F H vs ps := by
  cases h with
  | tup h hs => exact ⟨_, _, rfl, h, hs⟩
theorem FR.strS {s : List Nat} {p : V} (h : FR K F H (.str s) p) : p = .str (toStr s) ∧ cpOk s = true := by
  cases h with
  | str h => exact ⟨rfl, h⟩
theorem FR.intS {i : Int} {p : V} (h : FR K F H (.int i) p) : p = .int i := by cases h; rfl
theorem FR.blS {b : Bool} {p : V} (h : FR K F H (.bool b) p) : p = .bl b := by cases h; rfl
theorem FR.nonS {p : V} (h : FR K F H .none p) : p = .non := by cases h; rfl

/-- owned to the depth k: its list is nobody else's; fp: the addresses that are its own -/
def Own (K : Fg) (F : AS) (H : Hp) : Nat → Val → V → AS → Prop
  | 0, v, p, fp => FR K F H v p ∧ ∀ a, ¬ fp a
  | k + 1, v, p, fp => match v with
    | .lst vs => ∃ (a : Addr) (ps : List V) (fps : Nat → AS), p = .ref a ∧ H a = some (.lst ps) ∧ ¬ F a ∧ vs.length = ps.length ∧
        (∀ (i : Nat) v p, vs[i]? = some v → ps[i]? = some p → Own K F H k v p (fps i)) ∧ (∀ i j b, i ≠ j → fps i b → ¬ fps j b) ∧ (∀ i, ¬ fps i a) ∧ (∀ i, vs.length ≤ i → ∀ b, ¬ fps i b) ∧ ∀ b, fp b ↔ (b = a ∨ ∃ i, fps i b)
    | .dict kvs => ∃ a kps, p = .ref a ∧ ¬ F a ∧ H a = some (.dK kps) ∧ FRk K F H kvs kps ∧ ∀ b, fp b ↔ b = a
    | .dicT kvs => ∃ a kps, p = .ref a ∧ ¬ F a ∧ H a = some (.dT kps) ∧ FRt K F H kvs kps ∧ ∀ b, fp b ↔ b = a
    | v => FR K F H v p ∧ ∀ a, ¬ fp a

/-- a list or a dict stands there -/
def IsMu (H : Hp) (a : Addr) : Prop := (∃ ps, H a = some (.lst ps)) ∨ (∃ kps, H a = some (.dK kps)) ∨ ∃ kps, H a = some (.dT kps)
theorem IsMu.some {a : Addr} (h : IsMu H a) : H a ≠ none := by
  rcases h with ⟨_, e⟩ | ⟨_, e⟩ | ⟨_, e⟩ <;> rw [e] <;> simp
theorem IsMu.notup {a : Addr} (h : IsMu H a) {ps : List V} : ¬ H a = Option.some (HO.tup ps) := by
  intro r
  rcases h with ⟨_, e⟩ | ⟨_, e⟩ | ⟨_, e⟩ <;> rw [e] at r <;> cases r

theorem Own.zero {v : Val} {p : V} (h : FR K F H v p) : Own K F H 0 v p (fun _ => False) := ⟨h, fun _ z => z⟩
theorem Own.mu : ∀ {k : Nat} {v : Val} {p : V} {fp : AS}, Own K F H k v p fp → ∀ a, fp a → IsMu H a ∧ ¬ F a
  | 0, _, _, _, h, a, z => absurd z (h.2 a)
  | k + 1, .lst vs, p, fp, h, a, z => by
    obtain ⟨b, ps, fps, e, hb, nf, hl, hi, dj, na, ob, hf⟩ := h
    rcases (hf a).mp z with rfl | ⟨i, z⟩
    · exact ⟨.inl ⟨_, hb⟩, nf⟩
    · by_cases hlt : i < vs.length
      · have h2 : i < ps.length := by omega
        exact Own.mu (hi i vs[i] ps[i] (by simp [hlt]) (by simp [h2])) a z
      · exact absurd z (ob i (by omega) a)
  | k + 1, .dict kvs, p, fp, h, a, z => by
    obtain ⟨b, kps, e, nf, q, r, hf⟩ := h
    have e := (hf a).mp z
    subst e
    exact ⟨.inr (.inl ⟨_, q⟩), nf⟩
  | k + 1, .dicT kvs, p, fp, h, a, z => by
    obtain ⟨b, kps, e, nf, q, r, hf⟩ := h
    have e := (hf a).mp z
    subst e
    exact ⟨.inr (.inr ⟨_, q⟩), nf⟩
  | k + 1, .none, _, _, h, a, z => absurd z (h.2 a)
  | k + 1, .bool _, _, _, h, a, z => absurd z (h.2 a)
  | k + 1, .int _, _, _, h, a, z => absurd z (h.2 a)
  | k + 1, .str _, _, _, h, a, z => absurd z (h.2 a)
  | k + 1, .tup _, _, _, h, a, z => absurd z (h.2 a)
  | k + 1, .fn _, _, _, h, a, z => absurd z (h.2 a)
  | k + 1, .txt _, _, _, h, a, z => absurd z (h.2 a)

/-- it stays owned where its own objects stay and F grows around it -/
theorem Own.mono (kp : Keeps F H H') (hF : ∀ a, F a → F' a) : ∀ {k : Nat} {v : Val} {p : V} {fp : AS}, Own K F H k v p fp → (∀ a, fp a → H' a = H a) → (∀ a, fp a → ¬ F' a) → Own K F' H' k v p fp
  | 0, _, _, _, h, _, _ => ⟨h.1.mono kp hF, h.2⟩
  | k + 1, .lst vs, p, fp, h, hh, hn => by
    obtain ⟨b, ps, fps, e, hb, nf, hl, hi, dj, na, ob, hf⟩ := h
    have zb := (hf b).mpr (.inl rfl)
    exact ⟨b, ps, fps, e, (hh b zb).trans hb, hn b zb, hl, fun i v p h1 h2 => Own.mono kp hF (hi i v p h1 h2) (fun a z => hh a ((hf a).mpr (.inr ⟨i, z⟩))) fun a z => hn a ((hf a).mpr (.inr ⟨i, z⟩)), dj, na, ob, hf⟩
  | k + 1, .dict kvs, p, fp, h, hh, hn => by
    obtain ⟨b, kps, e, nf, q, r, hf⟩ := h
    have zb := (hf b).mpr rfl
    exact ⟨b, kps, e, hn b zb, (hh b zb).trans q, r.mono kp hF, hf⟩
  | k + 1, .dicT kvs, p, fp, h, hh, hn => by
    obtain ⟨b, kps, e, nf, q, r, hf⟩ := h
    have zb := (hf b).mpr rfl
    exact ⟨b, kps, e, hn b zb, (hh b zb).trans q, r.mono kp hF, hf⟩
  | k + 1, .none, _, _, h, _, _ => ⟨h.1.mono kp hF, h.2⟩
  | k + 1, .bool _, _, _, h, _, _ => ⟨h.1.mono kp hF, h.2⟩
  | k + 1, .int _, _, _, h, _, _ => ⟨h.1.mono kp hF, h.2⟩
  | k + 1, .str _, _, _, h, _, _ => ⟨h.1.mono kp hF, h.2⟩
  | k + 1, .tup _, _, _, h, _, _ => ⟨h.1.mono kp hF, h.2⟩
  | k + 1, .fn _, _, _, h, _, _ => ⟨h.1.mono kp hF, h.2⟩
  | k + 1, .txt _, _, _, h, _, _ => ⟨h.1.mono kp hF, h.2⟩
end
section
variable {K : Fg} {F F' : AS} {H H' : Hp}
/-- F and more -/
def AS.or (F G : AS) : AS := fun a => F a ∨ G a
/-- an owned value is let go: it is frozen from now on -/
theorem Own.freeze : ∀ {k : Nat} {v : Val} {p : V} {fp : AS}, Own K F H k v p fp → FR K (AS.or F fp) H v p
  | 0, _, _, _, h => h.1.mono .refl fun _ z => .inl z
  | k + 1, .lst vs, p, fp, h => by
    obtain ⟨b, ps, fps, rfl, hb, nf, hl, hi, dj, na, ob, hf⟩ := h
    refine .lst (.inr ((hf b).mpr (.inl rfl))) (.inl hb) (.of_get hl fun i v p h1 h2 => ?_)
    refine (Own.freeze (hi i v p h1 h2)).mono .refl fun a z => ?_
    rcases z with z | z
    · exact .inl z
    · exact .inr ((hf a).mpr (.inr ⟨i, z⟩))
  | k + 1, .dict kvs, p, fp, h => by
    obtain ⟨b, kps, rfl, nf, q, r, hf⟩ := h
    exact .dK (.inr ((hf b).mpr rfl)) (.inl q) (r.mono .refl fun _ z => .inl z)
  | k + 1, .dicT kvs, p, fp, h => by
    obtain ⟨b, kps, rfl, nf, q, r, hf⟩ := h
    exact .dT (.inr ((hf b).mpr rfl)) (.inl q) (r.mono .refl fun _ z => .inl z)
  | k + 1, .none, _, _, h => h.1.mono .refl fun _ z => .inl z
  | k + 1, .bool _, _, _, h => h.1.mono .refl fun _ z => .inl z
  | k + 1, .int _, _, _, h => h.1.mono .refl fun _ z => .inl z
  | k + 1, .str _, _, _, h => h.1.mono .refl fun _ z => .inl z
  | k + 1, .tup _, _, _, h => h.1.mono .refl fun _ z => .inl z
  | k + 1, .fn _, _, _, h => h.1.mono .refl fun _ z => .inl z
  | k + 1, .txt _, _, _, h => h.1.mono .refl fun _ z => .inl z
/-- lent: at depth 1 at most -/
theorem Own.b1 : ∀ {k : Nat} {v : Val} {p : V} {fp : AS}, k ≤ 1 → Own K F H k v p fp → B1 K F H v p
  | 0, _, _, _, _, h => h.1.b1
  | 1, .lst vs, p, fp, _, h => by
    obtain ⟨b, ps, fps, rfl, hb, nf, hl, hi, dj, na, ob, hf⟩ := h
    exact ⟨b, ps, rfl, .inl hb, .of_get hl fun i v p h1 h2 => (hi i v p h1 h2).1⟩
  | 1, .dict kvs, p, fp, _, h => by
    obtain ⟨b, kps, rfl, nf, q, r, hf⟩ := h
    exact ⟨b, kps, rfl, .inl q, r⟩
  | 1, .dicT kvs, p, fp, _, h => by
    obtain ⟨b, kps, rfl, nf, q, r, hf⟩ := h
    exact ⟨b, kps, rfl, .inl q, r⟩
  | 1, .none, _, _, _, h => h.1
  | 1, .bool _, _, _, _, h => h.1
  | 1, .int _, _, _, _, h => h.1
  | 1, .str _, _, _, _, h => h.1
  | 1, .tup _, _, _, _, h => h.1
  | 1, .fn _, _, _, _, h => h.1
  | 1, .txt _, _, _, _, h => h.1
  | k + 2, _, _, _, e, _ => by omega
/-- a new list of frozen items -/
theorem Own.newL {vs : List Val} {a : Addr} {ps : List V} (h : H a = some (.lst ps)) (nf : ¬ F a) (hs : FRs K F H vs ps) : Own K F H 1 (.lst vs) (.ref a) (fun b => b = a) :=
  ⟨a, ps, fun _ _ => False, rfl, h, nf, hs.length, fun i v p h1 h2 => .zero (hs.get h1 h2), fun _ _ _ _ z => z.elim, fun _ z => z, fun _ _ _ z => z, fun b => ⟨fun e => .inl e, fun e => e.elim id fun ⟨_, z⟩ => z.elim⟩⟩
/-- not a list, not a dict -/
def imm : Val → Bool
  | .lst _ => false
  | .dict _ => false
  | .dicT _ => false
  | _ => true
theorem Own.imm {v : Val} {p : V} (h : FR K F H v p) (i : imm v = true) (k : Nat) : Own K F H k v p (fun _ => False) := by
  cases k with
  | zero => exact .zero h
  | succ k =>
    cases v with
    | lst _ => cases i
    | dict _ => cases i
    | dicT _ => cases i
    | _ => exact ⟨h, fun _ z => z⟩
end

/-! ### the state: slots, what each owns -/
/-- Γ: how deep each slot owns; F: what is frozen; fp: what each slot owns -/
structure Stt (K : Fg) (Γ : List Nat) (F : AS) (fp : Nat → AS) (ρ : Env) (σ : L2.St) (H : Hp) : Prop where
  rep : ∀ i v, ρ[i]? = some (some v) → ∃ p, σ[i]? = some (some p) ∧ Own K F H (Γ.getD i 0) v p (fp i)
  out : ∀ i, (∀ v, ρ[i]? ≠ some (some v)) → ∀ a, ¬ fp i a
  dj : ∀ i j a, i ≠ j → fp i a → ¬ fp j a
  tr : ∀ a, F a → H a ≠ none
  len : ρ.length = σ.length
section
variable {K : Fg} {Γ : List Nat} {F F' : AS} {fp fp' : Nat → AS} {ρ ρ' : Env} {σ : L2.St} {H H' : Hp}
theorem Stt.mu (s : Stt K Γ F fp ρ σ H) {i : Nat} {a : Addr} (h : fp i a) : IsMu H a ∧ ¬ F a := by
  cases e : ρ[i]? with
  | none => exact absurd h (s.out i (by simp [e]) a)
  | some o =>
    cases o with
    | none => exact absurd h (s.out i (by simp [e]) a)
    | some v =>
      obtain ⟨p, _, ow⟩ := s.rep i v e
      exact ow.mu a h
/-- how a step may change things; b: the step writes nothing that was there -/
structure Ext (b : Bool) (F : AS) (fp : Nat → AS) (H : Hp) (F' : AS) (fp' : Nat → AS) (H' : Hp) : Prop where
  sub : ∀ a, F a → F' a
  fz : ∀ a u, F a → Rd H a u → Rd H' a u
  same : ∀ a, H a ≠ none → (b = true ∨ ∀ i, ¬ fp i a) → H' a = H a
  new : ∀ a, F' a → F a ∨ H a = none ∨ (b = false ∧ ∃ i, fp i a)
  fnew : ∀ i a, fp' i a → H a = none ∨ ∃ j, fp j a
  pure : b = true → fp' = fp
theorem Ext.refl (b : Bool) : Ext b F fp H F fp H := ⟨fun _ h => h, fun _ _ _ h => h, fun _ _ _ => rfl, fun _ h => .inl h, fun i a h => .inr ⟨i, h⟩, fun _ => rfl⟩
theorem Ext.keeps {b : Bool} (e : Ext b F fp H F' fp' H') (hm : ∀ i a, fp i a → IsMu H a) : Keeps F H H' where
  tup := fun a ps r => by
    have nn : H a ≠ none := by rw [r]; simp
    rw [e.same a nn (.inr fun i z => (hm i a z).notup r)]
    exact r
  fz := e.fz
theorem Ext.trans {b : Bool} {F1 F2 : AS} {fp1 fp2 : Nat → AS} {H1 H2 : Hp} (e : Ext b F fp H F1 fp1 H1) (d : Ext b F1 fp1 H1 F2 fp2 H2) : Ext b F fp H F2 fp2 H2 where
  sub := fun a h => d.sub a (e.sub a h)
  fz := fun a u f h => d.fz a u (e.sub a f) (e.fz a u f h)
  same := fun a n h => by
    have q := e.same a n h
    have n1 : H1 a ≠ none := by rw [q]; exact n
    refine (d.same a n1 ?_).trans q
    rcases h with h | h
    · exact .inl h
    · refine .inr fun i z => ?_
      rcases e.fnew i a z with y | ⟨j, y⟩
      · exact n y
      · exact h j y
  new := fun a h => by
    rcases d.new a h with h | h | ⟨hb, i, h⟩
    · exact e.new a h
    · by_cases n : H a = none
      · exact .inr (.inl n)
      · by_cases z : b = true ∨ ∀ i, ¬ fp i a
        · rw [e.same a n z] at h
          exact absurd h n
        · rw [not_or] at z
          refine .inr (.inr ⟨by simpa using z.1, Classical.byContradiction fun q => z.2 fun i y => q ⟨i, y⟩⟩)
    · rcases e.fnew i a h with h | h
      · exact .inr (.inl h)
      · exact .inr (.inr ⟨hb, h⟩)
  fnew := fun i a h => by
    rcases d.fnew i a h with h | ⟨j, h⟩
    · by_cases n : H a = none
      · exact .inl n
      · by_cases z : b = true ∨ ∀ i, ¬ fp i a
        · rw [e.same a n z] at h
          exact absurd h n
        · rw [not_or] at z
          exact .inr (Classical.byContradiction fun q => z.2 fun i y => q ⟨i, y⟩)
    · exact e.fnew j a h
  pure := fun h => (d.pure h).trans (e.pure h)
theorem Ext.weak {b : Bool} (e : Ext b F fp H F' fp' H') : Ext false F fp H F' fp' H' where
  sub := e.sub
  fz := e.fz
  same := fun a n h => e.same a n (.inr (h.resolve_left (by simp)))
  new := fun a h => by
    rcases e.new a h with h | h | ⟨_, h⟩
    · exact .inl h
    · exact .inr (.inl h)
    · exact .inr (.inr ⟨rfl, h⟩)
  fnew := e.fnew
  pure := fun h => by cases h
/-- what another one owned (or nobody) stays -/
theorem Ext.stays {b : Bool} (e : Ext b F fp H F' fp' H') {a : Addr} (n : H a ≠ none) (h : ∀ i, ¬ fp i a) : H' a = H a := e.same a n (.inr h)
end
end MP
/-! MiniPy against the hand layer: the judgements -/
namespace MP
open L2 PySem.Spec PySem PyProof.Rows

def RSat {α : Type} (r : Res α) (Q : α → Prop) (X : Nat → List Val → Prop) : Prop := match r with
  | .ok a => Q a
  | .exc c vs => X c vs
  | .stuck => False
theorem RSat.bind {α β : Type} {r : Res α} {f : α → Res β} {Q : β → Prop} {X : Nat → List Val → Prop} : RSat (r.bind f) Q X = RSat r (fun a => RSat (f a) Q X) X := by cases r <;> rfl
theorem RSat.mono {α : Type} {r : Res α} {Q Q' : α → Prop} {X X' : Nat → List Val → Prop} (h : RSat r Q X) (hq : ∀ a, r = .ok a → Q a → Q' a) (hx : ∀ c vs, X c vs → X' c vs) : RSat r Q' X' := by
  cases r with
  | ok a => exact hq a rfl h
  | exc c vs => exact hx c vs h
  | stuck => exact h
theorem RSat.ok {α : Type} {r : Res α} {Q : α → Prop} {X : Nat → List Val → Prop} {a : α} (e : r = .ok a) : RSat r Q X = Q a := by rw [e]; rfl

/-- what is known of one def: its name, how many parameters, which are changed (place, depth), how deep its answer owns -/
structure FInfo where
  name : PySem.Str
  np : Nat
  io : List (Nat × Nat)
  ret : Nat
def modes (np : Nat) (io : List (Nat × Nat)) : List Nat := io.foldl (fun m q => m.set q.1 q.2) (List.replicate np 0)
/-- the program as the interpreter has it, and the names of the module -/
structure Stat where
  prog : MP.Prog
  fns : List FInfo
  cons : List PySem.Str
  free : List PySem.Str
  XR : Nat → List Val → Value → Option Addr → Hp → Prop
/-- where its defs stand -/
structure Rt where
  fa : Nat → Addr
  fd : Nat → FuncData
  ps : Nat → List PySem.Str
def Stat.gl (S : Stat) (n : Nat) : Gl := ⟨callN S.prog n, S.prog.con, S.prog.rp, S.prog.wh⟩

def XWish (S : Stat) (E : XK) (fp : Nat → AS) (H : Hp) (c : Nat) (vs : List Val) : Prop :=
  ∀ cls d H', S.XR c vs cls d H' → (∀ a, H a ≠ none → (∀ i, ¬ fp i a) → H' a = H a) → E cls d H'
theorem XWish.ext {S : Stat} {E : XK} {b : Bool} {F F' : AS} {fp fp' : Nat → AS} {H H' : Hp} {c : Nat} {vs : List Val} (x : XWish S E fp H c vs) (e : Ext b F fp H F' fp' H') : XWish S E fp' H' c vs := fun cls d H2 r h =>
  x cls d H2 r fun a n z => by
    have q := e.stays n z
    have n1 : H' a ≠ none := by rw [q]; exact n
    refine (h a n1 fun i y => ?_).trans q
    rcases e.fnew i a y with y | ⟨j, y⟩
    · exact n y
    · exact z j y

/-- what a def's call promises: what the interpreter says -/
def spF (S : Stat) (K : Fg) (n f : Nat) (fi : FInfo) : Sp := fun ps H Q E => ∃ F fp vals, vals.length = fi.np ∧ ps.length = fi.np ∧ Stt K (modes fi.np fi.io) F fp (vals.map some) (ps.map some) H ∧
  RSat (callN S.prog n f vals) (fun r => ∀ F' fp' fr H' p, Stt K (modes fi.np fi.io) F' fp' (spill (List.replicate fi.np none) (fi.io.map fun q => (q.1, q.1)) r.2) (ps.map some) H' → Ext false F fp H F' fp' H' →
    Own K F' H' fi.ret r.1 p fr → (∀ a, fr a → (H a = none ∨ ∃ i, fp i a) ∧ ∀ i, ¬ fp' i a) → Q p H') (XWish S E fp H)
/-- the def keeps its promise -/
def FnG (P : Program) (w : World) (K : Fg) (mg : PySem.Str → Option Value) (base : Heap) (S : Stat) (R : Rt) (n f : Nat) (fi : FInfo) : Prop :=
  ∀ (A : Around) (outer : List PySem.Env) (s : Shared) (H : Hp) (args : Args) (us : List Value) (vs : List V) (Q : VK) (E : XK), Room n A → A.guards = some [] → Env0 P w K mg base A outer s H →
    BindsTo s (R.fd f) args ((R.ps f).zip us) → Vals vs us → spF S K n f fi vs H Q E → codeAny (model P w) A (.call (.ref (R.fa f)) args) (CR (L2.CX P w) outer P w H s Q E) s

/-- the module: where names lead -/
structure GlOk (K : Fg) (mg : PySem.Str → Option Value) (S : Stat) (R : Rt) : Prop where
  fn : ∀ (f : Nat) (fi : FInfo), S.fns[f]? = some fi → mg fi.name = some (.ref (R.fa f)) ∧ PySem.W.keepIn K (.ref (R.fa f)) = true ∧ Binds K (R.fd f) (R.ps f) [] ∧ (R.ps f).length = fi.np
  con : ∀ (j : Nat) (x : PySem.Str), S.cons[j]? = some x → ∃ u p, mg x = some u ∧ RelV p u ∧ ∀ F H, FR K F H (S.prog.con j) p
  free : ∀ x ∈ S.free, mg x = none

/-- the context of a body, of a comprehension's block -/
structure CxOk (S : Stat) (R : Rt) (n : Nat) (N : List PySem.Str) (sc : Scope) (fnn : PySem.Str → Bool) (E : XK) (X : Cx) : Prop where
  gl : GlOk X.K X.mg S R
  fn : ∀ (f : Nat) (fi : FInfo), S.fns[f]? = some fi → FnG X.prog X.w X.K X.mg X.base S R n f fi
  names : X.N = N
  nd : N.Nodup
  scope : X.env.scope = sc
  calm : X.calm = true
  room : Room n X.A
  guards : X.A.guards = some []
  pass : Passes (L2.CX X.prog X.w) X E
  own : PassesOwn (model X.prog X.w) X.A X.env X.xe
  fnq : ∀ x, fnn x = true → X.fn x = true

section
variable (K : Fg) (S : Stat) (Γ : List Nat) (b : Bool) (k : Nat) (E : XK)
/-- an expression, by value: what it gives is owned to depth k -/
def tE (r : MP.Env → Res (Val × MP.Env)) : TE := fun σ H Q => ∃ F fp ρ, Stt K Γ F fp ρ σ H ∧ RSat (r ρ) (fun o => ∀ F' fp' fr H' p, Stt K Γ F' fp' o.2 σ H' → Ext b F fp H F' fp' H' → (b = true → o.2 = ρ) →
  Own K F' H' k o.1 p fr → (∀ a, fr a → (H a = none ∨ (b = false ∧ ∃ i, fp i a)) ∧ ∀ i, ¬ fp' i a) → Q p H') (XWish S E fp H)
/-- an expression, lent -/
def tB (r : MP.Env → Res (Val × MP.Env)) : TE := fun σ H Q => ∃ F fp ρ, Stt K Γ F fp ρ σ H ∧ RSat (r ρ) (fun o => ∀ F' fp' H' p, Stt K Γ F' fp' o.2 σ H' → Ext b F fp H F' fp' H' → (b = true → o.2 = ρ) →
  B1 K F' H' o.1 p → Q p H') (XWish S E fp H)
end

theorem _root_.L2.PE.imp {X : Cx} {e : Expr} {t u : TE} (h : PE X e t) (hi : ∀ σ H Q, u σ H Q → t σ H Q) : PE X e u := ⟨fun pins s σ H Q I q => h.run pins s σ H Q I (hi σ H Q q)⟩
theorem _root_.L2.PE.or {X : Cx} {e : Expr} {t u : TE} (h : PE X e t) (g : PE X e u) : PE X e (fun σ H Q => t σ H Q ∨ u σ H Q) := ⟨fun pins s σ H Q I q => q.elim (h.run pins s σ H Q I) (g.run pins s σ H Q I)⟩
theorem _root_.L2.PT.imp {X : Cx} {e : Expr} {t u : TT} (h : PT X e t) (hi : ∀ σ H Q, u σ H Q → t σ H Q) : PT X e u := ⟨fun pins s σ H Q I q => h.run pins s σ H Q I (hi σ H Q q)⟩
theorem _root_.L2.PS.imp {X : Cx} {e : Stmt} {t u : TS} (h : PS X e t) (hi : ∀ D σ H, u D σ H → t D σ H) : PS X e u := ⟨fun pins s σ H D I q => h.run pins s σ H D I (hi D σ H q)⟩
theorem _root_.L2.PS.or {X : Cx} {e : Stmt} {t u : TS} (h : PS X e t) (g : PS X e u) : PS X e (fun D σ H => t D σ H ∨ u D σ H) := ⟨fun pins s σ H D I q => q.elim (h.run pins s σ H D I) (g.run pins s σ H D I)⟩

section
variable {K : Fg} {S : Stat} {Γ : List Nat} {F F' : AS} {fp fp' : Nat → AS} {ρ : MP.Env} {σ : L2.St} {H H' : Hp} {b : Bool} {k : Nat} {E : XK}
theorem Stt.keeps (s : Stt K Γ F fp ρ σ H) (e : Ext b F fp H F' fp' H') : Keeps F H H' := e.keeps fun _ _ z => (s.mu z).1
/-- new objects alone -/
theorem Stt.alloc (s : Stt K Γ F fp ρ σ H) (h : ∀ a, H a ≠ none → H' a = H a) : Stt K Γ F fp ρ σ H' ∧ Ext b F fp H F fp H' := by
  have kp : Keeps F H H' := ⟨fun a ps r => by
    have nn : H a ≠ none := by rw [r]; simp
    rw [h a nn]; exact r, fun a u f r => by
    have nn : H a ≠ none := by rcases r with r | ⟨o, r⟩ <;> rw [r] <;> simp
    unfold Rd at r ⊢; rw [h a nn]; exact r⟩
  refine ⟨⟨fun i v e => ?_, s.out, s.dj, fun a f => ?_, s.len⟩, ⟨fun _ z => z, kp.fz, fun a n _ => h a n, fun _ z => .inl z, fun i a z => .inr ⟨i, z⟩, fun _ => rfl⟩⟩
  · obtain ⟨p, e1, ow⟩ := s.rep i v e
    exact ⟨p, e1, ow.mono kp (fun _ z => z) (fun a z => h a (s.mu z).1.some) fun a z => (s.mu z).2⟩
  · rw [h a (s.tr a f)]
    exact s.tr a f
/-- what was at hand is frozen -/
theorem Stt.frz (s : Stt K Γ F fp ρ σ H) {fr : AS} (hm : ∀ a, fr a → IsMu H a) (hd : ∀ a, fr a → ∀ i, ¬ fp i a) : Stt K Γ (AS.or F fr) fp ρ σ H := by
  refine ⟨fun i v e => ?_, s.out, s.dj, fun a f => ?_, s.len⟩
  · obtain ⟨p, e1, ow⟩ := s.rep i v e
    exact ⟨p, e1, ow.mono .refl (fun _ z => .inl z) (fun _ _ => rfl) fun a z q => q.elim (s.mu z).2 fun q => hd a q i z⟩
  · exact f.elim (s.tr a) fun z => (hm a z).some
/-- by value at depth k is by value at depth 0 -/
theorem tE_frz {r : MP.Env → Res (Val × MP.Env)} {Q : VK} (h : tE K S Γ b 0 E r σ H Q) : tE K S Γ b k E r σ H Q := by
  obtain ⟨F, fp, ρ, st, h⟩ := h
  refine ⟨F, fp, ρ, st, h.mono (fun o _ q F' fp' fr H' p st' ex pu ow hf => ?_) fun _ _ x => x⟩
  have mu := fun a z => (ow.mu a z).1
  refine q (AS.or F' fr) fp' (fun _ => False) H' p (st'.frz mu fun a z => (hf a z).2) ?_ pu (.zero ow.freeze) fun a z => z.elim
  refine ⟨fun a z => .inl (ex.sub a z), ex.fz, ex.same, fun a z => ?_, ex.fnew, ex.pure⟩
  rcases z with z | z
  · exact ex.new a z
  · rcases (hf a z).1 with z | z
    · exact .inr (.inl z)
    · exact .inr (.inr z)
theorem pe_frz {X : Cx} {e : Expr} {r : MP.Env → Res (Val × MP.Env)} (h : PE X e (tE K S Γ b k E r)) : PE X e (tE K S Γ b 0 E r) := h.imp fun _ _ _ => tE_frz
/-- by value is lent, too -/
theorem tB_of {r : MP.Env → Res (Val × MP.Env)} {Q : VK} (hk : k ≤ 1) (h : tB K S Γ b E r σ H Q) : tE K S Γ b k E r σ H Q := by
  obtain ⟨F, fp, ρ, st, h⟩ := h
  exact ⟨F, fp, ρ, st, h.mono (fun o _ q F' fp' fr H' p st' ex pu ow _ => q F' fp' H' p st' ex pu (ow.b1 hk)) fun _ _ x => x⟩
theorem pe_b {X : Cx} {e : Expr} {r : MP.Env → Res (Val × MP.Env)} (hk : k ≤ 1) (h : PE X e (tE K S Γ b k E r)) : PE X e (tB K S Γ b E r) := h.imp fun _ _ _ => tB_of hk
theorem B1.mono {v : Val} {p : V} (kp : Keeps F H H') (hF : ∀ a, F a → F' a) (hs : ∀ a, H a ≠ none → H' a = H a) (h : B1 K F H v p) : B1 K F' H' v p := by
  have rd : ∀ {a u}, Rd H a u → Rd H' a u := fun {a u} r => by
    have nn : H a ≠ none := by rcases r with r | ⟨o, r⟩ <;> rw [r] <;> simp
    unfold Rd at r ⊢; rw [hs a nn]; exact r
  cases v with
  | lst vs =>
    obtain ⟨a, ps, e, q, r⟩ := h
    exact ⟨a, ps, e, rd q, r.mono kp hF⟩
  | dict kvs =>
    obtain ⟨a, kps, e, q, r⟩ := h
    exact ⟨a, kps, e, rd q, r.mono kp hF⟩
  | dicT kvs =>
    obtain ⟨a, kps, e, q, r⟩ := h
    exact ⟨a, kps, e, rd q, r.mono kp hF⟩
  | _ => exact FR.mono kp hF h

/-- two operands: the first lent where the second changes nothing, else by value -/
structure Two (X : Cx) (l r : Expr) (S : Stat) (Γ : List Nat) (pa pb : Bool) (E : XK) (ea eb : MP.Env → Res (Val × MP.Env)) : Prop where
  a : PE X l (tE X.K S Γ pa 0 E ea) ∨ (pb = true ∧ PE X l (tB X.K S Γ pa E ea))
  b : PE X r (tB X.K S Γ pb E eb)

/-- by value at depth 0, in two steps: first what the state is, then what is known of the answer -/
def Fin2 (K : Fg) (S : Stat) (Γ : List Nat) (b : Bool) (E : XK) (ea eb : MP.Env → Res (Val × MP.Env)) (σ : L2.St) (H : Hp) (R : V → V → Hp → Prop) : Prop :=
  ∃ F fp ρ, Stt K Γ F fp ρ σ H ∧ RSat ((ea ρ).bind fun x => (eb x.2).bind fun y => .ok (x.1, y.1, y.2)) (fun o => ∀ F' fp' H' p q, Stt K Γ F' fp' o.2.2 σ H' → Ext b F fp H F' fp' H' → (b = true → o.2.2 = ρ) →
    B1 K F' H' o.1 p → B1 K F' H' o.2.1 q → R p q H') (XWish S E fp H)
theorem ext_and {pa pb : Bool} {F1 F2 : AS} {fp1 fp2 : Nat → AS} {H1 H2 : Hp} (e : Ext pa F fp H F1 fp1 H1) (d : Ext pb F1 fp1 H1 F2 fp2 H2) : Ext (pa && pb) F fp H F2 fp2 H2 := by
  cases pa with
  | false => exact e.trans d.weak
  | true =>
    cases pb with
    | true => exact e.trans d
    | false => exact e.weak.trans d
theorem Two.run {X : Cx} {l r : Expr} {pa pb : Bool} {ea eb : MP.Env → Res (Val × MP.Env)} (T : Two X l r S Γ pa pb E ea eb) :
    ∃ tl tr, PE X l tl ∧ PE X r tr ∧ ∀ σ H R, Fin2 X.K S Γ (pa && pb) E ea eb σ H R → tl σ H fun p H1 => tr σ H1 fun q H2 => R p q H2 := by
  obtain ⟨ha, hb⟩ := T
  rcases ha with ha | ⟨epb, ha⟩
  · refine ⟨_, _, ha, hb, fun σ H R ⟨F, fp, ρ, st, h⟩ => ⟨F, fp, ρ, st, ?_⟩⟩
    rw [RSat.bind] at h
    refine h.mono (fun o e1 q F1 fp1 fr H1 p st1 ex1 pu1 ow1 _ => ⟨F1, fp1, o.2, st1, ?_⟩) fun _ _ x => x
    rw [RSat.bind] at q
    refine q.mono (fun o2 e2 q2 F2 fp2 H2 p2 st2 ex2 pu2 b2 => ?_) fun _ _ x => x.ext ex1
    refine q2 F2 fp2 H2 p p2 st2 (ext_and ex1 ex2) (fun e => ?_) (ow1.1.mono (st1.keeps ex2) ex2.sub).b1 b2
    obtain ⟨e1, e2⟩ := Bool.and_eq_true_iff.mp e
    exact (pu2 e2).trans (pu1 e1)
  · subst epb
    refine ⟨_, _, ha, hb, fun σ H R ⟨F, fp, ρ, st, h⟩ => ⟨F, fp, ρ, st, ?_⟩⟩
    rw [RSat.bind] at h
    refine h.mono (fun o e1 q F1 fp1 H1 p st1 ex1 pu1 b1 => ⟨F1, fp1, o.2, st1, ?_⟩) fun _ _ x => x
    rw [RSat.bind] at q
    refine q.mono (fun o2 e2 q2 F2 fp2 H2 p2 st2 ex2 pu2 b2 => ?_) fun _ _ x => x.ext ex1
    refine q2 F2 fp2 H2 p p2 st2 (ext_and ex1 ex2) (fun e => ?_) (b1.mono (st1.keeps ex2) ex2.sub fun a n => ex2.same a n (.inl rfl)) b2
    obtain ⟨e1, e2⟩ := Bool.and_eq_true_iff.mp e
    exact (pu2 e2).trans (pu1 e1)

/-- a primitive of two operands, against a rule by values; its answer is owned to depth k -/
def P2 (K : Fg) (k : Nat) (r : R2) (f : Val → Val → Res Val) : Prop := ∀ (F : AS) (H : Hp) (x y v : Val) (p q : V) (Q : VK), (∀ a, F a → H a ≠ none) → B1 K F H x p → B1 K F H y q → f x y = .ok v →
  (∀ H' fr z, (∀ a, H a ≠ none → H' a = H a) → Own K F H' k v z fr → (∀ a, fr a → H a = none) → Q z H') → r p q H Q
/-- no primitive raises -/
def NoX {α : Type} (r : Res α) : Prop := ∀ c vs, r ≠ .exc c vs
theorem fin2 {r : R2} {f : Val → Val → Res Val} {ea eb : MP.Env → Res (Val × MP.Env)} (hp : P2 K k r f) (nx : ∀ x y, NoX (f x y)) {Q : VK}
    (h : tE K S Γ b k E (fun ρ => (ea ρ).bind fun x => (eb x.2).bind fun y => (f x.1 y.1).bind fun v => .ok (v, y.2)) σ H Q) : Fin2 K S Γ b E ea eb σ H fun p q H' => r p q H' Q := by
  obtain ⟨F, fp, ρ, st, h⟩ := h
  refine ⟨F, fp, ρ, st, ?_⟩
  rw [RSat.bind] at h ⊢
  refine h.mono (fun o e1 h => ?_) fun _ _ x => x
  rw [RSat.bind] at h ⊢
  refine h.mono (fun o2 e2 h F' fp' H' p q st' ex pu b1 b2 => ?_) fun _ _ x => x
  have h : RSat ((f o.1 o2.1).bind fun v => .ok (v, o2.2)) _ _ := h
  rw [RSat.bind] at h
  cases e : f o.1 o2.1 with
  | exc c vs => exact absurd e (nx _ _ c vs)
  | stuck => rw [e] at h; exact h.elim
  | ok v =>
    rw [e] at h
    refine hp F' H' o.1 o2.1 v p q Q st'.tr b1 b2 e fun H2 fr z al ow hf => ?_
    obtain ⟨st2, ex2⟩ := st'.alloc (b := b) al
    refine h F' fp' fr H2 z st2 (ex.trans ex2) pu ow fun a za => ?_
    have na := hf a za
    refine ⟨?_, fun i zi => ?_⟩
    · by_cases n : H a = none
      · exact .inl n
      · by_cases q : b = true ∨ ∀ i, ¬ fp i a
        · rw [ex.same a n q] at na
          exact absurd na n
        · rw [not_or] at q
          exact .inr ⟨by simpa using q.1, Classical.byContradiction fun w => q.2 fun i y => w ⟨i, y⟩⟩
    · exact (st'.mu zi).1.some na
end
end MP
/-! MiniPy against the hand layer: operators -/
namespace MP
open L2 PySem.Spec PySem PyProof.Rows

theorem big_line : big ≤ sizeLine := by rw [sizeLine_eq]; decide
theorem cpOk_iff {a : List Nat} : cpOk a = true ↔ a.all (· < 0x110000) = true ∧ a.length ≤ big := by
  unfold cpOk; rw [Bool.and_eq_true, decide_eq_true_eq]
theorem cpOk_len {a : List Nat} (h : cpOk a = true) : a.length ≤ big := (cpOk_iff.mp h).2
theorem cpOk_app {a b : List Nat} (ha : cpOk a = true) (hb : cpOk b = true) (hz : a.length + b.length ≤ big) : cpOk (a ++ b) = true := by
  rw [cpOk_iff] at *
  rw [List.all_append, ha.1, hb.1, List.length_append]; exact ⟨rfl, hz⟩
theorem toStr_app (a b : List Nat) : toStr a ++ toStr b = toStr (a ++ b) := by
  show PySem.Str.append _ _ = _
  unfold PySem.Str.append toStr; simp
theorem toStr_len (a : List Nat) : (toStr a).length = a.length := by unfold toStr PySem.Str.length; simp

section
variable {K : Fg} {F : AS} {H : Hp}
theorem B1.of_int {i : Int} {p : V} (h : B1 K F H (.int i) p) : p = .int i := FR.intS h
theorem B1.of_str {s : List Nat} {p : V} (h : B1 K F H (.str s) p) : p = .str (toStr s) ∧ cpOk s = true := FR.strS h
theorem B1.of_tup {vs : List Val} {p : V} (h : B1 K F H (.tup vs) p) : ∃ a ps, p = .ref a ∧ TupAt K H a ps ∧ FRs K F H vs ps := FR.tupS h
theorem rd_upd {a p : Addr} {u o : HO} (h : Rd H a u) (n : H p = none) : Rd (upd H p o) a u := by
  have q : a ≠ p := fun e => by subst e; rcases h with h | ⟨_, h⟩ <;> rw [n] at h <;> cases h
  unfold Rd at h ⊢
  rw [upd_ne q]; exact h
theorem upd_same_of {p : Addr} {o : HO} (n : H p = none) : ∀ a, H a ≠ none → upd H p o a = H a := fun a h => upd_ne fun e => h (e ▸ n)
theorem keeps_upd {p : Addr} {o : HO} (n : H p = none) : Keeps F H (upd H p o) := ⟨fun _ _ r => by rw [upd_ne (ne_of_none r n)]; exact r, fun _ _ _ r => rd_upd r n⟩
theorem FRs.upd {vs : List Val} {ps : List V} {p : Addr} {o : HO} (h : FRs K F H vs ps) (n : H p = none) : FRs K F (upd H p o) vs ps := h.mono (keeps_upd n) fun _ z => z
/-- a new list is owned -/
theorem own_newL {vs : List Val} {ps : List V} {p : Addr} (h : FRs K F H vs ps) (n : H p = none) (hF : ∀ a, F a → H a ≠ none) : Own K F (upd H p (.lst ps)) 1 (.lst vs) (.ref p) (fun b => b = p) :=
  Own.newL upd_same (fun f => hF p f n) (h.upd n)
theorem fr_newT {vs : List Val} {ps : List V} {p : Addr} (h : FRs K F H vs ps) (n : H p = none) : FR K F (upd H p (.tup ps)) (.tup vs) (.ref p) := .tup (.inl upd_same) (h.upd n)
end
/-- what the rule wants of a new list, of a new tuple -/
theorem q_newL {K : Fg} {F : AS} {H : Hp} {vs : List Val} {ps : List V} {Q : VK} (h : FRs K F H vs ps) (hF : ∀ a, F a → H a ≠ none)
    (q : ∀ H' fr z, (∀ a, H a ≠ none → H' a = H a) → Own K F H' 1 (.lst vs) z fr → (∀ a, fr a → H a = none) → Q z H') : ∀ p, H p = none → Q (.ref p) (upd H p (.lst ps)) :=
  fun p n => q _ _ _ (upd_same_of n) (own_newL h n hF) fun a e => by rw [e]; exact n
theorem q_newT {K : Fg} {F : AS} {H : Hp} {k : Nat} {vs : List Val} {ps : List V} {Q : VK} (h : FRs K F H vs ps)
    (q : ∀ H' fr z, (∀ a, H a ≠ none → H' a = H a) → Own K F H' k (.tup vs) z fr → (∀ a, fr a → H a = none) → Q z H') : ∀ p, H p = none → Q (.ref p) (upd H p (.tup ps)) :=
  fun p n => q _ _ _ (upd_same_of n) (.imm (fr_newT h n) rfl k) fun a e => e.elim
theorem q_imm {K : Fg} {F : AS} {H : Hp} {k : Nat} {v : Val} {z : V} {Q : VK} (h : FR K F H v z) (i : imm v = true)
    (q : ∀ H' fr z, (∀ a, H a ≠ none → H' a = H a) → Own K F H' k v z fr → (∀ a, fr a → H a = none) → Q z H') : Q z H := q H _ z (fun _ _ => rfl) (.imm h i k) fun _ e => e.elim

section
variable {X : Cx}
/-- xs + ys, also of what is only read -/
def rCatR : R2 := fun x y H Q => ∃ l b xs zs, x = .ref l ∧ y = .ref b ∧ Rd H l (.lst xs) ∧ Rd H b (.lst zs) ∧ xs.length + zs.length ≤ sizeLine ∧ ∀ p, H p = none → Q (.ref p) (upd H p (.lst (xs ++ zs)))
theorem op_catR : OpR X (binaryOp .Add) rCatR := by
  intro pins s σ H x y v u Q I rx ry h
  obtain ⟨l, b, xs, zs, rfl, rfl, hH, hB, hz, q⟩ := h
  cases rx; cases ry
  obtain ⟨_, its, n, r, e⟩ := hH.ok I.hok
  obtain ⟨_, jts, m, r2, e2⟩ := hB.ok I.hok
  have l1 := r.length
  have l2 := r2.length
  refine PySem.P.add_list e e2 ?_ (by simp only [List.size_toArray]; omega)
  rw [List.append_toArray]
  exact ⟨.ref _, _, I.lnew (t' := s.toks) (r.append r2) (by simp only [List.length_append]; exact hz), rfl, q _ I.fresh⟩
def rAddA (K : Fg) : R2 := fun x y H Q => rI0 (fun i j => .int (i + j)) x y H Q ∨ (fun x y (H : Hp) (Q : VK) => ∃ i j, x = .str i ∧ y = .str j ∧ i.length + j.length ≤ sizeLine ∧ Q (.str (i ++ j)) H) x y H Q ∨ rCatR x y H Q ∨ rCatA K x y H Q
theorem op_addA : OpR X (binaryOp .Add) (rAddA X.K) := op_add.or (op_add_str.or (op_catR.or op_catA))
theorem nil_of_len {α β : Type} {a : List α} {b : List β} (h : a.length = b.length) (z : b = []) : a = [] := by
  subst z
  exact List.eq_nil_of_length_eq_zero h
theorem p2_add (K : Fg) : P2 K 1 (rAddA K) (bin .add) := by
  intro F H x y v p q Q hF hx hy e hq
  cases x <;> cases y <;> first | (cases e; done) | skip
  · rename_i a b
    cases e
    cases B1.of_int hx; cases B1.of_int hy
    exact .inl ⟨_, _, rfl, rfl, q_imm (.int _) rfl hq⟩
  · rename_i a b
    simp only [bin] at e
    split at e
    · cases e
      obtain ⟨rfl, ca⟩ := B1.of_str hx
      obtain ⟨rfl, cb⟩ := B1.of_str hy
      refine .inr (.inl ⟨_, _, rfl, rfl, ?_, ?_⟩)
      · rw [toStr_len, toStr_len]; exact Nat.le_trans (by assumption) big_line
      · rw [toStr_app]; exact q_imm (.str (cpOk_app ca cb (by assumption))) rfl hq
    · cases e
  · rename_i a b
    simp only [bin] at e
    split at e
    · cases e
      obtain ⟨l, ps, rfl, hl, rs⟩ := B1.of_tup hx
      obtain ⟨m, qs, rfl, hm, rt⟩ := B1.of_tup hy
      have l1 := rs.length
      have l2 := rt.length
      refine .inr (.inr (.inr ⟨l, m, ps, qs, rfl, rfl, hl.sq, hm.sq, ?_, fun z => ?_, fun _ z => ?_, fun _ _ => q_newT (rs.append rt) hq⟩))
      · rw [← l1, ← l2]; exact Nat.le_trans (by assumption) big_line
      · cases nil_of_len l1 z
        exact q_imm (show FR K F H (.tup ([] ++ b)) _ from hy) rfl hq
      · cases nil_of_len l2 z
        exact q_imm (show FR K F H (.tup (a ++ [])) _ from by rw [List.append_nil]; exact hx) rfl hq
    · cases e
  · rename_i a b
    simp only [bin] at e
    split at e
    · cases e
      obtain ⟨l, ps, rfl, hl, rs⟩ := hx
      obtain ⟨m, qs, rfl, hm, rt⟩ := hy
      refine .inr (.inr (.inl ⟨l, m, ps, qs, rfl, rfl, hl, hm, ?_, q_newL (rs.append rt) hF hq⟩))
      rw [← rs.length, ← rt.length]; exact Nat.le_trans (by assumption) big_line
    · cases e
theorem p2_sub (K : Fg) : P2 K 1 (rI0 fun i j => .int (i - j)) (bin .sub) := by
  intro F H x y v p q Q hF hx hy e hq
  cases x <;> cases y <;> first | (cases e; done) | skip
  cases e
  cases B1.of_int hx; cases B1.of_int hy
  exact ⟨_, _, rfl, rfl, q_imm (.int _) rfl hq⟩
theorem p2_fdiv (K : Fg) : P2 K 1 (rI CDiv fun i j => .int (i / j)) (bin .fdiv) := by
  intro F H x y v p q Q hF hx hy e hq
  cases x <;> cases y <;> first | (cases e; done) | skip
  simp only [bin] at e
  split at e
  · cases e
    cases B1.of_int hx; cases B1.of_int hy
    exact ⟨_, _, rfl, rfl, by assumption, q_imm (.int _) rfl hq⟩
  · cases e
theorem p2_mod (K : Fg) : P2 K 1 (rI (fun _ j => 0 < j) fun i j => .int (i % j)) (bin .mod) := by
  intro F H x y v p q Q hF hx hy e hq
  cases x <;> cases y <;> first | (cases e; done) | skip
  simp only [bin] at e
  split at e
  · cases e
    cases B1.of_int hx; cases B1.of_int hy
    exact ⟨_, _, rfl, rfl, by assumption, q_imm (.int _) rfl hq⟩
  · cases e
theorem p2_pow (K : Fg) : P2 K 1 (rI CPow fun i j => .int (i ^ j.toNat)) (bin .pow) := by
  intro F H x y v p q Q hF hx hy e hq
  cases x <;> cases y <;> first | (cases e; done) | skip
  simp only [bin] at e
  split at e
  · rename_i h
    cases e
    cases B1.of_int hx; cases B1.of_int hy
    exact ⟨_, _, rfl, rfl, ⟨h.1, by omega, by omega⟩, q_imm (.int _) rfl hq⟩
  · cases e
theorem nox_bin (o : Bin) (x y : Val) : NoX (bin o x y) := by
  intro c vs h
  unfold bin at h
  split at h <;> first | cases h | (split at h <;> cases h)
/-- text * int -/
def rMulS : R2 := fun x y H Q => ∃ i n, x = .str i ∧ y = .int n ∧ -(2 ^ 63) ≤ n ∧ n < 2 ^ 63 ∧ i.length * n.toNat ≤ 16777216 ∧ Q (.str ⟨(List.replicate n.toNat i.cps.toList).flatten.toArray⟩) H
theorem fold_arr (x : Array Nat) : ∀ (m : Nat) (acc : List Nat), (List.replicate m x).foldl (· ++ ·) acc.toArray = (acc ++ (List.replicate m x.toList).flatten).toArray
  | 0, acc => by simp
  | m + 1, acc => by
    rw [List.replicate_succ, List.foldl_cons, show acc.toArray ++ x = (acc ++ x.toList).toArray from by cases x; rw [List.append_toArray], fold_arr x m]
    rw [List.replicate_succ, List.flatten_cons, List.append_assoc]
theorem op_mulS : OpR X (binaryOp .Mult) rMulS := by
  intro pins s σ H x y v u Q I rx ry h
  obtain ⟨z, n, rfl, rfl, h1, h2, h3, q⟩ := h
  obtain ⟨t, rfl⟩ := rx
  obtain ⟨t', rfl⟩ := ry
  have e1 : (decide (n < -(2 ^ 63 : Int)) || decide (n ≥ 2 ^ 63)) = false := by
    rw [decide_eq_false (by omega), decide_eq_false (by omega)]; rfl
  have hlen : ¬ n < 1 → (n == 1 || z.length == 0) = false → (z.length : Int) * n ≤ 16777216 := fun a _ => by
    have : ((z.length * n.toNat : Nat) : Int) ≤ 16777216 := Int.ofNat_le.mpr h3
    rw [Int.natCast_mul, Int.toNat_of_nonneg (by omega)] at this
    exact this
  refine PySem.P.mul_str e1 (fun a b c => ?_) (fun a b => ?_) ?_
  · have h4 := hlen a b
    have hn : 0 < n := by omega
    have := Int.mul_le_mul_of_nonneg_right (show (2 ^ 63 - 1) / n + 1 ≤ (z.length : Int) by omega) (Int.le_of_lt hn)
    have h5 := Int.lt_ediv_add_one_mul_self (2 ^ 63 - 1) hn
    omega
  · unfold Builtin.Str.tooLong
    exact decide_eq_false (by have := sizeLine_eq; omega)
  · by_cases a : n < 1
    · rw [if_pos a]
      have e0 : n.toNat = 0 := by omega
      rw [e0] at q
      exact ⟨by decide, .str _, H, I.tok _, ⟨_, rfl⟩, q⟩
    · rw [if_neg a]
      by_cases b : (n == 1 || z.length == 0) = true
      · rw [if_pos b]
        refine ⟨.str _, H, I, ⟨_, rfl⟩, ?_⟩
        have e2 : (List.replicate n.toNat z.cps.toList).flatten = z.cps.toList := by
          rw [Bool.or_eq_true] at b
          rcases b with b | b
          · have : n = 1 := by simpa using b
            subst this; simp
          · have : z.cps.toList = [] := by
              have : z.cps.size = 0 := by simpa [PySem.Str.length] using b
              simpa using this
            rw [this]; simp
        rw [e2] at q
        exact q
      · rw [if_neg b]
        have e3 := fold_arr z.cps n.toNat []
        rw [List.nil_append] at e3
        refine ⟨?_, .str _, H, I.tok _, ⟨_, rfl⟩, ?_⟩
        · rw [e3]
          show (List.replicate n.toNat z.cps.toList).flatten.toArray.size ≤ sizeLine
          rw [List.size_toArray, PyProof.Rows.lm_len_rep_flat, Array.length_toList, sizeLine_eq, Nat.mul_comm]
          exact h3
        · rw [← e3] at q
          exact q
/-- list * int, also of what is only read -/
def rRepR : R2 := fun x y H Q => ∃ l k xs, x = .ref l ∧ y = .int k ∧ Rd H l (.lst xs) ∧ -(2 ^ 63) ≤ k ∧ k < 2 ^ 63 ∧ xs.length * k.toNat ≤ sizeLine ∧ ∀ p, H p = none → Q (.ref p) (upd H p (.lst (List.replicate k.toNat xs).flatten))
theorem rep_fold (its : List Value) (m : Nat) : List.foldl (fun x1 x2 => x1 ++ x2) #[] (List.replicate m its.toArray) = (List.replicate m its).flatten.toArray := by
  have h := L2.foldl_rep its m []
  rw [List.nil_append] at h
  exact h
theorem fits63 {k : Int} (h1 : -(2 ^ 63) ≤ k) (h2 : k < 2 ^ 63) : (decide (k < -(2 ^ 63)) || decide (k ≥ 2 ^ 63)) = false := by
  rw [decide_eq_false (by omega), decide_eq_false (by omega)]; rfl
theorem op_repR : OpR X (binaryOp .Mult) rRepR := by
  intro pins s σ H x y v u Q I rx ry h
  obtain ⟨l, k, xs, rfl, rfl, hH, h1, h2, hz, q⟩ := h
  cases rx
  obtain ⟨t, rfl⟩ := ry
  obtain ⟨_, its, n, r, e⟩ := hH.ok I.hok
  have hl := r.length
  have hsz : its.toArray.size * k.toNat ≤ sizeLine := by rw [List.size_toArray, ← hl]; exact hz
  have hs := sizeLine_eq
  refine wpAny_binaryOp_repeat_ref (T := "list") (U := "int") (by decide) ⟨_, e, rfl⟩ (fun s' => typeIs_int s' k t) noFill_list_mul F.fills_int_mul F.slot_int_rmul repeat_list F.slot_int_index.lookup ?_
  refine call_meets F.slot_int_rmul (typeIs_int s k t) F.entry_int_rmul (F.args_int_rmul_2 _ _) (int___rmul___int_list k t l its.toArray n) ⟨e, rfl, ⟨_, e, rfl⟩, ?_⟩
  refine call_meets F.slot_list_mul ⟨_, e, rfl⟩ F.entry_list_mul (F.args_list_mul_2 _ _) (AutoListH.list___mul___list_int_3 l its.toArray n k t (by rw [fitsIndex_both h1 h2]; exact Bool.false_ne_true) (by omega) (by rw [notLongL hsz]; exact Bool.false_ne_true)) ⟨e, ?_⟩
  have hne : (if its.toArray.isEmpty = true then 0 else k.toNat) = k.toNat ∨ its = [] := by
    cases its with
    | nil => exact .inr rfl
    | cons a r' => exact .inl (if_neg (by simp))
  have hnew : List.foldl (fun x1 x2 => x1 ++ x2) #[] (List.replicate (if its.toArray.isEmpty = true then 0 else k.toNat) its.toArray) = (List.replicate k.toNat its).flatten.toArray := by
    rw [rep_fold]
    rcases hne with z | z
    · rw [z]
    · subst z; simp
  rw [hnew]
  exact ⟨.ref _, _, I.lnew (t' := s.toks) (r.rep k.toNat) (by rw [PyProof.Rows.lm_len_rep_flat, Nat.mul_comm]; exact hz), rfl, q _ I.fresh⟩

theorem tup_mul_same (l : Addr) (items : Array Value) (n : Nat) (dd : Option Addr) (sl : Array (Option Value)) (x : Int) (u : Tok) (c0 : (decide (x < -(2 ^ 63)) || decide (x ≥ 2 ^ 63)) = false) (c1 : (items.isEmpty || x == 1) = true) :
    Meets (Builtin.«tuple.__mul__» ⟨[.ref l, .int x u], []⟩) (fun _ R s => s.heap.get? l = some { cls := .type "tuple", dict := dd, data := .seq items n, slots := sl } ∧ R (.ok (.ret (Value.ref l))) s) :=
  .of_wp fun prog w A R s h => by
    obtain ⟨hp, g, d, tk, os⟩ := s
    obtain ⟨hl, h⟩ := h
    have f1 := AutoSeq1.idx_int
    wp_walk using wpAny_loadPart' hl
    repeat (first
      | (refine wpAny_ite_false (decide_eq_false (by rw [c0]; exact Bool.false_ne_true)) ?_; wp_walk using wpAny_loadPart' hl)
      | (refine wpAny_ite_true (decide_eq_true c1) ?_; wp_walk using wpAny_loadPart' hl)
      | (rw [if_pos c1]; wp_walk using wpAny_loadPart' hl))
    exact ⟨_, rfl, h⟩
theorem tup_mul_none (l : Addr) (items : Array Value) (n : Nat) (dd : Option Addr) (sl : Array (Option Value)) (x : Int) (u : Tok) (c0 : (decide (x < -(2 ^ 63)) || decide (x ≥ 2 ^ 63)) = false) (c1 : (items.isEmpty || x == 1) = false) (c2 : (decide (x ≤ 0) || items.isEmpty) = true) :
    Meets (Builtin.«tuple.__mul__» ⟨[.ref l, .int x u], []⟩) (fun _ R s => s.heap.get? l = some { cls := .type "tuple", dict := dd, data := .seq items n, slots := sl } ∧
      R (.ok (.ret (Value.ref s.heap.objs.size))) { s with heap := s.heap.push { cls := Value.type "tuple", data := Data.seq #[] }, toks := s.toks }) :=
  .of_wp fun prog w A R s h => by
    obtain ⟨hp, g, d, tk, os⟩ := s
    obtain ⟨hl, h⟩ := h
    have f1 := AutoSeq1.idx_int
    wp_walk using wpAny_loadPart' hl
    repeat (first
      | (refine wpAny_ite_false (decide_eq_false (by rw [c0]; exact Bool.false_ne_true)) ?_; wp_walk using wpAny_loadPart' hl)
      | (refine wpAny_ite_false (decide_eq_false (by rw [c1]; exact Bool.false_ne_true)) ?_; wp_walk using wpAny_loadPart' hl)
      | (refine wpAny_ite_true (decide_eq_true c2) ?_; wp_walk using wpAny_loadPart' hl))
    all_goals first | exact ⟨_, rfl, h⟩ | skip
/-- tuple * int -/
def rRepA (K : Fg) : R2 := fun x y H Q => ∃ l k xs, x = .ref l ∧ y = .int k ∧ SqT K H l xs ∧ -(2 ^ 63) ≤ k ∧ k < 2 ^ 63 ∧
  ((xs = [] ∨ k = 1) → Q (.ref l) H) ∧ (xs ≠ [] → k ≤ 0 → ∀ p, H p = none → Q (.ref p) (upd H p (.tup []))) ∧ (xs ≠ [] → 2 ≤ k → k ≤ 1000 ∧ xs.length ≤ 1000 ∧ ∀ p, H p = none → Q (.ref p) (upd H p (.tup (List.replicate k.toNat xs).flatten)))
theorem op_repA : OpR X (binaryOp .Mult) (rRepA X.K) := by
  intro pins s σ H x y v u Q I rx ry h
  obtain ⟨l, k, xs, rfl, rfl, hT, h1, h2, q1, q2, q3⟩ := h
  by_cases a : xs ≠ [] ∧ 2 ≤ k
  · obtain ⟨h3, h4, q⟩ := q3 a.1 a.2
    exact op_repT pins s σ H _ _ v u Q I rx ry ⟨l, k, xs, rfl, rfl, hT, a.1, a.2, h3, h4, q⟩
  · cases rx
    obtain ⟨t, rfl⟩ := ry
    obtain ⟨its, r, ⟨⟨cls, dd, data, sl⟩, ho, hc, n, hd⟩, hs⟩ := I.tuple hT
    simp only at hc hd
    subst hc hd
    have c0 := fits63 h1 h2
    refine wpAny_binaryOp_repeat_ref (T := "tuple") (U := "int") (by decide) ⟨_, ho, rfl⟩ (fun s' => typeIs_int s' k t) noFill_tuple_mul F.fills_int_mul F.slot_int_rmul repeat_tuple F.slot_int_index.lookup ?_
    refine call_meets F.slot_int_rmul (typeIs_int s k t) F.entry_int_rmul (F.args_int_rmul_2 _ _) (int_rmul_tuple k t l its.toArray n dd sl) ⟨ho, rfl, ⟨_, ho, rfl⟩, ?_⟩
    by_cases b : xs = [] ∨ k = 1
    · have c1 : (its.toArray.isEmpty || k == 1) = true := by
        rcases b with b | b
        · have : its = [] := nil_of_len r.length.symm b
          subst this; rfl
        · subst b; simp
      exact call_meets F.slot_tuple_mul ⟨_, ho, rfl⟩ F.entry_tuple_mul (F.args_tuple_mul_2 _ _) (tup_mul_same l its.toArray n dd sl k t c0 c1) ⟨ho, .ref l, H, I, rfl, q1 b⟩
    · rw [not_or] at b
      have hk : k ≤ 0 := by
        rcases Classical.not_and_iff_not_or_not.mp a with z | z
        · exact absurd b.1 z
        · omega
      have c1 : (its.toArray.isEmpty || k == 1) = false := by
        have : its.toArray.isEmpty = false := by
          cases its with
          | nil => exact absurd (nil_of_len r.length rfl) b.1
          | cons _ _ => rfl
        rw [this]
        simpa using b.2
      have c2 : (decide (k ≤ 0) || its.toArray.isEmpty) = true := by rw [decide_eq_true hk]; rfl
      refine call_meets F.slot_tuple_mul ⟨_, ho, rfl⟩ F.entry_tuple_mul (F.args_tuple_mul_2 _ _) (tup_mul_none l its.toArray n dd sl k t c0 c1 c2) ⟨ho, ?_⟩
      refine ⟨.ref s.heap.objs.size, _, I.laid (t' := s.toks) (o := .tup []) (fun b ob q => Heap.get?_push_of_some _ q) (Nat.le_refl _) ?_, rfl, q2 b.1 hk _ (I.hok.fresh (Nat.le_refl _))⟩
      exact ⟨Nat.zero_le _, [], .nil, IsTup.new _ _⟩

def rMulA (K : Fg) : R2 := fun x y H Q => rI CMul (fun i j => .int (i * j)) x y H Q ∨ rMulS x y H Q ∨ rRepR x y H Q ∨ rRepA K x y H Q
theorem op_mulA : OpR X (binaryOp .Mult) (rMulA X.K) := op_mul.or (op_mulS.or (op_repR.or op_repA))
theorem FRs.rep {K : Fg} {F : AS} {H : Hp} {vs : List Val} {ps : List V} (h : FRs K F H vs ps) : ∀ n : Nat, FRs K F H (List.replicate n vs).flatten (List.replicate n ps).flatten
  | 0 => .nil
  | n + 1 => by
    rw [List.replicate_succ, List.replicate_succ, List.flatten_cons, List.flatten_cons]
    exact h.append (FRs.rep h n)
theorem cp_rep {s : List Nat} (h : s.all (· < 0x110000) = true) : ∀ n : Nat, (List.replicate n s).flatten.all (· < 0x110000) = true
  | 0 => rfl
  | n + 1 => by rw [List.replicate_succ, List.flatten_cons, List.all_append, h, cp_rep h n]; rfl
theorem cpOk_rep {s : List Nat} (h : cpOk s = true) (n : Nat) (hz : s.length * n ≤ big) : cpOk (List.replicate n s).flatten = true := by
  rw [cpOk_iff] at *
  refine ⟨cp_rep h.1 n, ?_⟩
  rw [PyProof.Rows.lm_len_rep_flat, Nat.mul_comm]; exact hz
theorem small63_of {i : Int} (h : small63 i = true) : -(2 ^ 63) ≤ i ∧ i < 2 ^ 63 := by
  unfold small63 at h
  rw [Bool.and_eq_true] at h
  exact ⟨of_decide_eq_true h.1, of_decide_eq_true h.2⟩
theorem small_of {i : Int} (h : small64 i = true) : -(2 ^ 64) < i ∧ i < 2 ^ 64 := by
  unfold small64 at h
  rw [Bool.and_eq_true] at h
  exact ⟨of_decide_eq_true h.1, of_decide_eq_true h.2⟩
theorem p2_mul (K : Fg) : P2 K 1 (rMulA K) (bin .mul) := by
  intro F H x y v p q Q hF hx hy e hq
  cases x <;> cases y <;> first | (cases e; done) | skip
  · rename_i a b
    simp only [bin] at e
    split at e
    · rename_i h
      cases e
      cases B1.of_int hx; cases B1.of_int hy
      refine .inl ⟨_, _, rfl, rfl, ?_, q_imm (.int _) rfl hq⟩
      rw [Bool.or_eq_true] at h
      exact h.imp small_of small_of
    · cases e
  · rename_i a b
    simp only [bin] at e
    split at e
    · rename_i h
      cases e
      obtain ⟨rfl, ca⟩ := B1.of_str hx
      cases B1.of_int hy
      obtain ⟨h1, h2⟩ := Bool.and_eq_true_iff.mp h
      refine .inr (.inl ⟨_, _, rfl, rfl, ?_, ?_, ?_, ?_⟩)
      · have := (small63_of h1).1; exact this
      · have := (small63_of h1).2; exact this
      · have h3 := of_decide_eq_true h2
        rw [toStr_len]; unfold big at h3; omega
      · exact q_imm (.str (cpOk_rep ca _ (of_decide_eq_true h2))) rfl hq
    · cases e
  · rename_i a b
    simp only [bin] at e
    split at e
    · rename_i h
      cases e
      obtain ⟨l, ps, rfl, hl, rs⟩ := B1.of_tup hx
      cases B1.of_int hy
      obtain ⟨h1, h2⟩ := Bool.and_eq_true_iff.mp h
      have hk := small63_of h1
      have le := rs.length
      have h3 := of_decide_eq_true h2
      refine .inr (.inr (.inr ⟨l, b, ps, rfl, rfl, hl.sq, hk.1, hk.2, fun z => ?_, fun z w => ?_, fun z w => ?_⟩))
      · have e2 : MP.rep b a = a := by
          unfold MP.rep
          rcases z with z | z
          · rw [nil_of_len le z]; simp
          · subst z; simp
        rw [e2] at hq
        exact q_imm hx rfl hq
      · have e2 : MP.rep b a = [] := by
          unfold MP.rep
          rw [show b.toNat = 0 by omega]; rfl
        rw [e2] at hq
        exact q_newT .nil hq
      · exact ⟨h3.1, by rw [← le]; exact h3.2, q_newT (rs.rep _) hq⟩
    · cases e
  · rename_i a b
    simp only [bin] at e
    split at e
    · rename_i h
      cases e
      obtain ⟨l, ps, rfl, hl, rs⟩ := hx
      cases B1.of_int hy
      obtain ⟨h1, h2⟩ := Bool.and_eq_true_iff.mp h
      have hk := small63_of h1
      have le := rs.length
      have h3 := of_decide_eq_true h2
      refine .inr (.inr (.inl ⟨l, b, ps, rfl, rfl, hl, hk.1, hk.2, ?_, q_newL (rs.rep _) hF hq⟩))
      rw [← le]
      exact Nat.le_trans h3 big_line
    · cases e
end
end MP
/-! MiniPy against the hand layer: comparisons -/
namespace MP
open L2 PySem.Spec PySem PyProof.Rows

mutual
def dat : Val → PyData
  | .none => .none
  | .bool b => .bool b
  | .int i => .int i
  | .str s => .str (toStr s)
  | .tup vs => .tuple (dats vs)
  | .lst vs => .list (dats vs)
  | .dict _ => .none
  | .dicT _ => .none
  | .fn _ => .none
  | .txt _ => .none
def dats : List Val → List PyData
  | [] => []
  | v :: vs => dat v :: dats vs
end
theorem dats_map : ∀ vs : List Val, dats vs = vs.map dat
  | [] => rfl
  | v :: vs => by rw [dats, dats_map vs]; rfl
theorem dats_len (vs : List Val) : (dats vs).length = vs.length := by rw [dats_map, List.length_map]
theorem toStr_beq (a b : List Nat) : (toStr a == toStr b) = (a == b) := by
  by_cases h : a = b
  · subst h; simp
  · have h2 : toStr a ≠ toStr b := fun e => h (by unfold toStr at e; injection e with e; simpa using e)
    rw [beq_eq_false_iff_ne.mpr h2, beq_eq_false_iff_ne.mpr h]
mutual
theorem veq_dat : ∀ {n m : Nat} (v w : Val), shp n v = true → shp m w = true → veq v w = PyData.eqv (dat v) (dat w)
  | _, m, .none, w, _, h => by cases w <;> cases m <;> simp_all [veq, dat, PyData.eqv, shp]
  | _, m, .bool _, w, _, h => by cases w <;> cases m <;> simp_all [veq, dat, PyData.eqv, shp]
  | _, m, .int _, w, _, h => by cases w <;> cases m <;> simp_all [veq, dat, PyData.eqv, shp]
  | _, m, .str _, w, _, h => by cases w <;> cases m <;> simp_all [veq, dat, PyData.eqv, shp, toStr_beq]
  | n + 1, m, .tup vs, w, h, h' => by
    cases w with
    | tup ws =>
      cases m with
      | zero => simp [shp] at h'
      | succ m => simp only [veq, dat, PyData.eqv]; exact veqs_dat vs ws (by simpa [shp] using h) (by simpa [shp] using h')
    | dict _ => cases m <;> simp [shp] at h'
    | fn _ => cases m <;> simp [shp] at h'
    | _ => simp [veq, dat, PyData.eqv]
  | n + 1, m, .lst vs, w, h, h' => by
    cases w with
    | lst ws =>
      cases m with
      | zero => simp [shp] at h'
      | succ m => simp only [veq, dat, PyData.eqv]; exact veqs_dat vs ws (by simpa [shp] using h) (by simpa [shp] using h')
    | dict _ => cases m <;> simp [shp] at h'
    | fn _ => cases m <;> simp [shp] at h'
    | _ => simp [veq, dat, PyData.eqv]
  | 0, _, .tup _, _, h, _ => by simp [shp] at h
  | 0, _, .lst _, _, h, _ => by simp [shp] at h
  | 0, _, .dict _, _, h, _ => by simp [shp] at h
  | 0, _, .dicT _, _, h, _ => by simp [shp] at h
  | 0, _, .fn _, _, h, _ => by simp [shp] at h
  | 0, _, .txt _, _, h, _ => by simp [shp] at h
  | _ + 1, _, .dict _, _, h, _ => by simp [shp] at h
  | _ + 1, _, .dicT _, _, h, _ => by simp [shp] at h
  | _ + 1, _, .fn _, _, h, _ => by simp [shp] at h
  | _ + 1, _, .txt _, _, h, _ => by simp [shp] at h
theorem veqs_dat : ∀ {n m : Nat} (v w : List Val), shps n v = true → shps m w = true → veqs v w = PyData.eqvAll (dats v) (dats w)
  | _, _, [], [], _, _ => by simp [veqs, dats, PyData.eqvAll]
  | _, _, [], _ :: _, _, _ => by simp [veqs, dats, PyData.eqvAll]
  | _, _, _ :: _, [], _, _ => by simp [veqs, dats, PyData.eqvAll]
  | _, _, v :: vs, w :: ws, h, h' => by
    simp only [shps, Bool.and_eq_true] at h h'
    simp only [veqs, dats, PyData.eqvAll]
    rw [veq_dat v w h.1 h'.1, veqs_dat vs ws h.2 h'.2]
end
mutual
theorem shp_depth : ∀ {n : Nat} (v : Val), shp n v = true → (dat v).depth ≤ n
  | _, .none, _ => by simp [dat, PyData.depth]
  | _, .bool _, _ => by simp [dat, PyData.depth]
  | _, .int _, _ => by simp [dat, PyData.depth]
  | _, .str _, _ => by simp [dat, PyData.depth]
  | n + 1, .tup vs, h => by
    have := shps_depth vs (by simpa [shp] using h)
    simp only [dat, PyData.depth]; omega
  | n + 1, .lst vs, h => by
    have := shps_depth vs (by simpa [shp] using h)
    simp only [dat, PyData.depth]; omega
  | 0, .tup _, h => by simp [shp] at h
  | 0, .lst _, h => by simp [shp] at h
  | _, .dict _, h => by simp [dat, PyData.depth]
  | _, .dicT _, h => by simp [dat, PyData.depth]
  | _, .fn _, h => by simp [dat, PyData.depth]
  | _, .txt _, h => by simp [dat, PyData.depth]
theorem shps_depth : ∀ {n : Nat} (v : List Val), shps n v = true → PyData.depthAll (dats v) ≤ n
  | _, [], _ => by simp [dats, PyData.depthAll]
  | n, v :: vs, h => by
    simp only [shps, Bool.and_eq_true] at h
    have h1 := shp_depth v h.1
    have h2 := shps_depth vs h.2
    simp only [dats, PyData.depthAll]
    omega
end
section
variable {K : Fg} {F : AS} {H : Hp}
mutual
theorem FR.dp : ∀ {n : Nat} {v : Val} {p : V}, FR K F H v p → shp n v = true → Dp K H p (dat v) ∧ (dat v).canLay0 = true
  | _, _, _, .non, _ => ⟨.non, by simp [dat, PyData.canLay0]⟩
  | _, _, _, .bl b, _ => ⟨.bl b, by simp [dat, PyData.canLay0]⟩
  | _, _, _, .int i, _ => ⟨.int i, by simp [dat, PyData.canLay0]⟩
  | _, _, _, .str h, _ => ⟨.str _, by
      simp only [dat, PyData.canLay0]
      unfold PyData.strOk toStr
      simpa using (cpOk_iff.mp h).1⟩
  | _, _, _, .txt _, h => by simp [shp] at h
  | 0, _, _, .tup _ _, h => by simp [shp] at h
  | 0, _, _, .lst _ _ _, h => by simp [shp] at h
  | 0, _, _, .dK _ _ _, h => by simp [shp] at h
  | 0, _, _, .dT _ _ _, h => by simp [shp] at h
  | n + 1, _, _, .tup h hs, z => by
    obtain ⟨a, b⟩ := FRs.dp hs (by simpa [shp] using z)
    exact ⟨.tup (h.sq) a, by simpa [dat, PyData.canLay0] using b⟩
  | n + 1, _, _, .lst _ h hs, z => by
    obtain ⟨a, b⟩ := FRs.dp hs (by simpa [shp] using z)
    exact ⟨.lst (.inl h) a, by simpa [dat, PyData.canLay0] using b⟩
  | n + 1, _, _, .dK _ _ _, z => by simp [shp] at z
  | n + 1, _, _, .dT _ _ _, z => by simp [shp] at z
theorem FRs.dp : ∀ {n : Nat} {v : List Val} {p : List V}, FRs K F H v p → shps n v = true → DpAll K H p (dats v) ∧ PyData.canLayAll0 (dats v) = true
  | _, _, _, .nil, _ => ⟨.nil, by simp [dats, PyData.canLayAll0]⟩
  | _, _, _, .cons h t, z => by
    simp only [shps, Bool.and_eq_true] at z
    obtain ⟨a, b⟩ := FR.dp h z.1
    obtain ⟨c, d⟩ := FRs.dp t z.2
    exact ⟨.cons a c, by simp only [dats, PyData.canLayAll0, b, d, Bool.and_self]⟩
end
theorem B1.dp {n : Nat} {v : Val} {p : V} (h : B1 K F H v p) (z : shp n v = true) : Dp K H p (dat v) ∧ (dat v).canLay0 = true := by
  cases v with
  | lst vs =>
    obtain ⟨a, ps, rfl, hl, hs⟩ := h
    cases n with
    | zero => simp [shp] at z
    | succ n =>
      obtain ⟨c, d⟩ := hs.dp (by simpa [shp] using z)
      exact ⟨.lst (.inl hl) c, by simpa [dat, PyData.canLay0] using d⟩
  | dict kvs => cases n <;> simp [shp] at z
  | dicT kvs => cases n <;> simp [shp] at z
  | _ => exact FR.dp h z
theorem B1.shaped {v : Val} {p : V} (h : B1 K F H v p) (z : shp 60 v = true) : Dp K H p (dat v) ∧ SeqAt.shaped (dat v) = true := by
  obtain ⟨a, b⟩ := h.dp z
  refine ⟨a, ?_⟩
  unfold SeqAt.shaped
  rw [b, decide_eq_true (Nat.le_trans (shp_depth v z) (by decide))]
  rfl
end
/-- what == looks at: two texts that repr told, or data -/
theorem eqR_ok {K : Fg} {F : AS} {H : Hp} {x y : Val} {c : Bool} {p q : V} (e : eqR x y = .ok c) (hx : B1 K F H x p) (hy : B1 K F H y q) :
    (∃ i j, p = .str (toStr i) ∧ q = .str (toStr j) ∧ c = (i == j)) ∨ ∃ d g, Dp K H p d ∧ Dp K H q g ∧ SeqAt.shaped d = true ∧ SeqAt.shaped g = true ∧ c = PyData.eqv d g := by
  unfold eqR at e
  split at e
  · cases e
    cases hx; cases hy
    exact .inl ⟨_, _, rfl, rfl, rfl⟩
  · split at e
    · rename_i h
      unfold eqOk at h
      rw [Bool.and_eq_true] at h
      cases e
      obtain ⟨a, b⟩ := hx.shaped h.1
      obtain ⟨c, d⟩ := hy.shaped h.2
      exact .inr ⟨_, _, a, c, b, d, veq_dat x y h.1 h.2⟩
    · cases e
theorem nox_eqR (x y : Val) : NoX (eqR x y) := by
  intro c vs h
  unfold eqR at h
  split at h
  · cases h
  · split at h <;> cases h
def rEqX (K : Fg) : R2 := fun x y H Q => (∃ i j, x = .str (toStr i) ∧ y = .str (toStr j) ∧ Q (.bl (i == j)) H) ∨ rEqD K x y H Q
def rNeX (K : Fg) : R2 := fun x y H Q => (∃ i j, x = .str (toStr i) ∧ y = .str (toStr j) ∧ Q (.bl (!(i == j))) H) ∨ rNeD K x y H Q
theorem dec_toStr (i j : List Nat) : decide (V.str (toStr i) = V.str (toStr j)) = (i == j) := by rw [L2.dec_str, toStr_beq]
theorem op_eqX {X : Cx} (hu : X.A.units + 64 < cLine) : OpR X (compareOp .Eq) (rEqX X.K) := by
  intro pins s σ H x y v u Q I rx ry h
  rcases h with ⟨i, j, rfl, rfl, q⟩ | h
  · exact op_eq pins s σ H _ _ v u Q I rx ry ⟨rfl, by rw [dec_toStr]; exact q⟩
  · exact op_eqD hu pins s σ H x y v u Q I rx ry h
theorem op_neX {X : Cx} (hu : X.A.units + 64 < cLine) : OpR X (compareOp .NotEq) (rNeX X.K) := by
  intro pins s σ H x y v u Q I rx ry h
  rcases h with ⟨i, j, rfl, rfl, q⟩ | h
  · exact op_ne pins s σ H _ _ v u Q I rx ry ⟨rfl, by rw [dec_toStr]; exact q⟩
  · exact op_neD hu pins s σ H x y v u Q I rx ry h
theorem p2_eq (K : Fg) : P2 K 1 (rEqX K) (cmp .eq) := by
  intro F H x y v p q Q hF hx hy e hq
  have e : ((eqR x y).bind fun c => Res.ok (.bool c)) = .ok v := by cases x <;> cases y <;> exact e
  cases e1 : eqR x y <;> rw [e1] at e <;> cases e
  rcases eqR_ok e1 hx hy with ⟨i, j, rfl, rfl, rfl⟩ | ⟨d, g, h1, h2, h3, h4, rfl⟩
  · exact .inl ⟨i, j, rfl, rfl, q_imm (.bl _) rfl hq⟩
  · exact .inr ⟨d, g, h1, h2, h3, h4, q_imm (.bl _) rfl hq⟩
theorem p2_ne (K : Fg) : P2 K 1 (rNeX K) (cmp .ne) := by
  intro F H x y v p q Q hF hx hy e hq
  have e : ((eqR x y).bind fun c => Res.ok (.bool (!c))) = .ok v := by cases x <;> cases y <;> exact e
  cases e1 : eqR x y <;> rw [e1] at e <;> cases e
  rcases eqR_ok e1 hx hy with ⟨i, j, rfl, rfl, rfl⟩ | ⟨d, g, h1, h2, h3, h4, rfl⟩
  · exact .inl ⟨i, j, rfl, rfl, q_imm (.bl _) rfl hq⟩
  · exact .inr ⟨d, g, h1, h2, h3, h4, q_imm (.bl _) rfl hq⟩

/-! ### less -/
mutual
theorem alike_dat : ∀ (v w : Val), alike v w = true → PySem.W.alike (dat v) (dat w) = true
  | .none, w, h => by cases w <;> simp_all [alike, dat, PySem.W.alike]
  | .bool _, w, h => by cases w <;> simp_all [alike, dat, PySem.W.alike]
  | .int _, w, h => by cases w <;> simp_all [alike, dat, PySem.W.alike]
  | .str _, w, h => by cases w <;> simp_all [alike, dat, PySem.W.alike]
  | .tup vs, w, h => by
    cases w with
    | tup ws => simp only [dat, PySem.W.alike]; exact alikes_dat vs ws (by simpa [alike] using h)
    | _ => simp [alike] at h
  | .lst vs, w, h => by
    cases w with
    | lst ws => simp only [dat, PySem.W.alike]; exact alikes_dat vs ws (by simpa [alike] using h)
    | _ => simp [alike] at h
  | .dict _, w, h => by cases w <;> simp [alike] at h
  | .dicT _, w, h => by cases w <;> simp [alike] at h
  | .fn _, w, h => by cases w <;> simp [alike] at h
  | .txt _, w, h => by cases w <;> simp [alike] at h
theorem alikes_dat : ∀ (v w : List Val), alikes v w = true → PySem.W.alikeAll (dats v) (dats w) = true
  | [], _, _ => by simp [dats, PySem.W.alikeAll]
  | _ :: _, [], _ => by simp [dats, PySem.W.alikeAll]
  | v :: vs, w :: ws, h => by
    simp only [alikes, Bool.and_eq_true] at h
    simp only [dats, PySem.W.alikeAll, Bool.and_eq_true]
    exact ⟨alike_dat v w h.1, alikes_dat vs ws h.2⟩
end
theorem b2i_lt (a b : Bool) : decide (PyProof.Rows.b2i a < PyProof.Rows.b2i b) = (!a && b) := by cases a <;> cases b <;> decide
mutual
theorem vlt_dat : ∀ {n m : Nat} (v w : Val), alike v w = true → shp n v = true → shp m w = true → vlt v w = PySem.W.dataLt (dat v) (dat w)
  | _, _, .none, w, h, _, _ => by cases w <;> first | (simp [alike] at h; done) | skip; simp [vlt, dat, PySem.W.dataLt, PySem.W.keyToks, PyProof.Rows.lexLt]
  | _, _, .bool _, w, h, _, _ => by cases w <;> first | (simp [alike] at h; done) | skip; rw [dat, dat, PySem.W.dataLt_bool, vlt, b2i_lt]
  | _, _, .int _, w, h, _, _ => by cases w <;> first | (simp [alike] at h; done) | skip; rw [dat, dat, PySem.W.dataLt_int, vlt]
  | _, _, .str _, w, h, _, _ => by cases w <;> first | (simp [alike] at h; done) | skip; rw [dat, dat, PySem.W.dataLt_str, vlt]; simp only [toStr]; congr
  | n + 1, m, .tup vs, w, h, z, z' => by
    cases w <;> first | (simp [alike] at h; done) | skip
    cases m with
    | zero => simp [shp] at z'
    | succ m => rw [dat, dat, PySem.W.dataLt_tuple, vlt]; exact vlts_dat vs _ (by simpa [alike] using h) (by simpa [shp] using z) (by simpa [shp] using z')
  | n + 1, m, .lst vs, w, h, z, z' => by
    cases w <;> first | (simp [alike] at h; done) | skip
    cases m with
    | zero => simp [shp] at z'
    | succ m => rw [dat, dat, PySem.W.dataLt_list, vlt]; exact vlts_dat vs _ (by simpa [alike] using h) (by simpa [shp] using z) (by simpa [shp] using z')
  | 0, _, .tup _, _, _, h, _ => by simp [shp] at h
  | 0, _, .lst _, _, _, h, _ => by simp [shp] at h
  | 0, _, .dict _, _, _, h, _ => by simp [shp] at h
  | 0, _, .dicT _, _, _, h, _ => by simp [shp] at h
  | 0, _, .fn _, _, _, h, _ => by simp [shp] at h
  | 0, _, .txt _, _, _, h, _ => by simp [shp] at h
  | _ + 1, _, .dict _, _, _, h, _ => by simp [shp] at h
  | _ + 1, _, .dicT _, _, _, h, _ => by simp [shp] at h
  | _ + 1, _, .fn _, _, _, h, _ => by simp [shp] at h
  | _ + 1, _, .txt _, _, _, h, _ => by simp [shp] at h
theorem vlts_dat : ∀ {n m : Nat} (v w : List Val), alikes v w = true → shps n v = true → shps m w = true → vlts v w = PyProof.Rows.lexLt PyProof.Rows.itemOrd (PySem.W.keyToksAll (dats v)) (PySem.W.keyToksAll (dats w))
  | _, _, [], [], _, _, _ => by simp only [vlts, dats, PySem.W.keyToksAll]; rw [PyProof.Rows.lex_irrefl]
  | _, _, [], w :: ws, _, _, _ => by
    simp only [vlts, dats]
    rw [PySem.W.toks_all_cons]
    simp only [PySem.W.keyToksAll]
    rw [PyProof.Rows.lex_diff (O := PyProof.Rows.itemOrd) (by simp)]
    simp [PyProof.Rows.itemLt]
  | _, _, v :: vs, [], _, _, _ => by
    simp only [vlts, dats]
    rw [PySem.W.toks_all_cons]
    simp only [PySem.W.keyToksAll]
    rw [PyProof.Rows.lex_diff (O := PyProof.Rows.itemOrd) (by simp)]
    simp [PyProof.Rows.itemLt]
  | _, _, v :: vs, w :: ws, h, z, z' => by
    simp only [alikes, Bool.and_eq_true] at h
    simp only [shps, Bool.and_eq_true] at z z'
    simp only [vlts, dats]
    rw [PySem.W.dataLt_cons (alike_dat v w h.1), ← veq_dat v w z.1 z'.1, vlt_dat v w h.1 z.1 z'.1, vlts_dat vs ws h.2 z.2 z'.2]
end
section
variable {X : Cx}
def rLtD (K : Fg) : R2 := fun x y H Q => ∃ d e, Dp K H x d ∧ Dp K H y e ∧ PySem.W.alike d e = true ∧ d ≠ .none ∧ d.depth ≤ 60 ∧ Q (.bl (PySem.W.dataLt d e)) H
theorem op_ltD (hu : X.A.units + 64 < cLine) : OpR X (compareOp .Lt) (rLtD X.K) := by
  intro pins s σ H x y v u Q I rx ry h
  obtain ⟨d, e, hd, he, al, nn, dp, q⟩ := h
  obtain ⟨as, r1⟩ := Dp.reads I d x v hd rx
  obtain ⟨bs, r2⟩ := Dp.reads I e y u he ry
  exact PySem.W.rcLt_alike d e X.A s v u as bs r1 r2 al nn (by omega) X.prog X.w X.xe _ ⟨.bl _, H, I, rfl, q⟩
end
theorem p2_lt (K : Fg) : P2 K 1 (rLtD K) (cmp .lt) := by
  intro F H x y v p q Q hF hx hy e hq
  simp only [cmp] at e
  split at e
  · rename_i h
    simp only [Bool.and_eq_true] at h
    obtain ⟨⟨⟨h1, h2⟩, h3⟩, h4⟩ := h
    cases e
    refine ⟨_, _, (hx.dp h3).1, (hy.dp h4).1, alike_dat x y h1, ?_, shp_depth x h3, ?_⟩
    · cases x <;> simp [alike] at h1 <;> simp [dat] at * <;> simp [isNone] at h2
    · rw [← vlt_dat x y h1 h3 h4]
      exact q_imm (.bl _) rfl hq
  · cases e
theorem op_le2 {X : Cx} : OpR X (compareOp .LtE) (fun x y H Q => rI0 (fun i j => .bl (decide (i ≤ j))) x y H Q ∨ (fun x y (H : Hp) (Q : VK) => ∃ i j, x = .str i ∧ y = .str j ∧ Q (.bl (!decide (j.cps.toList < i.cps.toList))) H) x y H Q) := op_le.or op_le_str
theorem op_gt2 {X : Cx} : OpR X (compareOp .Gt) (fun x y H Q => rI0 (fun i j => .bl (decide (j < i))) x y H Q ∨ (fun x y (H : Hp) (Q : VK) => ∃ i j, x = .str i ∧ y = .str j ∧ Q (.bl (decide (j.cps.toList < i.cps.toList))) H) x y H Q) := op_gt.or op_gt_str
theorem op_ge2 {X : Cx} : OpR X (compareOp .GtE) (fun x y H Q => rI0 (fun i j => .bl (decide (j ≤ i))) x y H Q ∨ (fun x y (H : Hp) (Q : VK) => ∃ i j, x = .str i ∧ y = .str j ∧ Q (.bl (!decide (i.cps.toList < j.cps.toList))) H) x y H Q) := op_ge.or op_ge_str
theorem p2_le (K : Fg) : P2 K 1 (fun x y H Q => rI0 (fun i j => .bl (decide (i ≤ j))) x y H Q ∨ (fun x y (H : Hp) (Q : VK) => ∃ i j, x = .str i ∧ y = .str j ∧ Q (.bl (!decide (j.cps.toList < i.cps.toList))) H) x y H Q) (cmp .le) := by
  intro F H x y v p q Q hF hx hy e hq
  cases x <;> cases y <;> first | (cases e; done) | skip
  · cases e
    cases B1.of_int hx; cases B1.of_int hy
    exact .inl ⟨_, _, rfl, rfl, q_imm (.bl _) rfl hq⟩
  · cases e
    obtain ⟨rfl, _⟩ := B1.of_str hx
    obtain ⟨rfl, _⟩ := B1.of_str hy
    exact .inr ⟨_, _, rfl, rfl, q_imm (.bl _) rfl hq⟩
theorem p2_gt (K : Fg) : P2 K 1 (fun x y H Q => rI0 (fun i j => .bl (decide (j < i))) x y H Q ∨ (fun x y (H : Hp) (Q : VK) => ∃ i j, x = .str i ∧ y = .str j ∧ Q (.bl (decide (j.cps.toList < i.cps.toList))) H) x y H Q) (cmp .gt) := by
  intro F H x y v p q Q hF hx hy e hq
  cases x <;> cases y <;> first | (cases e; done) | skip
  · cases e
    cases B1.of_int hx; cases B1.of_int hy
    exact .inl ⟨_, _, rfl, rfl, q_imm (.bl _) rfl hq⟩
  · cases e
    obtain ⟨rfl, _⟩ := B1.of_str hx
    obtain ⟨rfl, _⟩ := B1.of_str hy
    exact .inr ⟨_, _, rfl, rfl, q_imm (.bl _) rfl hq⟩
theorem p2_ge (K : Fg) : P2 K 1 (fun x y H Q => rI0 (fun i j => .bl (decide (j ≤ i))) x y H Q ∨ (fun x y (H : Hp) (Q : VK) => ∃ i j, x = .str i ∧ y = .str j ∧ Q (.bl (!decide (i.cps.toList < j.cps.toList))) H) x y H Q) (cmp .ge) := by
  intro F H x y v p q Q hF hx hy e hq
  cases x <;> cases y <;> first | (cases e; done) | skip
  · cases e
    cases B1.of_int hx; cases B1.of_int hy
    exact .inl ⟨_, _, rfl, rfl, q_imm (.bl _) rfl hq⟩
  · cases e
    obtain ⟨rfl, _⟩ := B1.of_str hx
    obtain ⟨rfl, _⟩ := B1.of_str hy
    exact .inr ⟨_, _, rfl, rfl, q_imm (.bl _) rfl hq⟩
/-! ### is None -/
def rIsN : R2 := fun x y H Q => y = .non ∧ Q (.bl (decide (x = .non))) H
def rNotN : R2 := fun x y H Q => y = .non ∧ Q (.bl (!decide (x = .non))) H
theorem B1.isNone {K : Fg} {F : AS} {H : Hp} {v : Val} {p : V} (h : B1 K F H v p) : decide (p = .non) = isNone v := by
  cases v with
  | lst vs => obtain ⟨a, ps, rfl, _⟩ := h; rfl
  | dict vs => obtain ⟨a, _, rfl, _⟩ := h; rfl
  | dicT vs => obtain ⟨a, _, rfl, _⟩ := h; rfl
  | none => cases FR.nonS h; rfl
  | bool b => cases FR.blS h; rfl
  | int b => cases FR.intS h; rfl
  | str b => obtain ⟨rfl, _⟩ := FR.strS h; rfl
  | txt b => cases h; rfl
  | tup b => obtain ⟨a, ps, rfl, _⟩ := FR.tupS h; rfl
  | fn f => cases h
theorem p2_is (K : Fg) : P2 K 1 rIsN (cmp .is) := by
  intro F H x y v p q Q hF hx hy e hq
  cases y <;> first | (cases x <;> cases e; done) | skip
  have e' : Res.ok (Val.bool (isNone x)) = .ok v := by cases x <;> exact e
  cases e'
  cases FR.nonS hy
  refine ⟨rfl, ?_⟩
  rw [hx.isNone]
  exact q_imm (.bl _) rfl hq
theorem p2_isnot (K : Fg) : P2 K 1 rNotN (cmp .isnot) := by
  intro F H x y v p q Q hF hx hy e hq
  cases y <;> first | (cases x <;> cases e; done) | skip
  have e' : Res.ok (Val.bool (!isNone x)) = .ok v := by cases x <;> exact e
  cases e'
  cases FR.nonS hy
  refine ⟨rfl, ?_⟩
  rw [hx.isNone]
  exact q_imm (.bl _) rfl hq
end MP
/-! MiniPy against the hand layer: in, not in -/
namespace MP
open L2 PySem.Spec PySem PyProof.Rows

theorem tl_toStr (s : List Nat) : (toStr s).cps.toList = s := by simp [toStr]
theorem isPre {s l : List Nat} : s.isPrefixOf l = (l.take s.length == s) := by
  rw [Bool.eq_iff_iff, List.isPrefixOf_iff_prefix, List.prefix_iff_eq_take, beq_iff_eq]
  exact ⟨fun h => h.symm, fun h => h.symm⟩
theorem sub_occ (s t : List Nat) : (!(Builtin.Str.occurrences (toStr t) (toStr s) 0 (toStr t).length 1).isEmpty) = subStr s t := by
  unfold subStr
  split
  · rename_i c
    rw [show toStr [c] = ⟨#[c]⟩ from rfl, PySem.StrLaws.found_one, show (toStr t).cps.toList = t from tl_toStr t, List.contains_eq_mem]
  · rw [Bool.eq_iff_iff, PySem.StrLaws.found_iff, List.any_eq_true]
    simp only [List.mem_range]
    constructor
    · rintro ⟨i, h1, h2⟩
      rw [toStr_len, toStr_len] at h1
      rw [PySem.StrLaws.subAt_eq, toStr_len] at h2
      refine ⟨i, by omega, ?_⟩
      rw [isPre]
      have e : ((toStr t).cps.toList) = t := tl_toStr t
      have e2 : ((toStr s).cps.toList) = s := tl_toStr s
      rw [e, e2] at h2
      exact h2
    · rintro ⟨i, h1, h2⟩
      rw [isPre] at h2
      have e : ((toStr t).cps.toList) = t := tl_toStr t
      have e2 : ((toStr s).cps.toList) = s := tl_toStr s
      refine ⟨i, ?_, ?_⟩
      · have h3 := congrArg List.length (eq_of_beq h2)
        rw [List.length_take, List.length_drop] at h3
        rw [toStr_len, toStr_len]
        omega
      · rw [PySem.StrLaws.subAt_eq, toStr_len, e, e2]
        exact h2

/-! ### keys -/
def keyOf : Val → Option Key
  | .int i => some (.inl i)
  | .str s => some (.inr (toStr s))
  | _ => none
theorem kval_of {v : Val} {k : Key} (h : keyOf v = some k) : kval k = v := by
  cases v <;> simp only [keyOf] at h <;> first | (cases h; done) | skip
  · cases h; rfl
  · cases h
    show Val.str (toStr _).cps.toList = _
    rw [show (toStr _).cps.toList = _ from tl_toStr _]
theorem keyA_of {v : Val} (h : keyA v = true) : ∃ k, keyOf v = some k := by
  cases v <;> simp only [keyA] at h <;> first | (cases h; done) | exact ⟨_, rfl⟩
theorem veq_kval (a b : Key) : veq (kval a) (kval b) = decide (a = b) := by
  cases a with
  | inl i =>
    cases b with
    | inl j => simp only [kval, veq]; rw [L2.key_ll]
    | inr y => simp [kval, veq]
  | inr x =>
    cases b with
    | inl j => simp [kval, veq]
    | inr y =>
      simp only [kval, veq]
      rw [L2.key_rr, Bool.eq_iff_iff, beq_iff_eq, decide_eq_true_eq]
      exact ⟨fun h => Str.ext' (Array.toList_inj.mp h), fun h => by rw [h]⟩
theorem veqs_kval : ∀ (a b : List Key), veqs (a.map kval) (b.map kval) = decide (a = b)
  | [], [] => by simp [veqs]
  | [], _ :: _ => by simp [veqs]
  | _ :: _, [] => by simp [veqs]
  | a :: r, b :: t => by
    simp only [List.map_cons, veqs]
    rw [veq_kval, veqs_kval r t, Bool.eq_iff_iff]
    simp
section
variable {K : Fg} {F : AS} {H : Hp}
theorem FRk.keys : ∀ {kvs : List (Val × Val)} {kps : List (Key × V)}, FRk K F H kvs kps → kvs.map (·.1) = kps.map fun q => kval q.1
  | _, _, .nil => rfl
  | _, _, .cons _ _ t => by rw [List.map_cons, List.map_cons, t.keys]
theorem FRt.keys : ∀ {kvs : List (Val × Val)} {kps : List (List Key × V)}, FRt K F H kvs kps → kvs.map (·.1) = kps.map fun q => .tup (q.1.map kval)
  | _, _, .nil => rfl
  | _, _, .cons _ _ t => by rw [List.map_cons, List.map_cons, t.keys]
theorem FRk.length : ∀ {kvs : List (Val × Val)} {kps : List (Key × V)}, FRk K F H kvs kps → kvs.length = kps.length
  | _, _, .nil => rfl
  | _, _, .cons _ _ t => by simp [t.length]
theorem FRt.length : ∀ {kvs : List (Val × Val)} {kps : List (List Key × V)}, FRt K F H kvs kps → kvs.length = kps.length
  | _, _, .nil => rfl
  | _, _, .cons _ _ t => by simp [t.length]
/-- what stands at a key -/
def RelFO (K : Fg) (F : AS) (H : Hp) : Option Val → Option V → Prop
  | some v, some p => FR K F H v p
  | none, none => True
  | _, _ => False
theorem FRk.get (k : Key) : ∀ {kvs : List (Val × Val)} {kps : List (Key × V)}, FRk K F H kvs kps → RelFO K F H (dget kvs (kval k)) (valV kps k)
  | _, _, .nil => trivial
  | _, _, .cons (k := j) e h t => by
    have ih := FRk.get k t
    unfold dget at ih ⊢
    rw [List.find?_cons, veq_kval]
    by_cases z : j = k
    · rw [decide_eq_true z, valV_pos z]; exact h
    · rw [decide_eq_false z, valV_neg z]; exact ih
theorem FRt.get (k : List Key) : ∀ {kvs : List (Val × Val)} {kps : List (List Key × V)}, FRt K F H kvs kps → RelFO K F H (dget kvs (.tup (k.map kval))) (valV kps k)
  | _, _, .nil => trivial
  | _, _, .cons (k := j) e h t => by
    have ih := FRt.get k t
    unfold dget at ih ⊢
    rw [List.find?_cons]
    have e2 : veq (.tup (j.map kval)) (.tup (k.map kval)) = decide (j = k) := by rw [veq]; exact veqs_kval j k
    rw [e2]
    by_cases z : j = k
    · rw [decide_eq_true z, valV_pos z]; exact h
    · rw [decide_eq_false z, valV_neg z]; exact ih
theorem keys_of : ∀ {vs : List Val}, vs.all keyA = true → ∃ ks : List Key, vs = ks.map kval ∧ ∀ {ps : List V}, FRs K F H vs ps → ps = ks.map kV ∧ ks.all kvOk = true
  | [], _ => ⟨[], rfl, fun h => by cases h; exact ⟨rfl, rfl⟩⟩
  | v :: vs, h => by
    rw [List.all_cons, Bool.and_eq_true] at h
    obtain ⟨k, hk⟩ := keyA_of h.1
    obtain ⟨ks, e, r⟩ := keys_of (vs := vs) h.2
    refine ⟨k :: ks, by rw [List.map_cons, kval_of hk, e], fun q => ?_⟩
    cases q with
    | cons a b =>
      obtain ⟨e1, e2⟩ := r b
      cases v <;> simp only [keyOf] at hk <;> first | (cases hk; done) | skip
      · cases hk; cases a
        exact ⟨by rw [e1]; rfl, by rw [List.all_cons, e2]; rfl⟩
      · cases hk
        obtain ⟨rfl, c⟩ := FR.strS a
        refine ⟨by rw [e1]; rfl, ?_⟩
        rw [List.all_cons, e2, Bool.and_true]
        show cpOk (toStr _).cps.toList = true
        rw [show (toStr _).cps.toList = _ from tl_toStr _]; exact c
/-- a dict's key at hand: of which kind; the dict holds this kind alone -/
theorem key_flat {k : Val} {q : V} (hk : keyA k = true) (h : B1 K F H k q) : ∃ j : Key, kval j = k ∧ q = kV j ∧ kvOk j = true := by
  cases k <;> simp only [keyA] at hk <;> first | (cases hk; done) | skip
  · cases B1.of_int h
    exact ⟨.inl _, rfl, rfl, rfl⟩
  · obtain ⟨rfl, c⟩ := B1.of_str h
    refine ⟨.inr (toStr _), ?_, rfl, ?_⟩
    · show Val.str (toStr _).cps.toList = _
      rw [show (toStr _).cps.toList = _ from tl_toStr _]
    · show cpOk (toStr _).cps.toList = true
      rw [show (toStr _).cps.toList = _ from tl_toStr _]; exact c
end
end MP
namespace MP
open L2 PySem.Spec PySem PyProof.Rows
section
variable {K : Fg} {F : AS} {H : Hp}
/-- a tuple that is a dict's key -/
theorem key_tup {k : Val} {q : V} (hk : keyT k = true) (h : B1 K F H k q) : ∃ (js : List Key) (b : Addr), .tup (js.map kval) = k ∧ q = .ref b ∧ H b = some (.tup (js.map kV)) ∧ js.all kvOk = true := by
  cases k <;> simp only [keyT] at hk <;> first | (cases hk; done) | skip
  rename_i vs
  rw [Bool.and_eq_true, Bool.not_eq_true'] at hk
  obtain ⟨hk, hn⟩ := hk
  obtain ⟨a, ps, rfl, ha, rs⟩ := B1.of_tup h
  obtain ⟨ks, e, r⟩ := keys_of hk
  obtain ⟨e1, e2⟩ := r rs
  rcases ha with ha | ⟨_, _, _, _, _, _, _, _, h3, hs⟩
  · exact ⟨ks, a, by rw [e], rfl, by rw [← e1]; exact ha, e2⟩
  · exfalso
    have hl := rs.length
    have : vs.all strV = true := List.all_eq_true.mpr fun v hv => by
      obtain ⟨i, hi, ev⟩ := List.getElem_of_mem hv
      have e3 : vs[i]? = some v := by rw [List.getElem?_eq_getElem hi, ev]
      obtain ⟨p, e4, f⟩ := rs.at e3
      obtain ⟨z, rfl⟩ := hs p (List.mem_of_getElem? e4)
      have ka := List.all_eq_true.mp hk v hv
      cases f with
      | str _ => rfl
      | txt _ => cases ka
    rw [this, decide_eq_true (by omega)] at hn
    cases hn
/-- what a dict holds at a key -/
theorem dget_flat {kvs : List (Val × Val)} {a : Addr} {kps : List (Key × V)} {k : Val} {q : V} (hd : Rd H a (.dK kps)) (r : FRk K F H kvs kps) (hk : keyA k = true) (h : B1 K F H k q) :
    ∃ o, DGet H a q o ∧ RelFO K F H (dget kvs k) o := by
  obtain ⟨j, rfl, rfl, _⟩ := key_flat hk h
  exact ⟨valV kps j, .inl ⟨kps, j, hd, rfl, rfl⟩, r.get j⟩
theorem dget_tup {kvs : List (Val × Val)} {a : Addr} {kps : List (List Key × V)} {k : Val} {q : V} (hd : Rd H a (.dT kps)) (r : FRt K F H kvs kps) (hk : keyT k = true) (h : B1 K F H k q) :
    ∃ o, DGet H a q o ∧ RelFO K F H (dget kvs k) o := by
  obtain ⟨js, b, rfl, rfl, hb, _⟩ := key_tup hk h
  exact ⟨valV kps js, .inr ⟨kps, js, b, hd, rfl, hb, rfl⟩, r.get js⟩
theorem RelFO.isSome {o : Option Val} {u : Option V} (r : RelFO K F H o u) : o.isSome = u.isSome := by
  cases o <;> cases u <;> first | rfl | exact r.elim
end
def rInK (K : Fg) (neg : Bool) : R2 := fun x y H Q => (∃ d ds, Dp K H x d ∧ (Dp K H y (.list ds) ∨ Dp K H y (.tuple ds)) ∧ SeqAt.shaped d = true ∧ SeqAt.shaped (.list ds) = true ∧ Q (.bl (neg ^^ (ds.any fun z => PyData.eqv z d))) H) ∨
  (∃ i j, x = .str i ∧ y = .str j ∧ Q (.bl (neg ^^ !(Builtin.Str.occurrences j i 0 j.length 1).isEmpty)) H) ∨ ∃ a o, y = .ref a ∧ DGet H a x o ∧ Q (.bl (neg ^^ o.isSome)) H
theorem shaped_seq {ds : List PyData} : SeqAt.shaped (.tuple ds) = SeqAt.shaped (.list ds) := rfl
theorem op_inK {X : Cx} (hu : X.A.units + 65 < cLine) : OpR X (compareOp .In) (rInK X.K false) := by
  intro pins s σ H x y v u Q I rx ry h
  rcases h with ⟨d, ds, hd, he, sd, se, q⟩ | ⟨i, j, rfl, rfl, q⟩ | ⟨a, o, rfl, g, q⟩
  · obtain ⟨as, r1⟩ := Dp.reads I d x v hd rx
    rw [Bool.false_xor] at q
    rcases he with he | he
    · obtain ⟨bs, r2⟩ := Dp.reads I (.list ds) y u he ry
      exact SeqAt.in_list_reads r2 r1 (SeqAt.canLay_of_shaped se) (SeqAt.canLay_of_shaped sd) (room_in_shaped sd hu) ⟨.bl _, H, I, rfl, q⟩
    · obtain ⟨bs, r2⟩ := Dp.reads I (.tuple ds) y u he ry
      exact SeqAt.in_tuple_reads r2 r1 (SeqAt.canLay_of_shaped se) (SeqAt.canLay_of_shaped sd) (room_in_shaped sd hu) ⟨.bl _, H, I, rfl, q⟩
  · rw [Bool.false_xor] at q
    exact op_in_str pins s σ H _ _ v u Q I rx ry ⟨i, j, rfl, rfl, q⟩
  · cases ry
    rw [Bool.false_xor] at q
    exact d_in (by omega) I g rx fun s' I' => ⟨.bl _, H, I', rfl, q⟩
theorem op_notInK {X : Cx} (hu : X.A.units + 65 < cLine) : OpR X (compareOp .NotIn) (rInK X.K true) := by
  intro pins s σ H x y v u Q I rx ry h
  rcases h with ⟨d, ds, hd, he, sd, se, q⟩ | ⟨i, j, rfl, rfl, q⟩ | ⟨a, o, rfl, g, q⟩
  · obtain ⟨as, r1⟩ := Dp.reads I d x v hd rx
    rw [Bool.true_xor] at q
    rcases he with he | he
    · obtain ⟨bs, r2⟩ := Dp.reads I (.list ds) y u he ry
      exact SeqAt.notIn_list_reads r2 r1 (SeqAt.canLay_of_shaped se) (SeqAt.canLay_of_shaped sd) (room_in_shaped sd hu) ⟨.bl _, H, I, rfl, q⟩
    · obtain ⟨bs, r2⟩ := Dp.reads I (.tuple ds) y u he ry
      exact SeqAt.notIn_tuple_reads r2 r1 (SeqAt.canLay_of_shaped se) (SeqAt.canLay_of_shaped sd) (room_in_shaped sd hu) ⟨.bl _, H, I, rfl, q⟩
  · rw [Bool.true_xor] at q
    exact op_notin_str pins s σ H _ _ v u Q I rx ry ⟨i, j, rfl, rfl, q⟩
  · cases ry
    rw [Bool.true_xor] at q
    exact d_notIn (by omega) I g rx fun s' I' => ⟨.bl _, H, I', rfl, q⟩
theorem any_veq {n m : Nat} {x : Val} (hx : shp n x = true) : ∀ {ys : List Val}, shps m ys = true → ((dats ys).any fun z => PyData.eqv z (dat x)) = contains x ys
  | [], _ => by simp [dats, contains]
  | y :: ys, h => by
    simp only [shps, Bool.and_eq_true] at h
    have ih := any_veq hx h.2
    unfold contains at ih ⊢
    rw [dats, List.any_cons, List.any_cons, ih, veq_dat y x h.1 hx]
theorem shps_60 {K : Fg} {F : AS} {H : Hp} {ys : List Val} {ps : List V} (h : shps 60 ys = true) (r : FRs K F H ys ps) : SeqAt.shaped (.list (dats ys)) = true ∧ DpAll K H ps (dats ys) := by
  obtain ⟨a, b⟩ := r.dp h
  refine ⟨?_, a⟩
  unfold SeqAt.shaped
  have e : (PyData.list (dats ys)).canLay0 = true := by simpa [PyData.canLay0] using b
  have d := shps_depth ys h
  have e2 : (PyData.list (dats ys)).depth ≤ 61 := by simp only [PyData.depth]; omega
  rw [e, decide_eq_true (Nat.le_trans e2 (by decide))]
  rfl
theorem p2_memg (K : Fg) (neg : Bool) : P2 K 1 (rInK K neg) (fun x y => (memOf x y).bind fun r => .ok (.bool (neg ^^ r))) := by
  intro F H x y v p q Q hF hx hy e hq
  cases y with
  | str t =>
    cases x <;> simp only [memOf, Res.bind] at e <;> first | (cases e; done) | skip
    cases e
    obtain ⟨rfl, _⟩ := B1.of_str hx
    obtain ⟨rfl, _⟩ := B1.of_str hy
    refine .inr (.inl ⟨_, _, rfl, rfl, ?_⟩)
    rw [sub_occ]
    exact q_imm (.bl _) rfl hq
  | lst ys =>
    simp only [memOf] at e
    split at e
    · rename_i h
      rw [Bool.and_eq_true] at h
      cases e
      obtain ⟨a, ps, rfl, ha, rs⟩ := hy
      obtain ⟨s1, s2⟩ := shps_60 h.2 rs
      obtain ⟨d1, d2⟩ := hx.shaped h.1
      refine .inl ⟨dat x, dats ys, d1, .inl (.lst (.inl ha) s2), d2, s1, ?_⟩
      rw [any_veq h.1 h.2]
      exact q_imm (.bl _) rfl hq
    · cases e
  | tup ys =>
    simp only [memOf] at e
    split at e
    · rename_i h
      rw [Bool.and_eq_true] at h
      cases e
      obtain ⟨a, ps, rfl, ha, rs⟩ := B1.of_tup hy
      obtain ⟨s1, s2⟩ := shps_60 h.2 rs
      obtain ⟨d1, d2⟩ := hx.shaped h.1
      refine .inl ⟨dat x, dats ys, d1, .inr (.tup ha.sq s2), d2, s1, ?_⟩
      rw [any_veq h.1 h.2]
      exact q_imm (.bl _) rfl hq
    · cases e
  | dict kvs =>
    simp only [memOf] at e
    split at e
    · rename_i h
      cases e
      obtain ⟨a, kps, rfl, ha, rs⟩ := hy
      obtain ⟨o, g, r⟩ := dget_flat ha rs h hx
      refine .inr (.inr ⟨a, o, rfl, g, ?_⟩)
      rw [← r.isSome]
      exact q_imm (.bl _) rfl hq
    · cases e
  | dicT kvs =>
    simp only [memOf] at e
    split at e
    · rename_i h
      cases e
      obtain ⟨a, kps, rfl, ha, rs⟩ := hy
      obtain ⟨o, g, r⟩ := dget_tup ha rs h hx
      refine .inr (.inr ⟨a, o, rfl, g, ?_⟩)
      rw [← r.isSome]
      exact q_imm (.bl _) rfl hq
    · cases e
  | _ => simp only [memOf, Res.bind] at e; cases e
theorem p2_mem (K : Fg) : P2 K 1 (rInK K false) (cmp .mem) := by
  have h := p2_memg K false
  intro F H x y v p q Q hF hx hy e hq
  refine h F H x y v p q Q hF hx hy ?_ hq
  rw [← e]
  simp only [cmp, Bool.false_xor]
theorem p2_nmem (K : Fg) : P2 K 1 (rInK K true) (cmp .nmem) := by
  have h := p2_memg K true
  intro F H x y v p q Q hF hx hy e hq
  refine h F H x y v p q Q hF hx hy ?_ hq
  rw [← e]
  simp only [cmp, Bool.true_xor]
theorem nox_mem (x y : Val) : NoX (memOf x y) := by
  intro c vs h
  unfold memOf at h
  split at h <;> first | cases h | (split at h <;> cases h)
theorem nox_cmp (o : MP.Cmp) (x y : Val) : NoX (cmp o x y) := by
  intro c vs h
  unfold cmp at h
  split at h <;> first
    | cases h
    | (split at h <;> cases h)
    | (cases e : memOf _ _ <;> first | exact absurd e (nox_mem _ _ _ _) | (rw [e] at h; cases h))
    | (cases e : eqR _ _ <;> first | exact absurd e (nox_eqR _ _ _ _) | (rw [e] at h; cases h))
/-- a comparison tells a flag -/
theorem cmp_bool {o : MP.Cmp} {x y v : Val} (h : cmp o x y = .ok v) : ∃ c, v = .bool c := by
  unfold cmp at h
  split at h <;> first
    | (cases h; exact ⟨_, rfl⟩)
    | (split at h <;> cases h; exact ⟨_, rfl⟩)
    | (cases e : memOf _ _ <;> rw [e] at h <;> cases h; exact ⟨_, rfl⟩)
    | (cases e : eqR _ _ <;> rw [e] at h <;> cases h; exact ⟨_, rfl⟩)
    | cases h
end MP
/-! MiniPy against the hand layer: the rules' judgements -/
namespace MP
open L2 PySem.Spec PySem PyProof.Rows

structure Ct where
  S : Stat
  N : List PySem.Str
  sc : Scope
  fn : PySem.Str → Bool
  io : List (Nat × Nat)
  ret : Nat
  bk : List Nat
section
variable (K : Fg) (S : Stat) (Γ : List Nat) (b : Bool) (E : XK)
/-- a test -/
def tT (r : MP.Env → Res (Bool × MP.Env)) : TT := fun σ H Q => ∃ F fp ρ, Stt K Γ F fp ρ σ H ∧ RSat (r ρ) (fun o => ∀ F' fp' H', Stt K Γ F' fp' o.2 σ H' → Ext b F fp H F' fp' H' → (b = true → o.2 = ρ) → Q o.1 H') (XWish S E fp H)
end
/-- a name that may be stored to -/
def StOk (C : Ct) (x : PySem.Str) : Bool := match C.sc.names.lookup x with
  | some .local => true
  | some .cell => C.fn x
  | _ => false
/-- how arguments come: by value, or a slot's own -/
inductive Arg (K : Fg) (F : AS) (H : Hp) (σ : L2.St) : List (Option Nat) → List Val → List V → Prop
  | nil : Arg K F H σ [] [] []
  | val {ss : List (Option Nat)} {v : Val} {p : V} {vs : List Val} {ps : List V} : FR K F H v p → Arg K F H σ ss vs ps → Arg K F H σ (none :: ss) (v :: vs) (p :: ps)
  | slot {ss : List (Option Nat)} {i : Nat} {v : Val} {p : V} {vs : List Val} {ps : List V} : σ[i]? = some (some p) → Arg K F H σ ss vs ps → Arg K F H σ (some i :: ss) (v :: vs) (p :: ps)
section
variable (K : Fg) (S : Stat) (Γ : List Nat) (b : Bool) (ss : List (Option Nat)) (E : XK)
def tArg (r : MP.Env → Res (List Val × MP.Env)) : TA := fun σ H Q => ∃ F fp ρ, Stt K Γ F fp ρ σ H ∧ RSat (r ρ) (fun o => ∀ F' fp' H' ps, Stt K Γ F' fp' o.2 σ H' → Ext b F fp H F' fp' H' → (b = true → o.2 = ρ) →
  Arg K F' H' σ ss o.1 ps → Q ps H') (XWish S E fp H)
end
/-- what a loop walks: these values, whatever the heap does to others -/
def Walks (K : Fg) (F : AS) (H : Hp) (xs : List Val) (J : L2.It) : Prop := ∀ (i : Nat) (F2 : AS) (H2 : Hp), (∀ a, F a → F2 a) → Keeps F H H2 →
  (xs.length = i → J.stop i H2) ∧ (∀ v, xs[i]? = some v → J.go i H2 ∧ ∀ x H3, J.yld i H2 x H3 → (∀ a, H2 a ≠ none → H3 a = H2 a) ∧ FR K F2 H3 v x)
/-- .. so long as nothing that is there is written -/
def WalksB (K : Fg) (F : AS) (H : Hp) (xs : List Val) (J : L2.It) : Prop := ∀ (i : Nat) (F2 : AS) (H2 : Hp), (∀ a, F a → F2 a) → (∀ a, H a ≠ none → H2 a = H a) →
  (xs.length = i → J.stop i H2) ∧ (∀ v, xs[i]? = some v → J.go i H2 ∧ ∀ x H3, J.yld i H2 x H3 → (∀ a, H2 a ≠ none → H3 a = H2 a) ∧ FR K F2 H3 v x)
section
variable (K : Fg) (S : Stat) (Γ : List Nat) (b : Bool) (fz : Bool) (E : XK)
def tI (r : MP.Env → Res (List Val × MP.Env)) : TI := fun σ H R => ∃ F fp ρ, Stt K Γ F fp ρ σ H ∧ RSat (r ρ) (fun o => ∀ F' fp' H' J, Stt K Γ F' fp' o.2 σ H' → Ext b F fp H F' fp' H' → (b = true → o.2 = ρ) →
  (if fz = true then Walks K F' H' o.1 J else WalksB K F' H' o.1 J) → R J H') (XWish S E fp H)
end
/-- a target's store -/
def tG (K : Fg) (C : Ct) (Γ : List Nat) (t : T) : L2.TG := fun x σ H Q => ∃ F fp ρ v ρ', Stt K Γ F fp ρ σ H ∧ FR K F H v x ∧ bindT t v ρ = some ρ' ∧ ∀ σ', Stt K Γ F fp ρ' σ' H → (∀ j, t.has j = false → σ'[j]? = σ[j]?) → Q σ' H
def tGs (K : Fg) (C : Ct) (Γ : List Nat) (ts : List T) : L2.TGs := fun xs σ H Q => ∃ F fp ρ vs ρ', Stt K Γ F fp ρ σ H ∧ FRs K F H vs xs ∧ bindTs ts vs ρ = some ρ' ∧ ∀ σ', Stt K Γ F fp ρ' σ' H → (∀ j, T.hasAny ts j = false → σ'[j]? = σ[j]?) → Q σ' H
/-- a statement -/
def tS (K : Fg) (C : Ct) (Γ Γ' : List Nat) (E : XK) (r : MP.Env → Res (MP.Flow × MP.Env)) : TS := fun D σ H => ∃ F fp ρ, Stt K Γ F fp ρ σ H ∧ RSat (r ρ) (fun o => match o.1 with
  | .next => ∀ F' fp' σ' H', Stt K Γ' F' fp' o.2 σ' H' → Ext false F fp H F' fp' H' → (∀ q ∈ C.io, σ'[q.1]? = σ[q.1]?) → D.nx σ' H'
  | .brk => ∀ F' fp' σ' H', Stt K C.bk F' fp' o.2 σ' H' → Ext false F fp H F' fp' H' → (∀ q ∈ C.io, σ'[q.1]? = σ[q.1]?) → D.bk σ' H'
  | .ret v => ∀ ρr Γr F' fp' fr σ' H' p, (∀ q ∈ C.io, Γr.getD q.1 0 = q.2 ∧ ρr[q.1]? = o.2[q.1]? ∧ σ'[q.1]? = σ[q.1]?) → Stt K Γr F' fp' ρr σ' H' → Ext false F fp H F' fp' H' →
      Own K F' H' C.ret v p fr → (∀ a, fr a → (H a = none ∨ ∃ i, fp i a) ∧ ∀ i, ¬ fp' i a) → D.rt p H') (XWish C.S E fp H)

theorem StOk.loc {C : Ct} {x : PySem.Str} (h : StOk C x = true) {R : Rt} {n : Nat} {E : XK} {X : Cx} (cx : CxOk C.S R n C.N C.sc C.fn E X) : Loc X.env.scope x ∧ (X.fn x = true ∨ X.env.scope.names.lookup x = some .local) := by
  unfold StOk at h
  rw [cx.scope]
  split at h
  · exact ⟨.inl (by assumption), .inr (by assumption)⟩
  · exact ⟨.inr (by assumption), .inl (cx.fnq _ h)⟩
  · cases h
def JE (C : Ct) (Γ : List Nat) (b : Bool) (k : Nat) (e : Expr) (t : MP.E) : Prop := ∀ {n R E X}, CxOk C.S R n C.N C.sc C.fn E X → PE X e (tE X.K C.S Γ b k E (evE (C.S.gl n) t))
def JB (C : Ct) (Γ : List Nat) (b : Bool) (e : Expr) (t : MP.E) : Prop := ∀ {n R E X}, CxOk C.S R n C.N C.sc C.fn E X → PE X e (tB X.K C.S Γ b E (evE (C.S.gl n) t))
def evT (G : Gl) (t : MP.E) : MP.Env → Res (Bool × MP.Env) := fun ρ => (evE G t ρ).bind fun x => (truthy x.1).bind fun c => .ok (c, x.2)
def JT (C : Ct) (Γ : List Nat) (b : Bool) (e : Expr) (t : MP.E) : Prop := ∀ {n R E X}, CxOk C.S R n C.N C.sc C.fn E X → PT X e (tT X.K C.S Γ b E (evT (C.S.gl n) t))
def JA (C : Ct) (Γ : List Nat) (b : Bool) (ss : List (Option Nat)) (es : List Expr) (ts : MP.Es) : Prop := ∀ {n R E X}, CxOk C.S R n C.N C.sc C.fn E X → PA X es (tArg X.K C.S Γ b ss E (evEs (C.S.gl n) ts))
def JI (C : Ct) (Γ : List Nat) (b fz : Bool) (tg e : Expr) (t : MP.It) : Prop := ∀ {n R E X}, CxOk C.S R n C.N C.sc C.fn E X → PI X tg e (tI X.K C.S Γ b fz E (evI (C.S.gl n) t))
def JG (C : Ct) (Γ : List Nat) (tg : Expr) (t : MP.T) : Prop := ∀ {n R E X}, CxOk C.S R n C.N C.sc C.fn E X → PG X tg (tG X.K C Γ t)
def JGs (C : Ct) (Γ : List Nat) (tg : List Expr) (t : List MP.T) : Prop := ∀ {n R E X}, CxOk C.S R n C.N C.sc C.fn E X → PGs X tg (tGs X.K C Γ t)
def JS (C : Ct) (Γ : List Nat) (st : Stmt) (t : MP.S) (Γ' : List Nat) : Prop := ∀ {n R E X}, CxOk C.S R n C.N C.sc C.fn E X → PS X st (tS X.K C Γ Γ' E (evS (C.S.gl n) t))
def JSs (C : Ct) (Γ : List Nat) (st : List Stmt) (t : MP.Ss) (Γ' : List Nat) : Prop := ∀ {n R E X}, CxOk C.S R n C.N C.sc C.fn E X → PSs X st (tS X.K C Γ Γ' E (evSs (C.S.gl n) t))

section
variable {K : Fg} {S : Stat} {Γ Γ' : List Nat} {F F' : AS} {fp fp' : Nat → AS} {ρ : MP.Env} {σ : L2.St} {H H' : Hp} {b : Bool} {k : Nat} {E : XK} {C : Ct}
theorem Ext.to {b' : Bool} (e : Ext b' F fp H F' fp' H') (h : b = true → b' = true) : Ext b F fp H F' fp' H' := by
  cases b with
  | false => exact e.weak
  | true => cases h rfl; exact e
theorem tE.le {b' : Bool} {r : MP.Env → Res (Val × MP.Env)} {Q : VK} (hb : b = true → b' = true) (h : tE K S Γ b k E r σ H Q) : tE K S Γ b' k E r σ H Q := by
  obtain ⟨F, fp, ρ, st, h⟩ := h
  refine ⟨F, fp, ρ, st, h.mono (fun o _ q F' fp' fr H' p s1 ex pu ow hf => q F' fp' fr H' p s1 (ex.to hb) (fun e => pu (hb e)) ow fun a z => ⟨?_, (hf a z).2⟩) fun _ _ x => x⟩
  rcases (hf a z).1 with z | ⟨z, w⟩
  · exact .inl z
  · refine .inr ⟨?_, w⟩
    cases b with
    | false => rfl
    | true => rw [hb rfl] at z; cases z
theorem tB.le {b' : Bool} {r : MP.Env → Res (Val × MP.Env)} {Q : VK} (hb : b = true → b' = true) (h : tB K S Γ b E r σ H Q) : tB K S Γ b' E r σ H Q := by
  obtain ⟨F, fp, ρ, st, h⟩ := h
  exact ⟨F, fp, ρ, st, h.mono (fun o _ q F' fp' H' p s1 ex pu ow => q F' fp' H' p s1 (ex.to hb) (fun e => pu (hb e)) ow) fun _ _ x => x⟩
/-- what changes nothing may stand where changes are let -/
theorem JE.any {e : Expr} {t : MP.E} (h : JE C Γ true k e t) (b : Bool) : JE C Γ b k e t := fun cx => (h cx).imp fun _ _ _ q => q.le fun _ => rfl
theorem JB.any {e : Expr} {t : MP.E} (h : JB C Γ true e t) (b : Bool) : JB C Γ b e t := fun cx => (h cx).imp fun _ _ _ q => q.le fun _ => rfl
theorem JE.frz {e : Expr} {t : MP.E} (h : JE C Γ b k e t) : JE C Γ b 0 e t := fun cx => pe_frz (h cx)
theorem JE.lent {e : Expr} {t : MP.E} (h : JE C Γ b k e t) (hk : k ≤ 1 := by decide) : JB C Γ b e t := fun cx => pe_b hk (h cx)
/-- two operands -/
theorem two1 {a e : Expr} {ta te : MP.E} (ha : JE C Γ b 0 a ta) (hb : JB C Γ b e te) {n R E X} (cx : CxOk C.S R n C.N C.sc C.fn E X) : Two X a e C.S Γ b b E (evE (C.S.gl n) ta) (evE (C.S.gl n) te) := ⟨.inl (ha cx), hb cx⟩
theorem two2 {a e : Expr} {ta te : MP.E} (ha : JB C Γ b a ta) (hb : JB C Γ true e te) {n R E X} (cx : CxOk C.S R n C.N C.sc C.fn E X) : Two X a e C.S Γ b true E (evE (C.S.gl n) ta) (evE (C.S.gl n) te) := ⟨.inr ⟨rfl, ha cx⟩, hb cx⟩
/-- two operands, in either way -/
def J2 (C : Ct) (Γ : List Nat) (b : Bool) (a e : Expr) (ta te : MP.E) : Prop := ∀ {n R E X}, CxOk C.S R n C.N C.sc C.fn E X → ∃ pb, (b && pb) = b ∧ Two X a e C.S Γ b pb E (evE (C.S.gl n) ta) (evE (C.S.gl n) te)
theorem J2.v {a e : Expr} {ta te : MP.E} (ha : JE C Γ b 0 a ta) (hb : JB C Γ b e te) : J2 C Γ b a e ta te := fun cx => ⟨b, by cases b <;> rfl, two1 ha hb cx⟩
theorem J2.l {a e : Expr} {ta te : MP.E} (ha : JB C Γ b a ta) (hb : JB C Γ true e te) : J2 C Γ b a e ta te := fun cx => ⟨true, by cases b <;> rfl, two2 ha hb cx⟩
theorem J2.run {a e : Expr} {ta te : MP.E} (h : J2 C Γ b a e ta te) {n R E X} (cx : CxOk C.S R n C.N C.sc C.fn E X) :
    ∃ tl tr, PE X a tl ∧ PE X e tr ∧ ∀ σ H R, Fin2 X.K C.S Γ b E (evE (C.S.gl n) ta) (evE (C.S.gl n) te) σ H R → tl σ H fun p H1 => tr σ H1 fun q H2 => R p q H2 := by
  obtain ⟨pb, e, T⟩ := h cx
  have := T.run
  rw [e] at this
  exact this
/-- a primitive of two operands -/
theorem je_two {a e w : Expr} {ta te : MP.E} {f : Val → Val → Res Val} {t : MP.E} {r : ∀ _ : Cx, R2}
    (ht : ∀ G, evE G t = fun ρ => (evE G ta ρ).bind fun x => (evE G te x.2).bind fun y => (f x.1 y.1).bind fun v => .ok (v, y.2))
    (hp : ∀ {n R E X}, CxOk C.S R n C.N C.sc C.fn E X → ∀ tl tr, PE X a tl → PE X e tr → PE X w (tOp (r X) tl tr)) (h2 : ∀ X : Cx, P2 X.K k (r X) f) (nx : ∀ x y, NoX (f x y)) (hh : J2 C Γ b a e ta te) : JE C Γ b k w t := by
  intro n R E X cx
  obtain ⟨tl, tr, hl, hr, hw⟩ := hh.run cx
  refine (hp cx tl tr hl hr).imp fun σ H Q q => ?_
  rw [ht] at q
  exact hw σ H _ (fin2 (h2 X) nx q)
end
end MP
/-! MiniPy against the hand layer: the rules of expressions -/
namespace MP
open L2 PySem.Spec PySem PyProof.Rows

section
variable {K : Fg} {S : Stat} {Γ Γ' : List Nat} {F F' : AS} {fp fp' : Nat → AS} {ρ : MP.Env} {σ : L2.St} {H H' : Hp} {b : Bool} {k : Nat} {E : XK} {C : Ct}

theorem get_ok {ρ : MP.Env} {i : Nat} {v : Val} (h : get ρ i = .ok v) : ρ[i]? = some (some v) := by
  unfold get at h
  split at h
  · cases h; assumption
  · cases h
theorem get_ne {ρ : MP.Env} {i : Nat} : NoX (get ρ i) := by
  intro c vs h
  unfold get at h
  split at h <;> cases h
theorem je_var {i : Nat} {x : PySem.Str} {pos : Pos} (hN : C.N[i]? = some x) (hv : Vis C.sc x) (h0 : Γ.getD i 0 = 0) (hd : (x == ("__debug__" : PySem.Str)) = false := by decide) (hcd : (x == ("__classdict__" : PySem.Str)) = false := by decide) :
    JE C Γ b 0 (.Name x pos) (.var i) := by
  intro n R E X cx
  refine (pe_var (i := i) (by rw [cx.names]; exact hN) (by rw [cx.scope]; exact hv) hd hcd).imp fun σ H Q h => ?_
  obtain ⟨F, fp, ρ, st, h⟩ := h
  have h : RSat ((get ρ i).bind fun v => .ok (v, ρ)) _ _ := h
  rw [RSat.bind] at h
  cases e : get ρ i with
  | exc c vs => exact absurd e (get_ne c vs)
  | stuck => rw [e] at h; exact h.elim
  | ok v =>
    rw [e] at h
    obtain ⟨p, e1, ow⟩ := st.rep i v (get_ok e)
    rw [h0] at ow
    exact ⟨p, e1, h F fp (fun _ => False) H p st (Ext.refl b) (fun _ => rfl) (.zero ow.1) fun _ z => z.elim⟩
theorem jb_var {i : Nat} {x : PySem.Str} {pos : Pos} (hN : C.N[i]? = some x) (hv : Vis C.sc x) (h0 : Γ.getD i 0 ≤ 1) (hd : (x == ("__debug__" : PySem.Str)) = false := by decide) (hcd : (x == ("__classdict__" : PySem.Str)) = false := by decide) :
    JB C Γ b (.Name x pos) (.var i) := by
  intro n R E X cx
  refine (pe_var (i := i) (by rw [cx.names]; exact hN) (by rw [cx.scope]; exact hv) hd hcd).imp fun σ H Q h => ?_
  obtain ⟨F, fp, ρ, st, h⟩ := h
  have h : RSat ((get ρ i).bind fun v => .ok (v, ρ)) _ _ := h
  rw [RSat.bind] at h
  cases e : get ρ i with
  | exc c vs => exact absurd e (get_ne c vs)
  | stuck => rw [e] at h; exact h.elim
  | ok v =>
    rw [e] at h
    obtain ⟨p, e1, ow⟩ := st.rep i v (get_ok e)
    exact ⟨p, e1, h F fp H p st (Ext.refl b) (fun _ => rfl) (ow.b1 h0)⟩
theorem tE_imm {v : Val} {p : V} {Q : VK} (h : tE K S Γ b k E (fun ρ => .ok (v, ρ)) σ H Q) (i : imm v = true) (r : ∀ F, FR K F H v p) : Q p H := by
  obtain ⟨F, fp, ρ, st, h⟩ := h
  exact h F fp _ H p st (Ext.refl b) (fun _ => rfl) (.imm (r F) i k) fun _ z => z.elim
theorem je_int {i : Int} {j pos} : JE C Γ b k (.Constant (.int i) j pos) (.k (.int i)) := fun cx => pe_int.imp fun _ _ _ h => tE_imm h rfl fun _ => .int i
theorem je_bl {i : Bool} {j pos} : JE C Γ b k (.Constant (.bool i) j pos) (.k (.bool i)) := fun cx => pe_bl.imp fun _ _ _ h => tE_imm h rfl fun _ => .bl i
theorem je_non {j pos} : JE C Γ b k (.Constant .none j pos) (.k .none) := fun cx => pe_non.imp fun _ _ _ h => tE_imm h rfl fun _ => .non
theorem je_str {s : List Nat} {x : PySem.Str} {j pos} (hx : x = toStr s) (hc : cpOk s = true) : JE C Γ b k (.Constant (.str x) j pos) (.k (.str s)) := fun cx => by
  subst hx
  exact pe_str.imp fun _ _ _ h => tE_imm h rfl fun _ => .str hc
/-- a module's constant -/
theorem je_con {j : Nat} {x : PySem.Str} {pos : Pos} (hc : C.S.cons[j]? = some x) (hi : imm (C.S.prog.con j) = true) (hg : C.sc.names.lookup x = some .globalImplicit) (hd : (x == ("__debug__" : PySem.Str)) = false := by decide) :
    JE C Γ b k (.Name x pos) (.g j) := by
  intro n R E X cx
  obtain ⟨u, p, hm, r, f⟩ := cx.gl.con j x hc
  refine (pe_glob (by show X.env.scope.names.lookup x = _; rw [cx.scope]; exact hg) hm r hd).imp fun σ H Q h => ?_
  exact tE_imm (v := C.S.prog.con j) h hi fun F => f F H

/-! ### operators -/
theorem je_bin {op : Operator} {o : Bin} {a e : Expr} {ta te : MP.E} {pos : Pos} {r : ∀ _ : Cx, R2} (ho : ∀ {n R E X}, CxOk C.S R n C.N C.sc C.fn E X → OpR X (binaryOp op) (r X)) (h2 : ∀ X : Cx, P2 X.K k (r X) (bin o)) (hh : J2 C Γ b a e ta te) :
    JE C Γ b k (.BinOp a op e pos) (.bin o ta te) :=
  je_two (f := bin o) (fun G => rfl) (fun cx tl tr hl hr => pe_op (ho cx) hl hr) h2 (nox_bin o) hh
theorem je_add {a e : Expr} {ta te : MP.E} {pos : Pos} (hh : J2 C Γ b a e ta te) : JE C Γ b 1 (.BinOp a .Add e pos) (.bin .add ta te) := je_bin (r := fun X => rAddA X.K) (fun _ => op_addA) (fun X => p2_add X.K) hh
theorem je_sub {a e : Expr} {ta te : MP.E} {pos : Pos} (hh : J2 C Γ b a e ta te) : JE C Γ b 1 (.BinOp a .Sub e pos) (.bin .sub ta te) := je_bin (r := fun X => rI0 fun i j => .int (i - j)) (fun _ => op_sub) (fun X => p2_sub X.K) hh
theorem je_fdiv {a e : Expr} {ta te : MP.E} {pos : Pos} (hh : J2 C Γ b a e ta te) : JE C Γ b 1 (.BinOp a .FloorDiv e pos) (.bin .fdiv ta te) := je_bin (r := fun X => rI CDiv fun i j => .int (i / j)) (fun _ => op_fdiv) (fun X => p2_fdiv X.K) hh
theorem je_mod {a e : Expr} {ta te : MP.E} {pos : Pos} (hh : J2 C Γ b a e ta te) : JE C Γ b 1 (.BinOp a .Mod e pos) (.bin .mod ta te) := je_bin (r := fun X => rI (fun _ j => 0 < j) fun i j => .int (i % j)) (fun _ => op_mod) (fun X => p2_mod X.K) hh
theorem je_pow {a e : Expr} {ta te : MP.E} {pos : Pos} (hh : J2 C Γ b a e ta te) : JE C Γ b 1 (.BinOp a .Pow e pos) (.bin .pow ta te) := je_bin (r := fun X => rI CPow fun i j => .int (i ^ j.toNat)) (fun _ => op_pow) (fun X => p2_pow X.K) hh
theorem je_mul {a e : Expr} {ta te : MP.E} {pos : Pos} (hh : J2 C Γ b a e ta te) : JE C Γ b 1 (.BinOp a .Mult e pos) (.bin .mul ta te) := je_bin (r := fun X => rMulA X.K) (fun _ => op_mulA) (fun X => p2_mul X.K) hh

/-! ### comparisons -/
/-- one comparison's rule -/
structure CmpR (C : Ct) (op : CmpOp) (o : MP.Cmp) (r : Cx → R2) : Prop where
  ho : ∀ {n R E X}, CxOk C.S R n C.N C.sc C.fn E X → OpR X (compareOp op) (r X)
  h2 : ∀ X : Cx, P2 X.K 1 (r X) (cmp o)
theorem CxOk.u64 {S : Stat} {R : Rt} {n : Nat} {N : List PySem.Str} {sc : Scope} {fnn : PySem.Str → Bool} {E : XK} {X : Cx} (cx : CxOk S R n N sc fnn E X) : X.A.units + 65 < cLine := by have := cx.room.un; omega
theorem c_eq : CmpR C .Eq .eq (fun X => rEqX X.K) := ⟨fun cx => op_eqX (by have := cx.u64; omega), fun X => p2_eq X.K⟩
theorem c_ne : CmpR C .NotEq .ne (fun X => rNeX X.K) := ⟨fun cx => op_neX (by have := cx.u64; omega), fun X => p2_ne X.K⟩
theorem c_lt : CmpR C .Lt .lt (fun X => rLtD X.K) := ⟨fun cx => op_ltD (by have := cx.u64; omega), fun X => p2_lt X.K⟩
theorem c_le : CmpR C .LtE .le (fun _ => fun x y H Q => rI0 (fun i j => .bl (decide (i ≤ j))) x y H Q ∨ (fun x y (H : Hp) (Q : VK) => ∃ i j, x = .str i ∧ y = .str j ∧ Q (.bl (!decide (j.cps.toList < i.cps.toList))) H) x y H Q) := ⟨fun _ => op_le2, fun X => p2_le X.K⟩
theorem c_gt : CmpR C .Gt .gt (fun _ => fun x y H Q => rI0 (fun i j => .bl (decide (j < i))) x y H Q ∨ (fun x y (H : Hp) (Q : VK) => ∃ i j, x = .str i ∧ y = .str j ∧ Q (.bl (decide (j.cps.toList < i.cps.toList))) H) x y H Q) := ⟨fun _ => op_gt2, fun X => p2_gt X.K⟩
theorem c_ge : CmpR C .GtE .ge (fun _ => fun x y H Q => rI0 (fun i j => .bl (decide (j ≤ i))) x y H Q ∨ (fun x y (H : Hp) (Q : VK) => ∃ i j, x = .str i ∧ y = .str j ∧ Q (.bl (!decide (i.cps.toList < j.cps.toList))) H) x y H Q) := ⟨fun _ => op_ge2, fun X => p2_ge X.K⟩
theorem c_is : CmpR C .Is .is (fun _ => rIsN) := ⟨fun _ => op_isN, fun X => p2_is X.K⟩
theorem c_isnot : CmpR C .IsNot .isnot (fun _ => rNotN) := ⟨fun _ => op_notN, fun X => p2_isnot X.K⟩
theorem c_in : CmpR C .In .mem (fun X => rInK X.K false) := ⟨fun cx => op_inK cx.u64, fun X => p2_mem X.K⟩
theorem c_nin : CmpR C .NotIn .nmem (fun X => rInK X.K true) := ⟨fun cx => op_notInK cx.u64, fun X => p2_nmem X.K⟩
theorem je_cmp {op : CmpOp} {o : MP.Cmp} {r : Cx → R2} {a e : Expr} {ta te : MP.E} {pos : Pos} (c : CmpR C op o r) (hh : J2 C Γ b a e ta te) (hm : behindInMarks op e = false) : JE C Γ b 1 (.Compare a [op] [e] pos) (.cmp o ta te) :=
  je_two (f := cmp o) (r := r) (fun G => rfl) (fun cx tl tr hl hr => pe_cmpR (c.ho cx) hl hr hm) c.h2 (nox_cmp o) hh
/-- a test by a value's flag -/
theorem tT_flag {t : MP.E} {G : Gl} {Q : Bool → Hp → Prop} (hb : ∀ ρ v ρ', evE G t ρ = .ok (v, ρ') → ∃ c, v = .bool c) (h : tT K S Γ b E (evT G t) σ H Q) : tE K S Γ b 1 E (evE G t) σ H (fun x H' => ∃ c, x = .bl c ∧ Q c H') := by
  obtain ⟨F, fp, ρ, st, h⟩ := h
  refine ⟨F, fp, ρ, st, ?_⟩
  unfold evT at h
  rw [RSat.bind] at h
  refine h.mono (fun o e q F' fp' fr H' p s1 ex pu ow hf => ?_) fun _ _ x => x
  obtain ⟨v, ρ'⟩ := o
  obtain ⟨c, rfl⟩ := hb ρ v ρ' e
  cases FR.blS ow.1
  exact ⟨c, rfl, q F' fp' H' s1 ex pu⟩
theorem ev_cmp_bool {G : Gl} {o : MP.Cmp} {ta te : MP.E} : ∀ ρ v ρ', evE G (.cmp o ta te) ρ = .ok (v, ρ') → ∃ c, v = .bool c := by
  intro ρ v ρ' h
  have h : ((evE G ta ρ).bind fun x => (evE G te x.2).bind fun y => (cmp o x.1 y.1).bind fun v => .ok (v, y.2)) = .ok (v, ρ') := h
  cases e1 : evE G ta ρ with
  | ok x =>
    rw [e1] at h
    have h : ((evE G te x.2).bind fun y => (cmp o x.1 y.1).bind fun v => .ok (v, y.2)) = .ok (v, ρ') := h
    cases e2 : evE G te x.2 with
    | ok y =>
      rw [e2] at h
      have h : ((cmp o x.1 y.1).bind fun v => .ok (v, y.2)) = .ok (v, ρ') := h
      cases e3 : cmp o x.1 y.1 with
      | ok w => rw [e3] at h; cases h; exact cmp_bool e3
      | exc _ _ => rw [e3] at h; cases h
      | stuck => rw [e3] at h; cases h
    | exc _ _ => rw [e2] at h; cases h
    | stuck => rw [e2] at h; cases h
  | exc _ _ => rw [e1] at h; cases h
  | stuck => rw [e1] at h; cases h
theorem jt_cmp {op : CmpOp} {o : MP.Cmp} {r : Cx → R2} {a e : Expr} {ta te : MP.E} {pos : Pos} (c : CmpR C op o r) (hh : J2 C Γ b a e ta te) (hm : behindInMarks op e = false) : JT C Γ b (.Compare a [op] [e] pos) (.cmp o ta te) := by
  intro n R E X cx
  obtain ⟨tl, tr, hl, hr, hw⟩ := hh.run cx
  refine (pt_cmpR (c.ho cx) hl hr hm).imp fun σ H Q q => ?_
  have q := tT_flag ev_cmp_bool q
  exact hw σ H _ (fin2 (c.h2 X) (nox_cmp o) q)
theorem chain_imp {op op' : CmpOp} {o o' : MP.Cmp} {r r' : Cx → R2} {ta te tw : MP.E} (c : CmpR C op o r) (c' : CmpR C op' o' r') {n : Nat} {X : Cx} {E : XK} {σ : L2.St} {H : Hp} {Q : VK}
    (h : tE X.K C.S Γ true 1 E (evE (C.S.gl n) (.cmp2 o o' ta te tw)) σ H Q) : tChain (r X) (r' X) (tB X.K C.S Γ true E (evE (C.S.gl n) ta)) (tB X.K C.S Γ true E (evE (C.S.gl n) te)) (tB X.K C.S Γ true E (evE (C.S.gl n) tw)) σ H Q := by
  obtain ⟨F, fp, ρ, st, h⟩ := h
  have h : RSat ((evE (C.S.gl n) ta ρ).bind fun x => (evE (C.S.gl n) te x.2).bind fun y => (cmp o x.1 y.1).bind fun v => (truthy v).bind fun t =>
      if t then (evE (C.S.gl n) tw y.2).bind fun z => (cmp o' y.1 z.1).bind fun v => .ok (v, z.2) else .ok (v, y.2)) _ _ := h
  refine ⟨F, fp, ρ, st, ?_⟩
  rw [RSat.bind] at h
  refine h.mono (fun ox e1 h F1 fp1 H1 p1 st1 ex1 pu1 b1 => ⟨F1, fp1, ox.2, st1, ?_⟩) fun _ _ x => x
  rw [RSat.bind] at h
  refine h.mono (fun oy e2 h F2 fp2 H2 p2 st2 ex2 pu2 b2 => ?_) fun _ _ x => x.ext ex1
  have ex12 := ex1.trans ex2
  rw [RSat.bind] at h
  cases e3 : cmp o ox.1 oy.1 with
  | exc cc vs => exact absurd e3 (nox_cmp _ _ _ cc vs)
  | stuck => rw [e3] at h; exact h.elim
  | ok v =>
    rw [e3] at h
    obtain ⟨t, rfl⟩ := cmp_bool e3
    have h : RSat (if t = true then (evE (C.S.gl n) tw oy.2).bind fun z => (cmp o' oy.1 z.1).bind fun v => .ok (v, z.2) else .ok (.bool t, oy.2)) _ _ := h
    have b1' := b1.mono (st1.keeps ex2) ex2.sub fun a n => ex2.same a n (.inl rfl)
    refine c.h2 X F2 H2 ox.1 oy.1 (.bool t) p1 p2 _ st2.tr b1' b2 e3 fun H3 fr z al ow hf => ?_
    cases FR.blS ow.1
    obtain ⟨st3, ex3⟩ := st2.alloc (b := true) al
    have ex13 := ex12.trans ex3
    refine ⟨t, rfl, ?_⟩
    cases t with
    | false =>
      simp only [Bool.false_eq_true, if_false] at h ⊢
      exact h F2 fp2 _ H3 _ st3 ex13 (fun _ => (pu2 rfl).trans (pu1 rfl)) (.imm (.bl false) rfl 1) fun _ z => z.elim
    | true =>
      simp only [if_true] at h ⊢
      refine ⟨F2, fp2, oy.2, st3, ?_⟩
      rw [RSat.bind] at h
      refine h.mono (fun oz e4 h F4 fp4 H4 p4 st4 ex4 pu4 b4 => ?_) fun _ _ x => x.ext ex13
      rw [RSat.bind] at h
      have ex14 := ex13.trans ex4
      cases e5 : cmp o' oy.1 oz.1 with
      | exc cc vs => exact absurd e5 (nox_cmp _ _ _ cc vs)
      | stuck => rw [e5] at h; exact h.elim
      | ok v2 =>
        rw [e5] at h
        have b2' := (b2.mono (st2.keeps ex3) ex3.sub fun a n => ex3.same a n (.inl rfl)).mono (st3.keeps ex4) ex4.sub fun a n => ex4.same a n (.inl rfl)
        refine c'.h2 X F4 H4 oy.1 oz.1 v2 p2 p4 _ st4.tr b2' b4 e5 fun H5 fr z al ow hf => ?_
        obtain ⟨v3, rfl⟩ := cmp_bool e5
        obtain ⟨st5, ex5⟩ := st4.alloc (b := true) al
        cases FR.blS ow.1
        exact h F4 fp4 _ H5 _ st5 (ex14.trans ex5) (fun _ => (pu4 rfl).trans ((pu2 rfl).trans (pu1 rfl))) (.imm (.bl v3) rfl 1) fun _ z => z.elim
/-- a op b op2 c: all pure -/
theorem je_chain {op op' : CmpOp} {o o' : MP.Cmp} {r r' : Cx → R2} {a e w : Expr} {ta te tw : MP.E} {pos : Pos} (c : CmpR C op o r) (c' : CmpR C op' o' r') (ha : JB C Γ true a ta) (he : JB C Γ true e te) (hw : JB C Γ true w tw)
    (hm : lastMarks [op, op'] [e, w] = false) : JE C Γ true 1 (.Compare a [op, op'] [e, w] pos) (.cmp2 o o' ta te tw) :=
  fun cx => (pe_chain (c.ho cx) (c'.ho cx) (ha cx) (he cx) (hw cx) hm).imp fun _ _ _ h => chain_imp c c' h
theorem ev_cmp2_bool {G : Gl} {o o' : MP.Cmp} {ta te tw : MP.E} : ∀ ρ v ρ', evE G (.cmp2 o o' ta te tw) ρ = .ok (v, ρ') → ∃ c, v = .bool c := by
  intro ρ v ρ' h
  have h : ((evE G ta ρ).bind fun x => (evE G te x.2).bind fun y => (cmp o x.1 y.1).bind fun v => (truthy v).bind fun t =>
      if t then (evE G tw y.2).bind fun z => (cmp o' y.1 z.1).bind fun v => .ok (v, z.2) else .ok (v, y.2)) = .ok (v, ρ') := h
  cases e1 : evE G ta ρ with
  | ok x =>
    rw [e1] at h
    have h : ((evE G te x.2).bind fun y => (cmp o x.1 y.1).bind fun v => (truthy v).bind fun t =>
      if t then (evE G tw y.2).bind fun z => (cmp o' y.1 z.1).bind fun v => .ok (v, z.2) else .ok (v, y.2)) = .ok (v, ρ') := h
    cases e2 : evE G te x.2 with
    | ok y =>
      rw [e2] at h
      have h : ((cmp o x.1 y.1).bind fun v => (truthy v).bind fun t => if t then (evE G tw y.2).bind fun z => (cmp o' y.1 z.1).bind fun v => .ok (v, z.2) else .ok (v, y.2)) = .ok (v, ρ') := h
      cases e3 : cmp o x.1 y.1 with
      | ok w =>
        rw [e3] at h
        obtain ⟨t, rfl⟩ := cmp_bool e3
        have h : (if t = true then (evE G tw y.2).bind fun z => (cmp o' y.1 z.1).bind fun v => .ok (v, z.2) else .ok (.bool t, y.2)) = .ok (v, ρ') := h
        cases t with
        | false => cases h; exact ⟨_, rfl⟩
        | true =>
          simp only [if_true] at h
          cases e4 : evE G tw y.2 with
          | ok z =>
            rw [e4] at h
            have h : ((cmp o' y.1 z.1).bind fun v => .ok (v, z.2)) = .ok (v, ρ') := h
            cases e5 : cmp o' y.1 z.1 with
            | ok w => rw [e5] at h; cases h; exact cmp_bool e5
            | exc _ _ => rw [e5] at h; cases h
            | stuck => rw [e5] at h; cases h
          | exc _ _ => rw [e4] at h; cases h
          | stuck => rw [e4] at h; cases h
      | exc _ _ => rw [e3] at h; cases h
      | stuck => rw [e3] at h; cases h
    | exc _ _ => rw [e2] at h; cases h
    | stuck => rw [e2] at h; cases h
  | exc _ _ => rw [e1] at h; cases h
  | stuck => rw [e1] at h; cases h
theorem jt_chain {op op' : CmpOp} {o o' : MP.Cmp} {r r' : Cx → R2} {a e w : Expr} {ta te tw : MP.E} {pos : Pos} (c : CmpR C op o r) (c' : CmpR C op' o' r') (ha : JB C Γ true a ta) (he : JB C Γ true e te) (hw : JB C Γ true w tw)
    (hm : lastMarks [op, op'] [e, w] = false) : JT C Γ true (.Compare a [op, op'] [e, w] pos) (.cmp2 o o' ta te tw) :=
  fun cx => (pt_chain (c.ho cx) (c'.ho cx) (ha cx) (he cx) (hw cx) hm).imp fun _ _ _ h => chain_imp c c' (tT_flag ev_cmp2_bool h)
theorem tT.le {b' : Bool} {r : MP.Env → Res (Bool × MP.Env)} {Q : Bool → Hp → Prop} (hb : b = true → b' = true) (h : tT K S Γ b E r σ H Q) : tT K S Γ b' E r σ H Q := by
  obtain ⟨F, fp, ρ, st, h⟩ := h
  exact ⟨F, fp, ρ, st, h.mono (fun o _ q F' fp' H' s1 ex pu => q F' fp' H' s1 (ex.to hb) (fun e => pu (hb e))) fun _ _ x => x⟩
theorem JT.any {e : Expr} {t : MP.E} (h : JT C Γ true e t) (b : Bool) : JT C Γ b e t := fun cx => (h cx).imp fun _ _ _ q => q.le fun _ => rfl
/-! ### truth -/
theorem lenB_nonneg (n : Nat) : ((n : Int) != 0) = !(n == 0) := by
  rw [Bool.eq_iff_iff]; simp
theorem B1.tru {v : Val} {p : V} {c : Bool} (h : B1 K F H v p) (e : truthy v = .ok c) : TruV K p H c := by
  cases v with
  | none => cases FR.nonS h; cases e; rfl
  | bool b => cases FR.blS h; cases e; rfl
  | int i => cases FR.intS h; cases e; rfl
  | str s =>
    obtain ⟨rfl, cs⟩ := FR.strS h
    cases e
    refine ⟨by rw [toStr_len]; exact Nat.le_trans (cpOk_len cs) big_line, ?_⟩
    rw [toStr_len, lenB_nonneg]
    cases s <;> rfl
  | tup vs =>
    obtain ⟨a, ps, rfl, ha, rs⟩ := FR.tupS h
    cases e
    exact .inr (.inl ⟨ps, ha.sq, by cases rs <;> rfl⟩)
  | lst vs =>
    obtain ⟨a, ps, rfl, ha, rs⟩ := h
    cases e
    exact .inl ⟨ps, .inl ha, by cases rs <;> rfl⟩
  | dict kvs => cases e
  | dicT kvs => cases e
  | fn f => cases e
  | txt f => cases e
end
end MP
/-! MiniPy against the hand layer: tests, and, or, not, one operand, arguments -/
namespace MP
open L2 PySem.Spec PySem PyProof.Rows

section
variable {K : Fg} {S : Stat} {Γ Γ' : List Nat} {F F' : AS} {fp fp' : Nat → AS} {ρ : MP.Env} {σ : L2.St} {H H' : Hp} {b : Bool} {k : Nat} {E : XK} {C : Ct}
theorem nox_truthy (v : Val) : NoX (truthy v) := by
  intro c vs h
  cases v <;> cases h
/-- a value's truth as a test -/
theorem jt_of {e : Expr} {t : MP.E} (h : JB C Γ b e t) (he : ∀ (env : PySem.Env) (whole : Sem Value), isTrue e env whole = (do let v ← whole; standAt e.pos; holding [v] (PySem.truthy v))) : JT C Γ b e t := by
  intro n R E X cx
  refine (pt_truth (h cx) (he X.env)).imp fun σ H Q q => ?_
  obtain ⟨F, fp, ρ, st, q⟩ := q
  refine ⟨F, fp, ρ, st, ?_⟩
  unfold evT at q
  rw [RSat.bind] at q
  refine q.mono (fun o _ q F' fp' H' p s1 ex pu b1 => ?_) fun _ _ x => x
  rw [RSat.bind] at q
  cases e1 : truthy o.1 with
  | exc c vs => exact absurd e1 (nox_truthy _ c vs)
  | stuck => rw [e1] at q; exact q.elim
  | ok c =>
    rw [e1] at q
    exact ⟨c, b1.tru e1, q F' fp' H' s1 ex pu⟩
theorem evT_not {G : Gl} {a : MP.E} : evT G (.not a) = fun ρ => (evT G a ρ).bind fun o => .ok (!o.1, o.2) := by
  funext ρ
  show (((evE G a ρ).bind fun x => (truthy x.1).bind fun t => .ok (.bool (!t), x.2)).bind fun x => (truthy x.1).bind fun c => .ok (c, x.2)) = ((evE G a ρ).bind fun x => (truthy x.1).bind fun c => .ok (c, x.2)).bind fun o => .ok (!o.1, o.2)
  cases evE G a ρ with
  | ok x =>
    show ((truthy x.1).bind fun t => Res.ok (Val.bool (!t), x.2)).bind (fun x => (truthy x.1).bind fun c => .ok (c, x.2)) = ((truthy x.1).bind fun c => .ok (c, x.2)).bind fun o => .ok (!o.1, o.2)
    cases truthy x.1 <;> rfl
  | exc _ _ => rfl
  | stuck => rfl
theorem jt_not {a : Expr} {t : MP.E} {pos : Pos} (h : JT C Γ b a t) : JT C Γ b (.UnaryOp .Not a pos) (.not t) := by
  intro n R E X cx
  refine (pt_not (h cx)).imp fun σ H Q q => ?_
  obtain ⟨F, fp, ρ, st, q⟩ := q
  refine ⟨F, fp, ρ, st, ?_⟩
  rw [evT_not, RSat.bind] at q
  exact q.mono (fun o _ q F' fp' H' s1 ex pu => q F' fp' H' s1 ex pu) fun _ _ x => x
theorem evT_and {G : Gl} {a e : MP.E} : evT G (.and a e) = fun ρ => (evT G a ρ).bind fun o => if o.1 then evT G e o.2 else .ok (false, o.2) := by
  funext ρ
  show (((evE G a ρ).bind fun x => (truthy x.1).bind fun t => if t then evE G e x.2 else .ok (x.1, x.2)).bind fun x => (truthy x.1).bind fun c => .ok (c, x.2)) = ((evE G a ρ).bind fun x => (truthy x.1).bind fun c => .ok (c, x.2)).bind fun o => if o.1 then evT G e o.2 else .ok (false, o.2)
  cases evE G a ρ with
  | ok x =>
    show ((truthy x.1).bind fun t => if t then evE G e x.2 else .ok (x.1, x.2)).bind (fun x => (truthy x.1).bind fun c => .ok (c, x.2)) = ((truthy x.1).bind fun c => .ok (c, x.2)).bind fun o => if o.1 then evT G e o.2 else .ok (false, o.2)
    cases e1 : truthy x.1 with
    | ok t =>
      cases t with
      | true => rfl
      | false =>
        show ((truthy x.1).bind fun c => .ok (c, x.2)) = .ok (false, x.2)
        rw [e1]; rfl
    | exc _ _ => rfl
    | stuck => rfl
  | exc _ _ => rfl
  | stuck => rfl
theorem evT_or {G : Gl} {a e : MP.E} : evT G (.or a e) = fun ρ => (evT G a ρ).bind fun o => if o.1 then .ok (true, o.2) else evT G e o.2 := by
  funext ρ
  show (((evE G a ρ).bind fun x => (truthy x.1).bind fun t => if t then .ok (x.1, x.2) else evE G e x.2).bind fun x => (truthy x.1).bind fun c => .ok (c, x.2)) = ((evE G a ρ).bind fun x => (truthy x.1).bind fun c => .ok (c, x.2)).bind fun o => if o.1 then .ok (true, o.2) else evT G e o.2
  cases evE G a ρ with
  | ok x =>
    show ((truthy x.1).bind fun t => if t then .ok (x.1, x.2) else evE G e x.2).bind (fun x => (truthy x.1).bind fun c => .ok (c, x.2)) = ((truthy x.1).bind fun c => .ok (c, x.2)).bind fun o => if o.1 then .ok (true, o.2) else evT G e o.2
    cases e1 : truthy x.1 with
    | ok t =>
      cases t with
      | false => rfl
      | true =>
        show ((truthy x.1).bind fun c => .ok (c, x.2)) = .ok (true, x.2)
        rw [e1]; rfl
    | exc _ _ => rfl
    | stuck => rfl
  | exc _ _ => rfl
  | stuck => rfl
def JW (C : Ct) (Γ : List Nat) (b : Bool) (e : Expr) (t : MP.E) : Prop := ∀ {n R E X}, CxOk C.S R n C.N C.sc C.fn E X → PW X e (tT X.K C.S Γ b E (evT (C.S.gl n) t))
theorem _root_.L2.PW.imp {X : Cx} {e : Expr} {t u : TT} (h : PW X e t) (hi : ∀ σ H Q, u σ H Q → t σ H Q) : PW X e u := ⟨fun whole pins s σ H Q I q => h.run whole pins s σ H Q I (hi σ H Q q)⟩
theorem JW.t {e : Expr} {t : MP.E} (h : JW C Γ b e t) : JT C Γ b e t := fun cx => (h cx).pt
theorem jw_and1 {a : Expr} {t : MP.E} {pos : Pos} (h : JT C Γ b a t) : JW C Γ b (.BoolOp .And [a] pos) t := fun cx => pw_and1 (h cx)
theorem jw_or1 {a : Expr} {t : MP.E} {pos : Pos} (h : JT C Γ b a t) : JW C Γ b (.BoolOp .Or [a] pos) t := fun cx => pw_or1 (h cx)
theorem tT_seq {r1 : MP.Env → Res (Bool × MP.Env)} {r2 : Bool → MP.Env → Res (Bool × MP.Env)} {Q : Bool → Hp → Prop} (h : tT K S Γ b E (fun ρ => (r1 ρ).bind fun o => r2 o.1 o.2) σ H Q) :
    tT K S Γ b E r1 σ H fun c H1 => tT K S Γ b E (r2 c) σ H1 Q := by
  obtain ⟨F, fp, ρ, st, h⟩ := h
  refine ⟨F, fp, ρ, st, ?_⟩
  rw [RSat.bind] at h
  refine h.mono (fun o _ q F1 fp1 H1 st1 ex1 pu1 => ⟨F1, fp1, o.2, st1, ?_⟩) fun _ _ x => x
  exact q.mono (fun o2 _ q F2 fp2 H2 st2 ex2 pu2 => q F2 fp2 H2 st2 (ex1.trans ex2) fun e => (pu2 e).trans (pu1 e)) fun _ _ x => x.ext ex1
theorem tT_now {c : Bool} {Q : Bool → Hp → Prop} (h : tT K S Γ b E (fun ρ => .ok (c, ρ)) σ H Q) : Q c H := by
  obtain ⟨F, fp, ρ, st, h⟩ := h
  exact h F fp H st (Ext.refl b) fun _ => rfl
theorem jw_and {a e : Expr} {rest : List Expr} {ta te : MP.E} {pos : Pos} (ha : JT C Γ b a ta) (he : JW C Γ b (.BoolOp .And (e :: rest) pos) te) : JW C Γ b (.BoolOp .And (a :: e :: rest) pos) (.and ta te) := by
  intro n R E X cx
  refine (pw_and (ha cx) (he cx)).imp fun σ H Q q => ?_
  rw [evT_and] at q
  have q := tT_seq (r2 := fun c ρ => if c then evT (C.S.gl n) te ρ else .ok (false, ρ)) q
  obtain ⟨F, fp, ρ, st, q⟩ := q
  refine ⟨F, fp, ρ, st, q.mono (fun o _ q F' fp' H' s1 ex pu => ?_) fun _ _ x => x⟩
  have q := q F' fp' H' s1 ex pu
  cases hc : o.1 with
  | true => rw [hc] at q; exact q
  | false => rw [hc] at q; exact tT_now q
theorem jw_or {a e : Expr} {rest : List Expr} {ta te : MP.E} {pos : Pos} (ha : JT C Γ b a ta) (he : JW C Γ b (.BoolOp .Or (e :: rest) pos) te) : JW C Γ b (.BoolOp .Or (a :: e :: rest) pos) (.or ta te) := by
  intro n R E X cx
  refine (pw_or (ha cx) (he cx)).imp fun σ H Q q => ?_
  rw [evT_or] at q
  have q := tT_seq (r2 := fun c ρ => if c then .ok (true, ρ) else evT (C.S.gl n) te ρ) q
  obtain ⟨F, fp, ρ, st, q⟩ := q
  refine ⟨F, fp, ρ, st, q.mono (fun o _ q F' fp' H' s1 ex pu => ?_) fun _ _ x => x⟩
  have q := q F' fp' H' s1 ex pu
  cases hc : o.1 with
  | true => rw [hc] at q; exact tT_now q
  | false => rw [hc] at q; exact q
theorem Ext.back (e : Ext b F fp H F' fp' H') {a : Addr} (h : H' a = none ∨ (b = false ∧ ∃ i, fp' i a)) : H a = none ∨ (b = false ∧ ∃ i, fp i a) := by
  rcases h with h | ⟨hb, i, h⟩
  · by_cases n : H a = none
    · exact .inl n
    · by_cases q : b = true ∨ ∀ i, ¬ fp i a
      · rw [e.same a n q] at h
        exact absurd h n
      · rw [not_or] at q
        exact .inr ⟨by simpa using q.1, Classical.byContradiction fun w => q.2 fun i y => w ⟨i, y⟩⟩
  · rcases e.fnew i a h with h | h
    · exact .inl h
    · exact .inr ⟨hb, h⟩
/-- going on behind a first step -/
theorem tE_cont {r : MP.Env → Res (Val × MP.Env)} {ρ1 : MP.Env} {F1 : AS} {fp1 : Nat → AS} {H1 : Hp} {Q : VK} (ex1 : Ext b F fp H F1 fp1 H1) (pu1 : b = true → ρ1 = ρ) (st1 : Stt K Γ F1 fp1 ρ1 σ H1)
    (h : RSat (r ρ1) (fun o => ∀ F' fp' fr H' p, Stt K Γ F' fp' o.2 σ H' → Ext b F fp H F' fp' H' → (b = true → o.2 = ρ) → Own K F' H' k o.1 p fr → (∀ a, fr a → (H a = none ∨ (b = false ∧ ∃ i, fp i a)) ∧ ∀ i, ¬ fp' i a) → Q p H') (XWish S E fp H)) :
    tE K S Γ b k E r σ H1 Q :=
  ⟨F1, fp1, ρ1, st1, h.mono (fun o2 _ q F2 fp2 fr H2 p st2 ex2 pu2 ow hf => q F2 fp2 fr H2 p st2 (ex1.trans ex2) (fun e => (pu2 e).trans (pu1 e)) ow fun a z => ⟨ex1.back (hf a z).1, (hf a z).2⟩) fun _ _ x => x.ext ex1⟩
theorem tB_cont {r : MP.Env → Res (Val × MP.Env)} {ρ1 : MP.Env} {F1 : AS} {fp1 : Nat → AS} {H1 : Hp} {Q : VK} (ex1 : Ext b F fp H F1 fp1 H1) (pu1 : b = true → ρ1 = ρ) (st1 : Stt K Γ F1 fp1 ρ1 σ H1)
    (h : RSat (r ρ1) (fun o => ∀ F' fp' H' p, Stt K Γ F' fp' o.2 σ H' → Ext b F fp H F' fp' H' → (b = true → o.2 = ρ) → B1 K F' H' o.1 p → Q p H') (XWish S E fp H)) :
    tB K S Γ b E r σ H1 Q :=
  ⟨F1, fp1, ρ1, st1, h.mono (fun o2 _ q F2 fp2 H2 p st2 ex2 pu2 ow => q F2 fp2 H2 p st2 (ex1.trans ex2) (fun e => (pu2 e).trans (pu1 e)) ow) fun _ _ x => x.ext ex1⟩
/-- if-else as a value -/
theorem je_ite {c a e : Expr} {tc ta te : MP.E} {pos : Pos} (hc : JT C Γ b c tc) (ha : JE C Γ b k a ta) (he : JE C Γ b k e te) : JE C Γ b k (.IfExp c a e pos) (.ite tc ta te) := by
  intro n R E X cx
  refine (pe_ifExp (hc cx) (ha cx) (he cx)).imp fun σ H Q h => ?_
  obtain ⟨F, fp, ρ, st, h⟩ := h
  have h : RSat ((evE (C.S.gl n) tc ρ).bind fun x => (truthy x.1).bind fun t => if t then evE (C.S.gl n) ta x.2 else evE (C.S.gl n) te x.2) _ _ := h
  refine ⟨F, fp, ρ, st, ?_⟩
  unfold evT
  rw [RSat.bind] at h ⊢
  refine h.mono (fun o _ h => ?_) fun _ _ x => x
  rw [RSat.bind] at h ⊢
  refine h.mono (fun t _ h F1 fp1 H1 st1 ex1 pu1 => ?_) fun _ _ x => x
  cases t with
  | true => exact tE_cont ex1 pu1 st1 h
  | false => exact tE_cont ex1 pu1 st1 h
theorem jb_ite {c a e : Expr} {tc ta te : MP.E} {pos : Pos} (hc : JT C Γ b c tc) (ha : JB C Γ b a ta) (he : JB C Γ b e te) : JB C Γ b (.IfExp c a e pos) (.ite tc ta te) := by
  intro n R E X cx
  refine (pe_ifExp (hc cx) (ha cx) (he cx)).imp fun σ H Q h => ?_
  obtain ⟨F, fp, ρ, st, h⟩ := h
  have h : RSat ((evE (C.S.gl n) tc ρ).bind fun x => (truthy x.1).bind fun t => if t then evE (C.S.gl n) ta x.2 else evE (C.S.gl n) te x.2) _ _ := h
  refine ⟨F, fp, ρ, st, ?_⟩
  unfold evT
  rw [RSat.bind] at h ⊢
  refine h.mono (fun o _ h => ?_) fun _ _ x => x
  rw [RSat.bind] at h ⊢
  refine h.mono (fun t _ h F1 fp1 H1 st1 ex1 pu1 => ?_) fun _ _ x => x
  cases t with
  | true => exact tB_cont ex1 pu1 st1 h
  | false => exact tB_cont ex1 pu1 st1 h
/-- and, or as values: each by value -/
theorem je_one {op : BoolOp} {a : Expr} {t : MP.E} {pos : Pos} (h : JE C Γ b 0 a t) : JE C Γ b 0 (.BoolOp op [a] pos) t := fun cx => pe_one (h cx)
theorem je_and {a e : Expr} {rest : List Expr} {ta te : MP.E} {pos : Pos} (ha : JE C Γ b 0 a ta) (he : JE C Γ b 0 (.BoolOp .And (e :: rest) pos) te) : JE C Γ b 0 (.BoolOp .And (a :: e :: rest) pos) (.and ta te) := by
  intro n R E X cx
  refine (pe_andT (ha cx) (he cx)).imp fun σ H Q h => ?_
  obtain ⟨F, fp, ρ, st, h⟩ := h
  have h : RSat ((evE (C.S.gl n) ta ρ).bind fun x => (truthy x.1).bind fun t => if t then evE (C.S.gl n) te x.2 else .ok (x.1, x.2)) _ _ := h
  refine ⟨F, fp, ρ, st, ?_⟩
  rw [RSat.bind] at h
  refine h.mono (fun o _ h F1 fp1 fr H1 p st1 ex1 pu1 ow hf => ?_) fun _ _ x => x
  rw [RSat.bind] at h
  cases e1 : truthy o.1 with
  | exc c vs => exact absurd e1 (nox_truthy _ c vs)
  | stuck => rw [e1] at h; exact h.elim
  | ok t =>
    rw [e1] at h
    refine ⟨t, ow.1.b1.tru e1, ?_⟩
    cases t with
    | true => exact tE_cont ex1 pu1 st1 h
    | false => exact h F1 fp1 fr H1 p st1 ex1 pu1 ow hf
theorem je_or {a e : Expr} {rest : List Expr} {ta te : MP.E} {pos : Pos} (ha : JE C Γ b 0 a ta) (he : JE C Γ b 0 (.BoolOp .Or (e :: rest) pos) te) : JE C Γ b 0 (.BoolOp .Or (a :: e :: rest) pos) (.or ta te) := by
  intro n R E X cx
  refine (pe_orT (ha cx) (he cx)).imp fun σ H Q h => ?_
  obtain ⟨F, fp, ρ, st, h⟩ := h
  have h : RSat ((evE (C.S.gl n) ta ρ).bind fun x => (truthy x.1).bind fun t => if t then .ok (x.1, x.2) else evE (C.S.gl n) te x.2) _ _ := h
  refine ⟨F, fp, ρ, st, ?_⟩
  rw [RSat.bind] at h
  refine h.mono (fun o _ h F1 fp1 fr H1 p st1 ex1 pu1 ow hf => ?_) fun _ _ x => x
  rw [RSat.bind] at h
  cases e1 : truthy o.1 with
  | exc c vs => exact absurd e1 (nox_truthy _ c vs)
  | stuck => rw [e1] at h; exact h.elim
  | ok t =>
    rw [e1] at h
    refine ⟨t, ow.1.b1.tru e1, ?_⟩
    cases t with
    | false => exact tE_cont ex1 pu1 st1 h
    | true => exact h F1 fp1 fr H1 p st1 ex1 pu1 ow hf
/-! ### one operand -/
def P1 (K : Fg) (k : Nat) (r : V → Hp → VK → Prop) (f : Val → Res Val) : Prop := ∀ (F : AS) (H : Hp) (x v : Val) (p : V) (Q : VK), (∀ a, F a → H a ≠ none) → B1 K F H x p → f x = .ok v →
  (∀ H' fr z, (∀ a, H a ≠ none → H' a = H a) → Own K F H' k v z fr → (∀ a, fr a → H a = none) → Q z H') → r p H Q
/-- what a primitive's rule wants, from what the expression wants -/
theorem prim_fin {v : Val} {ρ' : MP.Env} {F1 : AS} {fp1 : Nat → AS} {H1 : Hp} {Q : VK} (st1 : Stt K Γ F1 fp1 ρ' σ H1) (ex1 : Ext b F fp H F1 fp1 H1) (pu1 : b = true → ρ' = ρ)
    (h : ∀ F' fp' fr H' p, Stt K Γ F' fp' ρ' σ H' → Ext b F fp H F' fp' H' → (b = true → ρ' = ρ) → Own K F' H' k v p fr → (∀ a, fr a → (H a = none ∨ (b = false ∧ ∃ i, fp i a)) ∧ ∀ i, ¬ fp' i a) → Q p H') :
    ∀ H' fr z, (∀ a, H1 a ≠ none → H' a = H1 a) → Own K F1 H' k v z fr → (∀ a, fr a → H1 a = none) → Q z H' := fun H2 fr z al ow hf => by
  obtain ⟨st2, ex2⟩ := st1.alloc (b := b) al
  refine h F1 fp1 fr H2 z st2 (ex1.trans ex2) pu1 ow fun a za => ⟨ex1.back (.inl (hf a za)), fun i zi => (st1.mu zi).1.some (hf a za)⟩
theorem tE_one {ea : MP.Env → Res (Val × MP.Env)} {f : Val → Res Val} {r : V → Hp → VK → Prop} (hp : P1 K k r f) (nx : ∀ x, NoX (f x)) {Q : VK}
    (h : tE K S Γ b k E (fun ρ => (ea ρ).bind fun x => (f x.1).bind fun v => .ok (v, x.2)) σ H Q) : tB K S Γ b E ea σ H fun p H' => r p H' Q := by
  obtain ⟨F, fp, ρ, st, h⟩ := h
  refine ⟨F, fp, ρ, st, ?_⟩
  rw [RSat.bind] at h
  refine h.mono (fun o _ h F1 fp1 H1 p st1 ex1 pu1 b1 => ?_) fun _ _ x => x
  rw [RSat.bind] at h
  cases e1 : f o.1 with
  | exc c vs => exact absurd e1 (nx _ c vs)
  | stuck => rw [e1] at h; exact h.elim
  | ok v =>
    rw [e1] at h
    exact hp F1 H1 o.1 v p Q st1.tr b1 e1 (prim_fin st1 ex1 pu1 h)
theorem je_prim1 {a w : Expr} {ta t : MP.E} {f : Val → Res Val} {r : Cx → V → Hp → VK → Prop} (ht : ∀ G, evE G t = fun ρ => (evE G ta ρ).bind fun x => (f x.1).bind fun v => .ok (v, x.2))
    (hp : ∀ {n R E X}, CxOk C.S R n C.N C.sc C.fn E X → ∀ tl, PE X a tl → PE X w (fun σ H Q => tl σ H fun p H' => r X p H' Q)) (h1 : ∀ X : Cx, P1 X.K k (r X) f) (nx : ∀ x, NoX (f x)) (ha : JB C Γ b a ta) : JE C Γ b k w t := by
  intro n R E X cx
  refine (hp cx _ (ha cx)).imp fun σ H Q q => ?_
  rw [ht] at q
  exact tE_one (h1 X) nx q
/-- not, as a value -/
theorem je_not {a : Expr} {t : MP.E} {pos : Pos} (h : JB C Γ b a t) : JE C Γ b k (.UnaryOp .Not a pos) (.not t) :=
  je_prim1 (f := fun x => (truthy x).bind fun c => .ok (.bool (!c))) (r := fun X x H Q => ∃ k, TruV X.K x H k ∧ Q (.bl (!k)) H) (fun G => by
    funext ρ
    show ((evE G t ρ).bind fun x => (truthy x.1).bind fun c => Res.ok (Val.bool (!c), x.2)) = _
    cases evE G t ρ with
    | ok x =>
      show ((truthy x.1).bind fun c => Res.ok (Val.bool (!c), x.2)) = ((truthy x.1).bind fun c => Res.ok (Val.bool (!c))).bind fun v => .ok (v, x.2)
      cases truthy x.1 <;> rfl
    | exc _ _ => rfl
    | stuck => rfl) (fun cx tl hl => pe_notT hl)
    (fun X F H x v p Q hF hx e hq => by
      have e : ((truthy x).bind fun c => Res.ok (Val.bool (!c))) = .ok v := e
      cases e1 : truthy x with
      | ok c =>
        rw [e1] at e; cases e
        exact ⟨c, hx.tru e1, q_imm (.bl _) rfl hq⟩
      | exc _ _ => rw [e1] at e; cases e
      | stuck => rw [e1] at e; cases e)
    (fun x c vs e => by
      have e : ((truthy x).bind fun c => Res.ok (Val.bool (!c))) = .exc c vs := e
      cases e1 : truthy x with
      | ok c => rw [e1] at e; cases e
      | exc _ _ => exact absurd e1 (nox_truthy _ _ _)
      | stuck => rw [e1] at e; cases e) h
/-- -i -/
def negV : Val → Res Val
  | .int i => .ok (.int (-i))
  | _ => .stuck
theorem je_neg {a : Expr} {t : MP.E} {pos : Pos} (h : JB C Γ b a t) : JE C Γ b k (.UnaryOp .USub a pos) (.neg t) :=
  je_prim1 (f := negV) (r := fun X => rU fun i => .int (-i)) (fun G => by
    funext ρ
    show ((evE G t ρ).bind fun x => match x.1 with | .int i => Res.ok (Val.int (-i), x.2) | _ => .stuck) = _
    cases evE G t ρ with
    | ok x => obtain ⟨v, ρ'⟩ := x; cases v <;> rfl
    | exc _ _ => rfl
    | stuck => rfl) (fun cx tl hl => pe_un un_neg hl)
    (fun X F H x v p Q hF hx e hq => by
      cases x <;> cases e
      cases B1.of_int hx
      exact ⟨_, rfl, q_imm (.int _) rfl hq⟩)
    (fun x c vs e => by cases x <;> cases e) h
end
end MP
/-! MiniPy against the hand layer: arguments, displays, subscripts, slices -/
namespace MP
open L2 PySem.Spec PySem PyProof.Rows

section
variable {K : Fg} {S : Stat} {Γ Γ' : List Nat} {F F' : AS} {fp fp' : Nat → AS} {ρ : MP.Env} {σ : L2.St} {H H' : Hp} {b : Bool} {k : Nat} {E : XK} {C : Ct}
/-! ### arguments -/
abbrev NoStar (e : Expr) : Prop := ∀ (es : List Expr) (env : PySem.Env), starEach (e :: es) env = (false, eval e env) :: starEach es env
theorem Arg.mono {ss : List (Option Nat)} {vs : List Val} {ps : List V} (kp : Keeps F H H') (hF : ∀ a, F a → F' a) (h : Arg K F H σ ss vs ps) : Arg K F' H' σ ss vs ps := by
  induction h with
  | nil => exact .nil
  | val h _ ih => exact .val (h.mono kp hF) ih
  | slot h _ ih => exact .slot h ih
theorem Arg.length {ss : List (Option Nat)} {vs : List Val} {ps : List V} (h : Arg K F H σ ss vs ps) : vs.length = ss.length ∧ ps.length = ss.length := by
  induction h with
  | nil => exact ⟨rfl, rfl⟩
  | val h _ ih => simp [ih.1, ih.2]
  | slot h _ ih => simp [ih.1, ih.2]
theorem Arg.frs : ∀ {ss : List (Option Nat)} {vs : List Val} {ps : List V}, (∀ s ∈ ss, s = none) → Arg K F H σ ss vs ps → FRs K F H vs ps
  | _, _, _, _, .nil => .nil
  | _, _, _, h, .val a r => .cons a (Arg.frs (fun s q => h s (List.mem_cons_of_mem _ q)) r)
  | _, _, _, h, .slot _ _ => absurd (h _ List.mem_cons_self) (by simp)
theorem ja_nil : JA C Γ b [] [] .nil := fun cx => ⟨fun pos pins s σ H Q I q => pa_nil.run pos pins s σ H Q I (by
  obtain ⟨F, fp, ρ, st, q⟩ := q
  exact q F fp H [] st (Ext.refl b) (fun _ => rfl) .nil)⟩
theorem _root_.L2.PA.imp {X : Cx} {e : List Expr} {t u : TA} (h : PA X e t) (hi : ∀ σ H Q, u σ H Q → t σ H Q) : PA X e u := ⟨fun pos pins s σ H Q I q => h.run pos pins s σ H Q I (hi σ H Q q)⟩
theorem tArg_cont {ss : List (Option Nat)} {r : MP.Env → Res (List Val × MP.Env)} {ρ1 : MP.Env} {F1 : AS} {fp1 : Nat → AS} {H1 : Hp} {Q : List V → Hp → Prop} (ex1 : Ext b F fp H F1 fp1 H1) (pu1 : b = true → ρ1 = ρ) (st1 : Stt K Γ F1 fp1 ρ1 σ H1)
    (h : RSat (r ρ1) (fun o => ∀ F' fp' H' ps, Stt K Γ F' fp' o.2 σ H' → Ext b F fp H F' fp' H' → (b = true → o.2 = ρ) → Ext b F1 fp1 H1 F' fp' H' → Arg K F' H' σ ss o.1 ps → Q ps H') (XWish S E fp H)) :
    tArg K S Γ b ss E r σ H1 Q :=
  ⟨F1, fp1, ρ1, st1, h.mono (fun o2 _ q F2 fp2 H2 p st2 ex2 pu2 ow => q F2 fp2 H2 p st2 (ex1.trans ex2) (fun e => (pu2 e).trans (pu1 e)) ex2 ow) fun _ _ x => x.ext ex1⟩
theorem ja_val {ss : List (Option Nat)} {e : Expr} {es : List Expr} {t : MP.E} {ts : MP.Es} (hs : NoStar e) (h : JE C Γ b 0 e t) (hr : JA C Γ b ss es ts) : JA C Γ b (none :: ss) (e :: es) (.cons t ts) := by
  intro n R E X cx
  refine (pa_cons (h cx) (hr cx) (hs es X.env)).imp fun σ H Q q => ?_
  obtain ⟨F, fp, ρ, st, q⟩ := q
  have q : RSat ((evE (C.S.gl n) t ρ).bind fun x => (evEs (C.S.gl n) ts x.2).bind fun xs => .ok (x.1 :: xs.1, xs.2)) _ _ := q
  refine ⟨F, fp, ρ, st, ?_⟩
  rw [RSat.bind] at q
  refine q.mono (fun o _ q F1 fp1 fr H1 p st1 ex1 pu1 ow _ => ?_) fun _ _ x => x
  rw [RSat.bind] at q
  exact tArg_cont ex1 pu1 st1 (q.mono (fun o2 _ q F2 fp2 H2 ps st2 ex2 pu2 ex12 ar => q F2 fp2 H2 _ st2 ex2 pu2 (.val (ow.1.mono (st1.keeps ex12) ex12.sub) ar)) fun _ _ x => x)
theorem ja_slot {ss : List (Option Nat)} {i : Nat} {x : PySem.Str} {pos : Pos} {es : List Expr} {ts : MP.Es} (hN : C.N[i]? = some x) (hv : Vis C.sc x) (hr : JA C Γ b ss es ts) (hd : (x == ("__debug__" : PySem.Str)) = false := by decide) (hcd : (x == ("__classdict__" : PySem.Str)) = false := by decide) :
    JA C Γ b (some i :: ss) (.Name x pos :: es) (.cons (.var i) ts) := by
  intro n R E X cx
  refine (pa_cons (pe_var (i := i) (by rw [cx.names]; exact hN) (by rw [cx.scope]; exact hv) hd hcd) (hr cx)).imp fun σ H Q q => ?_
  obtain ⟨F, fp, ρ, st, q⟩ := q
  have q : RSat (((get ρ i).bind fun v => .ok (v, ρ)).bind fun x => (evEs (C.S.gl n) ts x.2).bind fun xs => .ok (x.1 :: xs.1, xs.2)) _ _ := q
  rw [RSat.bind, RSat.bind] at q
  cases e : get ρ i with
  | exc c vs => exact absurd e (get_ne c vs)
  | stuck => rw [e] at q; exact q.elim
  | ok v =>
    rw [e] at q
    obtain ⟨p, e1, ow⟩ := st.rep i v (get_ok e)
    have q : RSat ((evEs (C.S.gl n) ts ρ).bind fun xs => .ok (v :: xs.1, xs.2)) _ _ := q
    rw [RSat.bind] at q
    refine ⟨p, e1, F, fp, ρ, st, q.mono (fun o2 _ q F2 fp2 H2 ps st2 ex2 pu2 ar => q F2 fp2 H2 _ st2 ex2 pu2 (.slot e1 ar)) fun _ _ x => x⟩

/-! ### displays -/
theorem len_line {n : Nat} (h : n ≤ 1000) : n ≤ sizeLine := by rw [sizeLine_eq]; omega
theorem je_tup {ss : List (Option Nat)} {es : List Expr} {ts : MP.Es} {x1 pos} (h : JA C Γ b ss es ts) (hn : ∀ s ∈ ss, s = none) (hl : ss.length ≤ 1000) : JE C Γ b k (.Tuple es x1 pos) (.tup ts) := by
  intro n R E X cx
  refine (pe_tup (h cx)).imp fun σ H Q q => ?_
  obtain ⟨F, fp, ρ, st, q⟩ := q
  have q : RSat ((evEs (C.S.gl n) ts ρ).bind fun x => Res.ok (Val.tup x.1, x.2)) _ _ := q
  rw [RSat.bind] at q
  refine ⟨F, fp, ρ, st, q.mono (fun o _ q F1 fp1 H1 ps st1 ex1 pu1 ar => ⟨?_, q_newT (ar.frs hn) (prim_fin st1 ex1 pu1 q)⟩) fun _ _ x => x⟩
  rw [ar.length.2]; exact len_line hl
theorem je_lst {ss : List (Option Nat)} {es : List Expr} {ts : MP.Es} {pos} (h : JA C Γ b ss es ts) (hn : ∀ s ∈ ss, s = none) (hl : ss.length ≤ 1000) : JE C Γ b 1 (.List es pos) (.lst ts) := by
  intro n R E X cx
  refine (pe_lst (h cx)).imp fun σ H Q q => ?_
  obtain ⟨F, fp, ρ, st, q⟩ := q
  have q : RSat ((evEs (C.S.gl n) ts ρ).bind fun x => Res.ok (Val.lst x.1, x.2)) _ _ := q
  rw [RSat.bind] at q
  refine ⟨F, fp, ρ, st, q.mono (fun o _ q F1 fp1 H1 ps st1 ex1 pu1 ar => ⟨?_, q_newL (ar.frs hn) st1.tr (prim_fin st1 ex1 pu1 q)⟩) fun _ _ x => x⟩
  rw [ar.length.2]; exact len_line hl
/-! ### subscripts -/
theorem place_ixN (n : Nat) (i : Int) : place n i = ixN n i := rfl
theorem at_atI {α : Type} (xs : List α) (i : Int) : at? xs i = atI xs i := rfl
theorem FRs.atI {vs : List Val} {ps : List V} (h : FRs K F H vs ps) {i : Int} {v : Val} (e : at? vs i = some v) : ∃ p, L2.atI ps i = some p ∧ FR K F H v p := by
  unfold at? at e
  unfold L2.atI
  rw [← h.length]
  cases e1 : place vs.length i with
  | none => rw [e1] at e; cases e
  | some j =>
    rw [e1] at e
    rw [← place_ixN, e1]
    exact h.at e
def rIxD : R2 := fun x y H Q => ∃ a v, x = .ref a ∧ DGet H a y (some v) ∧ Q v H
theorem ix_dict {X : Cx} (hu : X.A.units + 1 < cLine) : IxR X rIxD := by
  intro value slice pins s σ H x y v u Q I rx ry h hs
  obtain ⟨a, w, rfl, g, q⟩ := h
  cases rx
  exact tail_any (dict_typeIs I g) PySem.F.slot_dict_getitem.lookup (d_getItem hu I g ry fun w' s3 I3 rw' => ⟨w, H, I3, rw', q⟩) hs
def rIxA (K : Fg) : R2 := fun x y H Q => rIx K x y H Q ∨ rIxD x y H Q
theorem orStuck_ok {α : Type} {o : Option α} {v : α} (h : orStuck o = .ok v) : o = some v := by
  cases o <;> cases h; rfl
theorem nox_orStuck {α : Type} (o : Option α) : NoX (orStuck o) := by
  intro c vs h
  cases o <;> cases h
theorem cpOk_at {s : List Nat} {i : Nat} {c : Nat} (h : cpOk s = true) (e : s[i]? = some c) : cpOk [c] = true := by
  rw [cpOk_iff] at *
  refine ⟨?_, by simp [big]⟩
  have := List.all_eq_true.mp h.1 c (List.mem_of_getElem? e)
  simp only [List.all_cons, List.all_nil, Bool.and_true]
  exact this
theorem RelFO.some_of {v : Val} {o : Option V} (r : RelFO K F H (some v) o) : ∃ p, o = some p ∧ FR K F H v p := by
  cases o with
  | none => exact r.elim
  | some p => exact ⟨p, rfl, r⟩
theorem p2_idx (K : Fg) : P2 K 0 (rIxA K) idx := by
  intro F H x y v p q Q hF hx hy e hq
  have fin : ∀ {z : V}, FR K F H v z → Q z H := fun h => hq H _ _ (fun _ _ => rfl) (.zero h) fun _ z => z.elim
  cases x with
  | lst vs =>
    cases y <;> simp only [idx] at e <;> first | (cases e; done) | skip
    obtain ⟨a, ps, rfl, ha, rs⟩ := hx
    cases B1.of_int hy
    obtain ⟨z, h1, h2⟩ := rs.atI (orStuck_ok e)
    exact .inl (.inl ⟨a, ps, _, z, rfl, rfl, .inl ha, h1, fin h2⟩)
  | tup vs =>
    cases y <;> simp only [idx] at e <;> first | (cases e; done) | skip
    obtain ⟨a, ps, rfl, ha, rs⟩ := B1.of_tup hx
    cases B1.of_int hy
    obtain ⟨z, h1, h2⟩ := rs.atI (orStuck_ok e)
    exact .inl (.inr (.inl ⟨a, ps, _, z, rfl, rfl, ha.sq, h1, fin h2⟩))
  | str s =>
    cases y <;> simp only [idx] at e <;> first | (cases e; done) | skip
    obtain ⟨rfl, c⟩ := B1.of_str hx
    cases B1.of_int hy
    have e := orStuck_ok e
    obtain ⟨ch, e1, e2⟩ := Option.map_eq_some_iff.mp e
    subst e2
    refine .inl (.inr (.inr ⟨_, _, ch, rfl, rfl, ?_, ?_, fin ?_⟩))
    · rw [toStr_len]; exact Nat.le_trans (cpOk_len c) big_line
    · rw [show (toStr s).cps.toList = s from tl_toStr s]; exact e1
    · refine .str ?_
      unfold at? at e1
      cases e3 : place s.length _ with
      | none => rw [e3] at e1; cases e1
      | some j => rw [e3] at e1; exact cpOk_at c e1
  | dict kvs =>
    simp only [idx] at e
    split at e
    · rename_i h
      obtain ⟨a, kps, rfl, ha, rs⟩ := hx
      obtain ⟨o, g, r⟩ := dget_flat ha rs h hy
      rw [orStuck_ok e] at r
      obtain ⟨z, rfl, r⟩ := r.some_of
      exact .inr ⟨a, z, rfl, g, fin r⟩
    · cases e
  | dicT kvs =>
    simp only [idx] at e
    split at e
    · rename_i h
      obtain ⟨a, kps, rfl, ha, rs⟩ := hx
      obtain ⟨o, g, r⟩ := dget_tup ha rs h hy
      rw [orStuck_ok e] at r
      obtain ⟨z, rfl, r⟩ := r.some_of
      exact .inr ⟨a, z, rfl, g, fin r⟩
    · cases e
  | _ => cases y <;> cases e
theorem nox_idx (x y : Val) : NoX (idx x y) := by
  intro c vs h
  unfold idx at h
  split at h <;> first | exact absurd h (nox_orStuck _ _ _) | cases h | (split at h <;> first | exact absurd h (nox_orStuck _ _ _) | cases h)
theorem je_idx {a e : Expr} {ta te : MP.E} {pos : Pos} (hs : PlainIx e) (hh : J2 C Γ b a e ta te) : JE C Γ b 0 (.Subscript a e pos) (.idx ta te) :=
  je_two (f := idx) (r := fun X => rIxA X.K) (fun G => rfl) (fun cx tl tr hl hr => pe_ix (ix_seq.or (ix_dict (by have := cx.u64; omega))) hl hr hs) (fun X => p2_idx X.K) nox_idx hh

/-! ### slices -/
theorem po_someN {X : Cx} {e : Expr} {te : TE} (h : PE X e te) : PO X (some e) (fun σ H Q => te σ H fun x H1 => (x = .non ∧ Q none H1) ∨ ∃ i, x = .int i ∧ Q (some i) H1) := by
  refine ⟨fun pins s σ H Q I hw => ?_⟩
  rw [evalPart_some]
  refine thn (h.run pins s σ H _ I hw) fun u s1 ⟨x, H1, I1, r1, q1⟩ => ?_
  rcases q1 with ⟨rfl, q⟩ | ⟨i, rfl, q⟩
  · cases r1
    exact ⟨none, H1, I1, .none, q⟩
  · obtain ⟨t, rfl⟩ := r1
    exact ⟨some i, H1, I1, .int i t, q⟩
/-- a slice's part -/
def partV : Val → Option (Option Int)
  | .none => some none
  | .int i => some (some i)
  | _ => Option.none
def JP (C : Ct) (Γ : List Nat) (b : Bool) (e : Option Expr) (t : MP.E) : Prop := ∀ {n R E X}, CxOk C.S R n C.N C.sc C.fn E X → PO X e (fun σ H Q => ∃ F fp ρ, Stt X.K Γ F fp ρ σ H ∧ RSat (evE (C.S.gl n) t ρ) (fun o => ∀ F' fp' H', Stt X.K Γ F' fp' o.2 σ H' → Ext b F fp H F' fp' H' →
  (b = true → o.2 = ρ) → ∃ i, partV o.1 = some i ∧ Q i H') (XWish C.S E fp H))
theorem _root_.L2.PO.imp {X : Cx} {e : Option Expr} {t u : TO} (h : PO X e t) (hi : ∀ σ H Q, u σ H Q → t σ H Q) : PO X e u := ⟨fun pins s σ H Q I q => h.run pins s σ H Q I (hi σ H Q q)⟩
theorem jp_none : JP C Γ b none (.k .none) := fun cx => po_none.imp fun σ H Q ⟨F, fp, ρ, st, h⟩ => by
  obtain ⟨i, e, q⟩ := h F fp H st (Ext.refl b) fun _ => rfl
  cases e
  exact q
theorem jp_some {e : Expr} {t : MP.E} (h : JB C Γ b e t) : JP C Γ b (some e) t := fun cx => (po_someN (h cx)).imp fun σ H Q ⟨F, fp, ρ, st, h⟩ => by
  refine ⟨F, fp, ρ, st, h.mono (fun o _ q F' fp' H' p s1 ex pu b1 => ?_) fun _ _ x => x⟩
  obtain ⟨i, e, q⟩ := q F' fp' H' s1 ex pu
  obtain ⟨v, ρ'⟩ := o
  cases v <;> cases e
  · cases FR.nonS b1
    exact .inl ⟨rfl, q⟩
  · cases B1.of_int b1
    exact .inr ⟨_, rfl, q⟩
theorem clip_sIx {n d : Nat} {v : Val} {i : Option Int} (e : partV v = some i) : clip n d v = some (HT.sIx n d i) := by
  cases v <;> cases e <;> rfl
theorem okPart_of {v : Val} (h : okPart v = true) : ∃ i, partV v = some i := by
  cases v <;> first | exact ⟨_, rfl⟩ | cases h
theorem slc_part {x l h v : Val} (e : slc x l h = .ok v) : (∃ i, partV l = some i) ∧ ∃ j, partV h = some j := by
  have key : ∀ {α : Type} {xs : List α} {w : List α}, cut xs l h = some w → (∃ i, partV l = some i) ∧ ∃ j, partV h = some j := by
    intro α xs w e
    unfold cut at e
    constructor
    · cases l <;> first | exact ⟨_, rfl⟩ | (simp [clip] at e)
    · cases h <;> first | exact ⟨_, rfl⟩ | (cases h1 : clip xs.length 0 l <;> simp [h1, clip] at e)
  unfold slc at e
  split at e <;> first
    | (have e := orStuck_ok e
       obtain ⟨w, e1, _⟩ := Option.map_eq_some_iff.mp e
       exact key e1)
    | cases e
theorem cut_eq {α : Type} {xs : List α} {l h : Val} {i j : Option Int} (hl : partV l = some i) (hh : partV h = some j) : cut xs l h = some ((xs.drop (HT.sIx xs.length 0 i)).take (HT.sIx xs.length xs.length j - HT.sIx xs.length 0 i)) := by
  unfold cut
  rw [clip_sIx hl, clip_sIx hh]
  rfl
def rSlX (K : Fg) : V → Option Int → Option Int → Hp → VK → Prop := fun x l u H Q => rSlL K x l u H Q ∨ rSlA K x l u H Q ∨ rSlS x l u H Q
theorem sl_any {X : Cx} : SlR X (rSlX X.K) := sl_list.or (sl_tupA.or sl_str)
theorem cpOk_cut {s : List Nat} (h : cpOk s = true) (a n : Nat) : cpOk ((s.drop a).take n) = true := by
  rw [cpOk_iff] at *
  refine ⟨?_, ?_⟩
  · rw [List.all_eq_true] at *
    exact fun c hc => h.1 c (List.mem_of_mem_drop (List.mem_of_mem_take hc))
  · rw [List.length_take, List.length_drop]; omega
theorem p_slc {K : Fg} {F : AS} {H : Hp} {x l h v : Val} {i j : Option Int} {p : V} {Q : VK} (hF : ∀ a, F a → H a ≠ none) (hx : B1 K F H x p) (hl : partV l = some i) (hh : partV h = some j) (e : slc x l h = .ok v)
    (hq : ∀ H' fr z, (∀ a, H a ≠ none → H' a = H a) → Own K F H' 1 v z fr → (∀ a, fr a → H a = none) → Q z H') : rSlX K p i j H Q := by
  unfold slc at e
  split at e
  · rename_i vs
    rw [cut_eq hl hh] at e
    cases e
    obtain ⟨a, ps, rfl, ha, rs⟩ := hx
    refine .inl ⟨a, ps, rfl, .inl ha, ?_⟩
    have := (rs.drop (HT.sIx vs.length 0 i)).take (HT.sIx vs.length vs.length j - HT.sIx vs.length 0 i)
    unfold cutV
    rw [← rs.length]
    exact q_newL this hF hq
  · rename_i vs
    rw [cut_eq hl hh] at e
    cases e
    obtain ⟨a, ps, rfl, ha, rs⟩ := B1.of_tup hx
    have := (rs.drop (HT.sIx vs.length 0 i)).take (HT.sIx vs.length vs.length j - HT.sIx vs.length 0 i)
    refine .inr (.inl ⟨a, ps, rfl, ha.sq, fun w => ?_, fun _ => ?_⟩)
    · rw [← rs.length] at w
      rw [w.1, w.2] at hq
      have e2 : (vs.drop 0).take (vs.length - 0) = vs := by simp
      rw [e2] at hq
      exact q_imm hx rfl hq
    · unfold cutV
      rw [← rs.length]
      exact q_newT this hq
  · rename_i s
    rw [cut_eq hl hh] at e
    cases e
    obtain ⟨rfl, c⟩ := B1.of_str hx
    refine .inr (.inr ⟨_, rfl, by rw [toStr_len]; exact Nat.le_trans (cpOk_len c) big_line, ?_⟩)
    have e2 : cutS (toStr s) i j = toStr ((s.drop (HT.sIx s.length 0 i)).take (HT.sIx s.length s.length j - HT.sIx s.length 0 i)) := by
      unfold cutS
      rw [toStr_len, tl_toStr]
      rfl
    rw [e2]
    exact q_imm (.str (cpOk_cut c _ _)) rfl hq
  · cases e
theorem nox_slc (x l h : Val) : NoX (slc x l h) := by
  intro c vs e
  unfold slc at e
  split at e <;> first | exact absurd e (nox_orStuck _ _ _) | cases e
/-- a[lo:hi]: the parts pure -/
theorem je_slc {a : Expr} {lo hi : Option Expr} {ta tl th : MP.E} {pos p2 : Pos} (ha : JB C Γ b a ta) (hl : JP C Γ true lo tl) (hh : JP C Γ true hi th) : JE C Γ b 1 (.Subscript a (.Slice lo hi none p2) pos) (.slc ta tl th) := by
  intro n R E X cx
  refine (pe_slice sl_any (ha cx) (hl cx) (hh cx)).imp fun σ H Q q => ?_
  obtain ⟨F, fp, ρ, st, q⟩ := q
  have q : RSat ((evE (C.S.gl n) ta ρ).bind fun x => (evE (C.S.gl n) tl x.2).bind fun l => if okPart l.1 then (evE (C.S.gl n) th l.2).bind fun h => (slc x.1 l.1 h.1).bind fun v => .ok (v, h.2) else .stuck) _ _ := q
  refine ⟨F, fp, ρ, st, ?_⟩
  rw [RSat.bind] at q
  refine q.mono (fun o _ q F1 fp1 H1 p st1 ex1 pu1 b1 => ⟨F1, fp1, o.2, st1, ?_⟩) fun _ _ x => x
  rw [RSat.bind] at q
  refine q.mono (fun o2 _ q F2 fp2 H2 st2 ex2 pu2 => ?_) fun _ _ x => x.ext ex1
  have b2 := b1.mono (st1.keeps ex2) ex2.sub fun a n => ex2.same a n (.inl rfl)
  have e2 : o2.2 = o.2 := pu2 rfl
  rw [e2] at q
  cases hp : okPart o2.1 with
  | false => rw [hp] at q; exact q.elim
  | true =>
    rw [hp] at q
    obtain ⟨i, hp⟩ := okPart_of hp
    refine ⟨i, hp, F2, fp2, o.2, e2 ▸ st2, ?_⟩
    have q : RSat ((evE (C.S.gl n) th o.2).bind fun h => (slc o.1 o2.1 h.1).bind fun v => .ok (v, h.2)) _ _ := q
    rw [RSat.bind] at q
    refine q.mono (fun o3 _ q F3 fp3 H3 st3 ex3 pu3 => ?_) fun _ _ x => (x.ext ex1).ext ex2
    have b3 := b2.mono (st2.keeps ex3) ex3.sub fun a n => ex3.same a n (.inl rfl)
    rw [RSat.bind] at q
    cases e4 : slc o.1 o2.1 o3.1 with
    | stuck => rw [e4] at q; exact q.elim
    | exc c vs => exact absurd e4 (nox_slc _ _ _ c vs)
    | ok v =>
      rw [e4] at q
      obtain ⟨_, j, h2⟩ := slc_part e4
      exact ⟨j, h2, p_slc st3.tr b3 hp h2 e4 (prim_fin st3 ((ex1.trans (ex2.to (fun _ => rfl))).trans (ex3.to (fun _ => rfl))) (fun e => (pu3 rfl).trans (pu1 e)) q)⟩
end
end MP
/-! MiniPy against the hand layer: a[::-1] of lists, tuples, texts -/
namespace MP
open L2 PySem.Spec PySem PyProof.Rows

theorem sliceApplied_rev {prog : Program} {w : World} {A : Around} {E : Value → Shared → Prop} {s : Shared} {sl : Addr} {t : Tok} {n : Nat} {Q : Int × Int × Nat → Shared → Prop} (hs : s.heap.IsSliceOf sl .none .none (.int (-1) t))
    (h : Q ((n : Int) - 1, -1, n) s) : wpAny (model prog w) A (Builtin.Slice.sliceApplied (.ref sl) (pure (n : Int))) Q E s := by
  obtain ⟨os, hos, hcs, hds⟩ := id hs
  unfold Builtin.Slice.sliceApplied Builtin.Slice.sliceFields
  refine wpAny_bind (wpAny_bind (wpAny_field hos hds (x := .none) rfl (wpAny_bind (wpAny_field hos hds (x := .none) rfl (wpAny_bind (wpAny_field hos hds (x := .int (-1) t) rfl (wpAny_pure ?_)))))))
  refine wpAny_bind (slicePart_int ?_)
  show wpAny _ _ (if ((-1 : Int) == 0) = true then _ else _) _ _ s
  rw [if_neg (by decide)]
  refine wpAny_bind (slicePart_none (wpAny_bind (slicePart_none (wpAny_bind (wpAny_pure ?_)))))
  show wpAny _ _ (pure ((n : Int) - 1, (-1 : Int), Builtin.Slice.slicePlaces ((n : Int) - 1) (-1) (-1))) _ _ s
  have e : Builtin.Slice.slicePlaces ((n : Int) - 1) (-1) (-1) = n := by
    unfold Builtin.Slice.slicePlaces
    rw [if_neg (by decide)]
    by_cases h : (n : Int) - 1 > -1
    · rw [if_pos h]
      have : ((n : Int) - 1 - -1 - 1) / (- -1) + 1 = (n : Int) := by
        rw [show (- -1 : Int) = 1 by decide, Int.ediv_one]
        omega
      rw [this, Int.toNat_natCast]
    · rw [if_neg h]
      have : n = 0 := by omega
      subst this; rfl
  rw [e]
  exact wpAny_pure h
theorem fmap_id {α β : Type} {f : α → Option β} {l : List α} : (l.map f).filterMap id = l.filterMap f := by rw [List.filterMap_map]; rfl
theorem pick_rev (xs : Array Value) : ((List.range xs.size).filterMap fun (m : Nat) => xs[((xs.size : Int) - 1 + (m : Int) * (-1)).toNat]?).toArray = xs.toList.reverse.toArray := by
  have e : ((List.range xs.size).filterMap fun (m : Nat) => xs[((xs.size : Int) - 1 + (m : Int) * (-1)).toNat]?) = ((List.range xs.size).map fun k => xs.size - 1 - k).filterMap (xs[·]?) := by
    rw [← fmap_id (f := fun (m : Nat) => xs[((xs.size : Int) - 1 + (m : Int) * (-1)).toNat]?), ← fmap_id (f := (xs[·]?)), List.map_map]
    congr 1
    refine List.map_congr_left fun m hm => ?_
    have := List.mem_range.mp hm
    show xs[((xs.size : Int) - 1 + (m : Int) * (-1)).toNat]? = xs[xs.size - 1 - m]?
    rw [show ((xs.size : Int) - 1 + (m : Int) * (-1)).toNat = xs.size - 1 - m by omega]
  rw [e, PySem.W.krv_range, List.filterMap_reverse, PySem.W.krv_all]
theorem getItem_tuple_rev {prog : Program} {w : World} {A : Around} {E : Value → Shared → Prop} {s : Shared} {t sl : Addr} {items : Array Value} {tk : Tok} {Q : Value → Shared → Prop} (ht : IsTup s.heap t items) (hs : s.heap.IsSliceOf sl .none .none (.int (-1) tk))
    (h : Q (.ref s.heap.objs.size) { s with heap := s.heap.push { cls := .type "tuple", data := .seq items.toList.reverse.toArray } })
    (hsz : items.size ≤ sizeLine) : wpAny (model prog w) A (getItem (.ref t) (.ref sl)) Q E s := by
  have htake : sizeOk (.seq items.toList.reverse.toArray) := by
    show items.toList.reverse.toArray.size ≤ sizeLine
    rw [List.size_toArray, List.length_reverse, Array.length_toList]
    exact hsz
  obtain ⟨os, hos, hcs, hds⟩ := id hs
  have hTs : s.TypeIs (.ref sl) "slice" := ⟨os, hos, hcs⟩
  unfold getItem
  try with_reducible refine wpAny_holding ?_
  first | refine wpAny_bind (wpAny_pure ?_) | skip
  refine wpAny_bind (wpAny_sequenceKey ht.typeIs (by decide) ?_)
  refine wpAny_bind (wpAny_callSpecial?_slot (name := Str.ofString "__getitem__") ht.typeIs PyProof.Rows.slot_tuple_getitem
    (wpAny_call_entry PyProof.Rows.slot_tuple_getitem ht.typeIs entry_tuple_getitem ?_ (args_tuple_getitem _ _)))
  show wpAny _ _ (Builtin.Tuple.tupleItemsOf (.ref t) >>= _) _ _ s
  refine wpAny_bind (tupleItemsOf_ ht ?_)
  refine wpAny_bind (wpAny_typeOf hTs ?_)
  rw [if_pos (by decide)]
  refine wpAny_bind (sliceApplied_rev hs ?_)
  have hno : ¬ ((((items.size : Nat) : Int) - 1 == 0 && (-1 : Int) == 1 && items.size == items.size) = true) := by
    intro q
    rw [Bool.and_eq_true, Bool.and_eq_true] at q
    exact absurd q.1.2 (by decide)
  show wpAny _ _ (if (((items.size : Nat) : Int) - 1 == 0 && (-1 : Int) == 1 && items.size == items.size) = true then _ else _) _ _ s
  rw [if_neg hno, pick_rev]
  first
    | exact wpAny_bind (m := Builtin.Tuple.tupleExact _) (wpAny_newObj_type (wpAny_pure ⟨_, rfl, wpAny_pure h⟩) htake)
    | exact wpAny_bind (m := Builtin.Tuple.tupleExact _) (wpAny_newObj_type (wpAny_bind (wpAny_pure (wpAny_pure ⟨_, rfl, wpAny_pure h⟩))) htake)
    | exact wpAny_bind (wpAny_bind (m := Builtin.Tuple.tupleExact _) (wpAny_newObj_type (wpAny_pure (wpAny_pure ⟨_, rfl, wpAny_pure h⟩)) htake))
    | exact wpAny_bind (wpAny_bind (m := Builtin.Tuple.tupleExact _) (wpAny_newObj_type (wpAny_pure ⟨_, rfl, wpAny_pure h⟩) htake))
def rRevX (K : Fg) : V → Hp → VK → Prop := fun x H Q => (∃ a xs, x = .ref a ∧ SqL K H a xs ∧ ∀ p, H p = none → Q (.ref p) (upd H p (.lst xs.reverse))) ∨
  (∃ a xs, x = .ref a ∧ SqT K H a xs ∧ ∀ p, H p = none → Q (.ref p) (upd H p (.tup xs.reverse))) ∨ ∃ s : List Nat, x = .str (toStr s) ∧ s.length ≤ big ∧ Q (.str (toStr s.reverse)) H
theorem arr_rev (s : List Nat) : (((Builtin.Str.strSliceIndices none none (-1) (toStr s).length)).filterMap ((toStr s).cps[·]?)).toArray = s.reverse.toArray := by
  have e : Builtin.Str.strSliceIndices none none (-1) (toStr s).length = (List.range s.length).map fun k => s.length - 1 - k := by
    rw [toStr_len]
    show sliceRange ((s.length : Int) - 1) (-1) (-1) = _
    exact PySem.W.krv_sliceRange _
  rw [e, PySem.W.krv_range, List.filterMap_reverse]
  have := PySem.W.krv_all s.toArray
  rw [List.size_toArray] at this
  show (((List.range s.length).filterMap (s.toArray[·]?)).reverse).toArray = _
  rw [this]
theorem pe_rev {X : Cx} {e : Expr} {te : TE} {k : Nat} {p1 p2 p3 pos : Pos} (he : PE X e te) : PE X (.Subscript e (.Slice none none (some (.UnaryOp .USub (.Constant (.int 1) k p1) p2)) p3) pos) (fun σ H Q => te σ H fun x H1 => rRevX X.K x H1 Q) := by
  refine ⟨fun pins s σ H Q I h => ?_⟩
  refine Subscript_ (thn (he.run pins s σ H _ I h) fun v s1 ⟨x, H1, I1, r1, q1⟩ => ?_)
  have hst : PO X (some (.UnaryOp .USub (.Constant (.int 1) k p1) p2)) (tPart (tUn (rU fun i => .int (-i)) (tC (.int 1)))) := po_some (pe_un un_neg pe_int)
  refine wpAny_Slice (thn (po_none.run pins s1 σ H1 (fun o H2 => o = none ∧ H2 = H1) I1 ⟨rfl, rfl⟩) fun vl s2 ⟨l, H2, I2, pl, el, e2⟩ => ?_)
  subst el e2
  refine thn (po_none.run pins s2 σ H2 (fun o H3 => o = none ∧ H3 = H2) I2 ⟨rfl, rfl⟩) fun vu s3 ⟨u, H3, I3, pu, eu, e3⟩ => ?_
  subst eu e3
  refine thn (hst.run pins s3 σ H3 (fun o H4 => o = some (-1) ∧ H4 = H3) I3 ⟨1, rfl, -1, rfl, rfl, rfl⟩) fun vs s4 ⟨o, H4, I4, ps, eo, e4⟩ => ?_
  subst eo e4
  cases pl
  cases pu
  obtain ⟨tk, rfl⟩ : ∃ t, vs = .int (-1) t := by cases ps; exact ⟨_, rfl⟩
  have I5 : Inv X pins σ H4 { s4 with heap := s4.heap.push { cls := .type "slice", data := .fields #[.none, .none, .int (-1) tk] } } := I4.kept (t' := s4.toks) fun b ob q => Heap.get?_push_of_some _ q
  show wpAny (model X.prog X.w) X.A (subscriptTail e (.Slice none none (some (.UnaryOp .USub (.Constant (.int 1) k p1) p2)) p3) v (.ref s4.heap.objs.size)) (EP X pins σ Q) X.xe { s4 with heap := s4.heap.push { cls := .type "slice", data := .fields #[.none, .none, .int (-1) tk] } }
  rcases q1 with ⟨a, xs, rfl, hx, q⟩ | ⟨a, xs, rfl, hx, q⟩ | ⟨z, rfl, hz, q⟩
  · cases r1
    obtain ⟨its, r, ht, hz⟩ := I5.list hx
    have hlen := r.length
    refine tail_any (ops := [.ref a, .ref s4.heap.objs.size]) ht.isList.typeIs (PySem.slot_list_getitem.lookup) ?_ (by with_unfolding_all rfl)
    refine wpAny_getItem_list_slice ht.isList (Heap.IsSliceOf.new _ .none .none (.int (-1) tk)) .none .none ps (by decide) ?_ (by rw [List.size_toArray]; omega)
    rw [PySem.W.krv_pick]
    refine ⟨.ref _, _, I5.laid (t' := s4.toks) (o := .lst xs.reverse) (fun b ob q => Heap.get?_push_of_some _ q) (Nat.le_refl _) ?_, rfl, q _ (I5.hok.fresh (Nat.le_refl _))⟩
    exact ⟨by rw [List.length_reverse]; exact hz, _, 0, r.reverse, Heap.get?_push_size _ rfl⟩
  · cases r1
    obtain ⟨its, r, ht, hz⟩ := I5.tuple hx
    have hlen := r.length
    refine tail_any (ops := [.ref a, .ref s4.heap.objs.size]) ht.typeIs PyProof.Rows.slot_tuple_getitem.lookup ?_ (by with_unfolding_all rfl)
    refine getItem_tuple_rev ht (Heap.IsSliceOf.new _ .none .none (.int (-1) tk)) ?_ (by rw [List.size_toArray]; omega)
    refine ⟨.ref _, _, I5.laid (t' := s4.toks) (o := .tup xs.reverse) (fun b ob q => Heap.get?_push_of_some _ q) (Nat.le_refl _) ?_, rfl, q _ (I5.hok.fresh (Nat.le_refl _))⟩
    exact ⟨by rw [List.length_reverse]; exact hz, _, r.reverse, IsTup.new _ _⟩
  · obtain ⟨t, rfl⟩ := r1
    obtain ⟨os, hos, hcs, hds⟩ : ({ s4 with heap := s4.heap.push { cls := .type "slice", data := .fields #[.none, .none, .int (-1) tk] } } : Shared).heap.IsSliceOf s4.heap.objs.size .none .none (.int (-1) tk) := Heap.IsSliceOf.new _ .none .none (.int (-1) tk)
    refine tail_any (ops := [.ref s4.heap.objs.size, .str (toStr z) t]) (typeIs_str _ _ _) F.slot_str_getitem.lookup ?_ (by with_unfolding_all rfl)
    refine wpAny_getItem_str_slice (l := none) (u := none) (st := some (-1, tk)) ⟨os, hos, hcs, hds⟩ rfl ?_
    show Made.post (if ((-1 : Int) == 1 && (Builtin.Str.strSliceIndices none none (-1) (toStr z).length).length == (toStr z).length) = true then Made.val (.str (toStr z) t)
      else Made.str ⟨((Builtin.Str.strSliceIndices none none (-1) (toStr z).length).filterMap ((toStr z).cps[·]?)).toArray⟩) (EP X pins σ Q) _
    rw [if_neg (by rw [show ((-1 : Int) == 1) = false from by decide, Bool.false_and]; exact Bool.false_ne_true), arr_rev]
    exact ⟨by show z.reverse.toArray.size ≤ _; rw [List.size_toArray, List.length_reverse]; exact Nat.le_trans hz big_line, .str _, H4, I5.tok _, ⟨_, rfl⟩, q⟩
theorem cpOk_rev {s : List Nat} (h : cpOk s = true) : cpOk s.reverse = true := by
  rw [cpOk_iff] at *
  rw [List.all_reverse, List.length_reverse]
  exact h
theorem p1_rev (K : Fg) : P1 K 1 (rRevX K) rev := by
  intro F H x v p Q hF hx e hq
  cases x <;> cases e
  · obtain ⟨rfl, c⟩ := B1.of_str hx
    exact .inr (.inr ⟨_, rfl, cpOk_len c, q_imm (.str (cpOk_rev c)) rfl hq⟩)
  · obtain ⟨a, ps, rfl, ha, rs⟩ := B1.of_tup hx
    exact .inr (.inl ⟨a, ps, rfl, ha.sq, q_newT rs.reverse hq⟩)
  · obtain ⟨a, ps, rfl, ha, rs⟩ := hx
    exact .inl ⟨a, ps, rfl, .inl ha, q_newL rs.reverse hF hq⟩
theorem je_rev {C : Ct} {Γ : List Nat} {b : Bool} {a : Expr} {t : MP.E} {k : Nat} {p1 p2 p3 pos : Pos} (h : JB C Γ b a t) : JE C Γ b 1 (.Subscript a (.Slice none none (some (.UnaryOp .USub (.Constant (.int 1) k p1) p2)) p3) pos) (.rev t) :=
  je_prim1 (f := rev) (r := fun X => rRevX X.K) (fun G => rfl) (fun cx tl hl => pe_rev hl) (fun X => p1_rev X.K) (fun x c vs e => by cases x <;> cases e) h
end MP
/-! MiniPy against the hand layer: built-in functions of one thing -/
namespace MP
open L2 PySem.Spec PySem PyProof.Rows

section
variable {C : Ct} {Γ : List Nat} {b : Bool} {k : Nat}
theorem evE_blt1 {G : Gl} {bl : Blt} {t : MP.E} (h : bl ≠ .repr) : evE G (.blt bl (.cons t .nil)) = fun ρ => (evE G t ρ).bind fun x => (blt bl [x.1]).bind fun v => .ok (v, x.2) := by
  funext ρ
  simp only [evE, evEs]
  cases evE G t ρ with
  | ok x => cases bl <;> first | rfl | exact absurd rfl h
  | exc _ _ => rfl
  | stuck => rfl
/-- the name of a built-in -/
structure Bn (C : Ct) (x : PySem.Str) (u : Value) : Prop where
  g : C.sc.names.lookup x = some .globalImplicit
  m : x ∈ C.S.free
  v : bootBuiltins x = some u
  n : x ≠ "__name__"
  d : (x == ("__debug__" : PySem.Str)) = false
theorem Bn.gl {x : PySem.Str} {u : Value} (h : Bn C x u) {R : Rt} {n : Nat} {E : XK} {X : Cx} (cx : CxOk C.S R n C.N C.sc C.fn E X) : L2.Gl X x := by
  show X.env.scope.names.lookup x = _
  rw [cx.scope]; exact h.g
theorem Bn.mg {x : PySem.Str} {u : Value} (h : Bn C x u) {R : Rt} {n : Nat} {E : XK} {X : Cx} (cx : CxOk C.S R n C.N C.sc C.fn E X) : X.mg x = none := cx.gl.free x h.m
theorem noPlain (pos : Pos) (env : PySem.Env) : (backTo pos (starEach [] env)).any (·.1) = false := rfl
theorem je_call1B {x : PySem.Str} {id : String} {bl : Blt} {e : Expr} {t : MP.E} {p pos : Pos} {r : Cx → List V → Hp → VK → Prop} (hb : Bn C x (.builtin id)) (hc : ∀ {n R E X}, CxOk C.S R n C.N C.sc C.fn E X → CallR X (.builtin id) (r X)) (h1 : ∀ X : Cx, P1 X.K k (fun v H Q => r X [v] H Q) fun v => blt bl [v])
    (nx : ∀ v, NoX (blt bl [v])) (hr : bl ≠ .repr) (hs : NoStar e) (ha : JB C Γ b e t) : JE C Γ b k (.Call (.Name x p) [e] [] pos) (.blt bl (.cons t .nil)) :=
  je_prim1 (f := fun v => blt bl [v]) (r := fun X v H Q => r X [v] H Q) (fun G => evE_blt1 hr)
    (fun {n R E X} cx tl hl => pe_callB (hc cx) (hb.gl cx) (hb.mg cx) hb.v (pa_cons hl pa_nil (hs [] X.env)) hb.n hb.d (hs [] X.env) rfl) h1 nx ha
theorem je_call1T {x : PySem.Str} {T : String} {bl : Blt} {e : Expr} {t : MP.E} {p pos : Pos} {r : Cx → List V → Hp → VK → Prop} (hb : Bn C x (.type T)) (hc : ∀ {n R E X}, CxOk C.S R n C.N C.sc C.fn E X → CallR X (.type T) (r X)) (h1 : ∀ X : Cx, P1 X.K k (fun v H Q => r X [v] H Q) fun v => blt bl [v])
    (nx : ∀ v, NoX (blt bl [v])) (hr : bl ≠ .repr) (hs : NoStar e) (ha : JB C Γ b e t) : JE C Γ b k (.Call (.Name x p) [e] [] pos) (.blt bl (.cons t .nil)) :=
  je_prim1 (f := fun v => blt bl [v]) (r := fun X v H Q => r X [v] H Q) (fun G => evE_blt1 hr)
    (fun {n R E X} cx tl hl => pe_callTy (hc cx) (hb.gl cx) (hb.mg cx) hb.v (pa_cons hl pa_nil (hs [] X.env)) hb.n hb.d (hs [] X.env) rfl) h1 nx ha
theorem nox_items (v : Val) : NoX (items v) := by intro c vs h; cases v <;> cases h
theorem nox_bind {α β : Type} {r : Res α} {f : α → Res β} (h : NoX r) (g : ∀ a, NoX (f a)) : NoX (r.bind f) := by
  intro c vs e
  cases r with
  | ok a => exact g a c vs e
  | exc c' vs' => exact h c' vs' rfl
  | stuck => cases e
theorem nox_ok {α : Type} (a : α) : NoX (.ok a) := fun _ _ e => by cases e
theorem nox_stuck {α : Type} : NoX (.stuck : Res α) := fun _ _ e => by cases e
theorem nox_ite {α : Type} {c : Bool} {a b : Res α} (ha : NoX a) (hb : NoX b) : NoX (if c = true then a else b) := by cases c <;> assumption
theorem nox_dite {α : Type} {c : Prop} [Decidable c] {a b : Res α} (ha : NoX a) (hb : NoX b) : NoX (if c then a else b) := by split <;> assumption
theorem nox_range (vs : List Val) : NoX (range vs) := by
  intro c us h
  unfold range at h
  split at h <;> first | cases h | (split at h <;> cases h)
theorem nox_sorted (vs : List Val) : NoX (sorted vs) := nox_dite (nox_ok _) nox_stuck
theorem nox_blt (bl : Blt) (vs : List Val) : NoX (blt bl vs) := by
  unfold blt
  split <;> repeat' (with_reducible first
    | exact nox_ok _
    | exact nox_stuck
    | exact nox_orStuck _
    | exact nox_items _
    | exact nox_range _
    | exact nox_sorted _
    | refine nox_bind ?_ fun _ => ?_
    | refine nox_dite ?_ ?_)
end
end MP
/-! MiniPy against the hand layer: len, abs, int, list, tuple, sum, any, all, min, max, isinstance, repr -/
namespace MP
open L2 PySem.Spec PySem PyProof.Rows
section
variable {K : Fg} {F : AS} {H : Hp}
def rLen (K : Fg) : List V → Hp → VK → Prop := fun xs H Q => (∃ z : PySem.Str, xs = [.str z] ∧ z.length ≤ sizeLine ∧ Q (.int z.length) H) ∨ (∃ p ys, xs = [.ref p] ∧ (SqL K H p ys ∨ SqT K H p ys) ∧ Q (.int ys.length) H) ∨
  ∃ p kvs, xs = [.ref p] ∧ Rd H p (.dK kvs) ∧ Q (.int kvs.length) H
theorem cr_len {X : Cx} : CallR X (.builtin "len") (rLen X.K) := by
  intro pins s σ H xs us Q I r h
  rcases h with h | h | ⟨p, kvs, rfl, hd, q⟩
  · exact call_len_str pins s σ H xs us Q I r h
  · exact call_len_seq pins s σ H xs us Q I r h
  · obtain ⟨u, rfl, rx⟩ := vals1 r
    cases rx
    exact d_len I hd fun t s' I' => ⟨.int kvs.length, H, I', ⟨t, rfl⟩, q⟩
theorem p1_len : P1 K 1 (fun v H Q => rLen K [v] H Q) fun v => blt .len [v] := by
  intro F H x v p Q hF hx e hq
  cases x <;> cases e
  · obtain ⟨rfl, c⟩ := B1.of_str hx
    exact .inl ⟨_, rfl, by rw [toStr_len]; exact Nat.le_trans (cpOk_len c) big_line, by rw [toStr_len]; exact q_imm (.int _) rfl hq⟩
  · obtain ⟨a, ps, rfl, ha, rs⟩ := B1.of_tup hx
    exact .inr (.inl ⟨a, ps, rfl, .inr ha.sq, by rw [← rs.length]; exact q_imm (.int _) rfl hq⟩)
  · obtain ⟨a, ps, rfl, ha, rs⟩ := hx
    exact .inr (.inl ⟨a, ps, rfl, .inl (.inl ha), by rw [← rs.length]; exact q_imm (.int _) rfl hq⟩)
  · obtain ⟨a, ps, rfl, ha, rs⟩ := hx
    exact .inr (.inr ⟨a, ps, rfl, ha, by rw [← rs.length]; exact q_imm (.int _) rfl hq⟩)
theorem p1_abs : P1 K 1 (fun v H Q => (fun xs H (Q : VK) => ∃ i, xs = [V.int i] ∧ Q (.int (if i < 0 then -i else i)) H) [v] H Q) fun v => blt .abs [v] := by
  intro F H x v p Q hF hx e hq
  cases x <;> cases e
  cases B1.of_int hx
  exact ⟨_, rfl, q_imm (.int _) rfl hq⟩
theorem p1_int : P1 K 1 (fun v H Q => (fun xs H (Q : VK) => (∃ i, xs = [V.int i] ∧ Q (.int i) H) ∨ ∃ k, xs = [V.bl k] ∧ Q (.int (if k then 1 else 0)) H) [v] H Q) fun v => blt .int [v] := by
  intro F H x v p Q hF hx e hq
  cases x <;> cases e
  · cases FR.blS hx
    exact .inr ⟨_, rfl, q_imm (.int _) rfl hq⟩
  · cases B1.of_int hx
    exact .inl ⟨_, rfl, q_imm (.int _) rfl hq⟩
theorem ints_of : ∀ {vs : List Val} {ns : List Int} {ps : List V}, allInts vs = some ns → FRs K F H vs ps → ps = ns.map V.int
  | [], ns, _, e, .nil => by cases e; rfl
  | v :: vs, ns, _, e, .cons h t => by
    cases v <;> simp only [allInts] at e <;> first | (cases e; done) | skip
    cases e1 : allInts vs with
    | none => rw [e1] at e; cases e
    | some ms =>
      rw [e1] at e; cases e
      cases FR.intS h
      rw [ints_of e1 t]; rfl
theorem bools_of : ∀ {vs : List Val} {ns : List Bool} {ps : List V}, allBools vs = some ns → FRs K F H vs ps → ps = ns.map V.bl
  | [], ns, _, e, .nil => by cases e; rfl
  | v :: vs, ns, _, e, .cons h t => by
    cases v <;> simp only [allBools] at e <;> first | (cases e; done) | skip
    cases e1 : allBools vs with
    | none => rw [e1] at e; cases e
    | some ms =>
      rw [e1] at e; cases e
      cases FR.blS h
      rw [bools_of e1 t]; rfl
theorem strs_of : ∀ {vs : List Val} {ns : List (List Nat)} {ps : List V}, allStrs vs = some ns → FRs K F H vs ps → ps = (ns.map toStr).map V.str ∧ ∀ s ∈ ns, cpOk s = true
  | [], ns, _, e, .nil => by cases e; exact ⟨rfl, fun _ h => by cases h⟩
  | v :: vs, ns, _, e, .cons h t => by
    cases v <;> simp only [allStrs] at e <;> first | (cases e; done) | skip
    cases e1 : allStrs vs with
    | none => rw [e1] at e; cases e
    | some ms =>
      rw [e1] at e; cases e
      obtain ⟨rfl, c⟩ := FR.strS h
      obtain ⟨e2, c2⟩ := strs_of e1 t
      refine ⟨by rw [e2]; rfl, fun s hs => ?_⟩
      rcases List.mem_cons.mp hs with rfl | hs
      · exact c
      · exact c2 s hs
theorem p1_sum : P1 K 1 (fun v H Q => rSum K [v] H Q) fun v => blt .sum [v] := by
  intro F H x v p Q hF hx e hq
  cases x with
  | lst vs =>
    have e : ((orStuck (allInts vs)).bind fun ns => Res.ok (.int ns.sum)) = .ok v := e
    cases e1 : allInts vs with
    | none => rw [e1] at e; cases e
    | some ns =>
      rw [e1] at e; cases e
      obtain ⟨a, ps, rfl, ha, rs⟩ := hx
      cases ints_of e1 rs
      exact ⟨a, ns, rfl, .inl ha, q_imm (.int _) rfl hq⟩
  | _ => cases e
theorem p1_any : P1 K 1 (fun v H Q => rAny K [v] H Q) fun v => blt .any [v] := by
  intro F H x v p Q hF hx e hq
  cases x with
  | lst vs =>
    have e : ((orStuck (allBools vs)).bind fun ns => Res.ok (.bool (ns.any id))) = .ok v := e
    cases e1 : allBools vs with
    | none => rw [e1] at e; cases e
    | some ns =>
      rw [e1] at e; cases e
      obtain ⟨a, ps, rfl, ha, rs⟩ := hx
      cases bools_of e1 rs
      exact ⟨a, ns, rfl, .inl ha, q_imm (.bl _) rfl hq⟩
  | _ => cases e
theorem p1_all : P1 K 1 (fun v H Q => rAll K [v] H Q) fun v => blt .all [v] := by
  intro F H x v p Q hF hx e hq
  cases x with
  | lst vs =>
    have e : ((orStuck (allBools vs)).bind fun ns => Res.ok (.bool (ns.all id))) = .ok v := e
    cases e1 : allBools vs with
    | none => rw [e1] at e; cases e
    | some ns =>
      rw [e1] at e; cases e
      obtain ⟨a, ps, rfl, ha, rs⟩ := hx
      cases bools_of e1 rs
      exact ⟨a, ns, rfl, .inl ha, q_imm (.bl _) rfl hq⟩
  | _ => cases e
theorem p1_list : P1 K 1 (fun v H Q => (fun xs H (Q : VK) => ∃ p ys, xs = [V.ref p] ∧ (SqL K H p ys ∨ SqT K H p ys) ∧ ∀ l, H l = none → Q (.ref l) (upd H l (.lst ys))) [v] H Q) fun v => blt .list [v] := by
  intro F H x v p Q hF hx e hq
  cases x <;> first | (cases e; done) | skip
  · cases e
    obtain ⟨a, ps, rfl, ha, rs⟩ := B1.of_tup hx
    exact ⟨a, ps, rfl, .inr ha.sq, q_newL rs hF hq⟩
  · cases e
    obtain ⟨a, ps, rfl, ha, rs⟩ := hx
    exact ⟨a, ps, rfl, .inl (.inl ha), q_newL rs hF hq⟩
theorem p1_tuple {k : Nat} : P1 K k (fun v H Q => (fun xs H (Q : VK) => ∃ p ys, xs = [V.ref p] ∧ ((SqL K H p ys ∧ ∀ l, H l = none → Q (.ref l) (upd H l (.tup ys))) ∨ (SqT K H p ys ∧ Q (.ref p) H))) [v] H Q) fun v => blt .tuple [v] := by
  intro F H x v p Q hF hx e hq
  cases x <;> cases e
  · obtain ⟨a, ps, rfl, ha, rs⟩ := B1.of_tup hx
    exact ⟨a, ps, rfl, .inr ⟨ha.sq, q_imm hx rfl hq⟩⟩
  · obtain ⟨a, ps, rfl, ha, rs⟩ := hx
    exact ⟨a, ps, rfl, .inl ⟨.inl ha, q_newT rs hq⟩⟩
/-! ### min, max of a list of integers -/
theorem foldl_min_le : ∀ (ns : List Int) (n : Int), (ns.foldl min n ≤ n ∧ ∀ y ∈ ns, ns.foldl min n ≤ y) ∧ (ns.foldl min n = n ∨ ns.foldl min n ∈ ns)
  | [], n => by simp
  | x :: ns, n => by
    obtain ⟨⟨h1, h2⟩, h3⟩ := foldl_min_le ns (min n x)
    rw [List.foldl_cons]
    refine ⟨⟨by omega, fun y hy => ?_⟩, ?_⟩
    · rcases List.mem_cons.mp hy with rfl | hy
      · omega
      · exact h2 y hy
    · rcases h3 with h3 | h3
      · by_cases h : n ≤ x
        · left; omega
        · right; rw [h3]; have : min n x = x := by omega
          rw [this]; simp
      · right; exact List.mem_cons_of_mem _ h3
theorem foldl_max_le : ∀ (ns : List Int) (n : Int), (n ≤ ns.foldl max n ∧ ∀ y ∈ ns, y ≤ ns.foldl max n) ∧ (ns.foldl max n = n ∨ ns.foldl max n ∈ ns)
  | [], n => by simp
  | x :: ns, n => by
    obtain ⟨⟨h1, h2⟩, h3⟩ := foldl_max_le ns (max n x)
    rw [List.foldl_cons]
    refine ⟨⟨by omega, fun y hy => ?_⟩, ?_⟩
    · rcases List.mem_cons.mp hy with rfl | hy
      · omega
      · exact h2 y hy
    · rcases h3 with h3 | h3
      · by_cases h : x ≤ n
        · left; omega
        · right; rw [h3]; have : max n x = x := by omega
          rw [this]; simp
      · right; exact List.mem_cons_of_mem _ h3
theorem p1_min : P1 K 1 (fun v H Q => rMin K [v] H Q) fun v => blt .min [v] := by
  intro F H x v p Q hF hx e hq
  cases x <;> first | (cases e; done) | skip
  rename_i vs
  have e : ((orStuck (allInts vs)).bind fun ns => (orStuck (bestI false ns)).bind fun n => Res.ok (.int n)) = .ok v := e
  cases e1 : allInts vs with
  | none => rw [e1] at e; cases e
  | some ns =>
    rw [e1] at e
    obtain ⟨a, ps, rfl, ha, rs⟩ := hx
    cases ints_of e1 rs
    cases ns with
    | nil => cases e
    | cons n ns =>
      cases e
      refine ⟨a, n :: ns, rfl, .inl ha, by simp, fun m hm hl => ?_⟩
      obtain ⟨⟨h1, h2⟩, h3⟩ := foldl_min_le ns n
      have : m = ns.foldl min n := by
        have a1 : m ≤ ns.foldl min n := by
          rcases h3 with h3 | h3
          · rw [h3]; exact hl _ (by simp)
          · exact hl _ (List.mem_cons_of_mem _ h3)
        rcases List.mem_cons.mp hm with rfl | hm
        · omega
        · have := h2 m hm; omega
      subst this
      exact q_imm (.int _) rfl hq
theorem p1_max : P1 K 1 (fun v H Q => rMax K [v] H Q) fun v => blt .max [v] := by
  intro F H x v p Q hF hx e hq
  cases x <;> first | (cases e; done) | skip
  rename_i vs
  have e : ((orStuck (allInts vs)).bind fun ns => (orStuck (bestI true ns)).bind fun n => Res.ok (.int n)) = .ok v := e
  cases e1 : allInts vs with
  | none => rw [e1] at e; cases e
  | some ns =>
    rw [e1] at e
    obtain ⟨a, ps, rfl, ha, rs⟩ := hx
    cases ints_of e1 rs
    cases ns with
    | nil => cases e
    | cons n ns =>
      cases e
      refine ⟨a, n :: ns, rfl, .inl ha, by simp, fun m hm hl => ?_⟩
      obtain ⟨⟨h1, h2⟩, h3⟩ := foldl_max_le ns n
      have : m = ns.foldl max n := by
        have a1 : ns.foldl max n ≤ m := by
          rcases h3 with h3 | h3
          · rw [h3]; exact hl _ (by simp)
          · exact hl _ (List.mem_cons_of_mem _ h3)
        rcases List.mem_cons.mp hm with rfl | hm
        · omega
        · have := h2 m hm; omega
      subst this
      exact q_imm (.int _) rfl hq
/-! ### sorted -/
def rSrt (K : Fg) : List V → Hp → VK → Prop := fun xs H Q => ∃ (a : Addr) (vs : List Val) (ps : List V), xs = [.ref a] ∧ SqL K H a ps ∧ ps.length = vs.length ∧ DpAll K H ps (dats vs) ∧ PySem.W.AllAlike (dats vs) ∧ PySem.W.Sortable (dats vs) ∧ (∀ v ∈ vs, (dat v).depth ≤ 60) ∧
  ∀ qs : List V, PySem.W.EachIs (fun q (u : Val × V) => q = u.2) qs ((vs.zip ps).mergeSort (PySem.W.dataLe false fun u => dat u.1)) → ∀ p, H p = none → Q (.ref p) (upd H p (.lst qs))
theorem dpAll_get : ∀ {ps : List V} {ds : List PyData} {i : Nat} {p : V} {d : PyData}, DpAll K H ps ds → ps[i]? = some p → ds[i]? = some d → Dp K H p d
  | _, _, _, _, _, .nil, e, _ => by simp at e
  | _, _, 0, _, _, .cons h _, e, e' => by simp at e e'; subst e e'; exact h
  | _, _, i + 1, _, _, .cons _ t, e, e' => dpAll_get (i := i) t (by simpa using e) (by simpa using e')
theorem each_reads {X : Cx} {pins : List (Addr × Obj)} {σ : L2.St} {H : Hp} {s : Shared} (I : Inv X pins σ H s) : ∀ {vs : List Val} {ps : List V} {us : List Value}, DpAll X.K H ps (dats vs) → Vals ps us →
    PySem.W.EachIs (fun v (u : Val × V) => ∃ as, Reads s.heap v (dat u.1) as) us (vs.zip ps) ∧ PySem.W.EachIs (fun v (u : Val × V) => RelV u.2 v) us (vs.zip ps) ∧ (vs.zip ps).length = us.length
  | [], _, _, .nil, .nil => ⟨.nil, .nil, rfl⟩
  | v :: vs, _, _, .cons h t, .cons r rs => by
    obtain ⟨a, b, c⟩ := each_reads I t rs
    obtain ⟨as, q⟩ := Dp.reads I _ _ _ h r
    exact ⟨.cons ⟨as, q⟩ a, .cons r b, by simp [c]⟩
theorem each_len {α β : Type} {R : α → β → Prop} : ∀ {xs : List α} {ys : List β}, PySem.W.EachIs R xs ys → xs.length = ys.length
  | _, _, .nil => rfl
  | _, _, .cons _ t => by simp [each_len t]
theorem each_vals : ∀ {us : List Value} {bs : List (Val × V)}, PySem.W.EachIs (fun v (u : Val × V) => RelV u.2 v) us bs → Vals (bs.map (·.2)) us
  | _, _, .nil => .nil
  | _, _, .cons h t => .cons h (each_vals t)
theorem each_snd : ∀ (bs : List (Val × V)), PySem.W.EachIs (fun q (u : Val × V) => q = u.2) (bs.map (·.2)) bs
  | [] => .nil
  | b :: bs => .cons rfl (each_snd bs)
theorem zip_fst : ∀ {vs : List Val} {ps : List V}, ps.length = vs.length → (vs.zip ps).map (fun u => dat u.1) = dats vs
  | [], _, _ => by simp [dats]
  | v :: vs, [], e => by simp at e
  | v :: vs, p :: ps, e => by
    have := zip_fst (vs := vs) (ps := ps) (by simpa using e)
    simp [dats, this]
theorem cr_srt {X : Cx} (hu : X.A.units + 65 < cLine) : CallR X (.builtin "sorted") (rSrt X.K) := by
  intro pins s σ H xs us Q I r h
  obtain ⟨a, vs, ps, rfl, hs, hl, hd, ha, hk, hdp, q⟩ := h
  obtain ⟨its, rv, hls, hz⟩ := I.list hs
  rw [Vals.ref1 r]
  obtain ⟨e1, e2, e3⟩ := each_reads I hd rv
  have hlen := rv.length
  have ez := zip_fst hl
  refine PySem.W.sorted_data (vs := its) (bs := vs.zip ps) (enc := fun u => dat u.1) (R := fun v (u : Val × V) => RelV u.2 v) hls.isList e2 e1 (by rw [ez]; exact ha) (by rw [ez]; exact hk) (by rw [e3, ← hlen]; exact hz) (fun u hu' => ?_) fun out ho eo => ?_
  · have := hdp u.1 (List.of_mem_zip (by exact hu')).1
    omega
  · obtain ⟨ep, he'⟩ := PyProof.Rows.sortedAll_at s.heap its out.toArray
    have hv := each_vals eo
    have h2 := hv.length
    refine ⟨.ref _, _, I.laid (t' := s.toks) (o := .lst (((vs.zip ps).mergeSort (PySem.W.dataLe false fun u => dat u.1)).map (·.2))) (fun _ _ => PyProof.Rows.sortedAll_old) (Nat.le_succ _) ⟨?_, out, ep, hv, he'⟩, rfl, q _ (each_snd _) _ (I.hok.fresh (Nat.le_succ _))⟩
    rw [h2, ho, e3, ← hlen]; exact hz
theorem mem_dats {d : PyData} {vs : List Val} (h : d ∈ dats vs) : ∃ v ∈ vs, dat v = d := by
  rw [dats_map] at h
  exact List.mem_map.mp h
theorem frs_zip : ∀ {vs : List Val} {ps : List V}, FRs K F H vs ps → ∀ u ∈ vs.zip ps, FR K F H u.1 u.2
  | _, _, .nil, _, h => by cases h
  | _, _, .cons a t, u, h => by
    rw [List.zip_cons_cons] at h
    rcases List.mem_cons.mp h with rfl | h
    · exact a
    · exact frs_zip t u h
theorem frs_unzip : ∀ (bs : List (Val × V)), (∀ u ∈ bs, FR K F H u.1 u.2) → FRs K F H (bs.map (·.1)) (bs.map (·.2))
  | [], _ => .nil
  | b :: bs, h => .cons (h b List.mem_cons_self) (frs_unzip bs fun u hu => h u (List.mem_cons_of_mem _ hu))
theorem shps_mem {n : Nat} : ∀ {vs : List Val} {v : Val}, shps n vs = true → v ∈ vs → shp n v = true
  | _ :: _, _, h, hm => by
    simp only [shps, Bool.and_eq_true] at h
    rcases List.mem_cons.mp hm with rfl | hm
    · exact h.1
    · exact shps_mem h.2 hm
theorem fst_zip {vs : List Val} {ps : List V} (h : vs.length = ps.length) : (vs.zip ps).map (·.1) = vs := List.map_fst_zip (Nat.le_of_eq h)
theorem dat_tup {v : Val} {x : PyData} {r : List PyData} (h : dat v = .tuple (x :: r)) : True := trivial
theorem sorted_frs {vs r : List Val} {ps : List V} (e : sorted vs = .ok r) (rs : FRs K F H vs ps) : DpAll K H ps (dats vs) ∧ PySem.W.AllAlike (dats vs) ∧ PySem.W.Sortable (dats vs) ∧ (∀ v ∈ vs, (dat v).depth ≤ 60) ∧
    ∀ qs : List V, PySem.W.EachIs (fun q (u : Val × V) => q = u.2) qs ((vs.zip ps).mergeSort (PySem.W.dataLe false fun u => dat u.1)) → FRs K F H r qs := by
  unfold sorted at e
  split at e
  · rename_i h
    cases e
    simp only [Bool.and_eq_true] at h
    obtain ⟨⟨h1, h2⟩, h3⟩ := h
    have hal : ∀ a ∈ vs, ∀ b ∈ vs, alike a b = true := fun a ha b hb => by
      unfold allAlike at h1
      exact List.all_eq_true.mp (List.all_eq_true.mp h1 a ha) b hb
    refine ⟨(rs.dp h2).1, fun d hd d' hd' => ?_, ?_, fun v hv => shp_depth v (shps_mem h2 hv), fun qs eq => ?_⟩
    · obtain ⟨v, hv, rfl⟩ := mem_dats hd
      obtain ⟨v', hv', rfl⟩ := mem_dats hd'
      exact alike_dat v v' (hal v hv v' hv')
    · unfold sortable at h3
      rw [Bool.or_eq_true] at h3
      rcases h3 with h3 | h3
      · refine .inl fun d hd => ?_
        obtain ⟨v, hv, rfl⟩ := mem_dats hd
        have := List.all_eq_true.mp h3 v hv
        cases v <;> first | (cases this; done) | skip
        rename_i us
        cases us with
        | nil => cases this
        | cons u us => exact ⟨dat u, dats us, by simp [dat, dats]⟩
      · refine .inr fun d hd => ?_
        obtain ⟨v, hv, rfl⟩ := mem_dats hd
        have t := List.all_eq_true.mp h3 v hv
        have sh := shps_mem h2 hv
        cases v <;> first | (cases t; done) | (simp [shp] at sh; done) | exact ⟨by simp [dat], by simp [dat]⟩
    · have e2 : qs = ((vs.zip ps).mergeSort (PySem.W.dataLe false fun u => dat u.1)).map (·.2) := by
        clear h1 h2 h3 hal
        generalize (vs.zip ps).mergeSort (PySem.W.dataLe false fun u => dat u.1) = bs at eq
        induction eq with
        | nil => rfl
        | cons h _ ih => rw [h, ih]; rfl
      have e3 : vs.mergeSort le' = ((vs.zip ps).mergeSort (PySem.W.dataLe false fun u => dat u.1)).map (·.1) := by
        rw [List.map_mergeSort (s := le') (fun a ha b hb => ?_), fst_zip rs.length]
        have a1 := (List.of_mem_zip ha).1
        have b1 := (List.of_mem_zip hb).1
        rw [PySem.W.dataLe_eq]
        show (!PySem.W.dataLt (dat b.1) (dat a.1)) = le' a.1 b.1
        unfold le'
        rw [vlt_dat b.1 a.1 (hal _ b1 _ a1) (shps_mem h2 b1) (shps_mem h2 a1)]
      rw [e2, e3]
      refine frs_unzip _ fun u hu => frs_zip rs u ?_
      exact (List.mergeSort_perm _ _).mem_iff.mp hu
  · cases e
theorem p1_sortedL : P1 K 1 (fun v H Q => rSrt K [v] H Q) fun v => match v with | .lst vs => blt .sorted [.lst vs] | _ => .stuck := by
  intro F H x v p Q hF hx e hq
  cases x <;> first | (cases e; done) | skip
  rename_i vs
  have e : ((sorted vs).bind fun r => Res.ok (.lst r)) = .ok v := e
  cases e1 : sorted vs with
  | ok r =>
    rw [e1] at e; cases e
    obtain ⟨a, ps, rfl, ha, rs⟩ := hx
    obtain ⟨a1, a2, a3, a4, a5⟩ := sorted_frs e1 rs
    exact ⟨a, vs, ps, rfl, .inl ha, rs.length.symm, a1, a2, a3, a4, fun qs eq => q_newL (a5 qs eq) hF hq⟩
  | exc _ _ => rw [e1] at e; cases e
  | stuck => rw [e1] at e; cases e
end
end MP
/-! MiniPy against the hand layer: statements -/
namespace MP
open L2 PySem.Spec PySem PyProof.Rows

section
variable {K : Fg} {S : Stat} {Γ Γ' Γ1 Γ2 : List Nat} {F F' : AS} {fp fp' : Nat → AS} {ρ : MP.Env} {σ : L2.St} {H H' : Hp} {b : Bool} {k : Nat} {E : XK} {C : Ct}
/-! ### what is let go -/
/-- some slots are owned no more -/
def frzTo (Γ Γ' : List Nat) : Bool := Γ.length == Γ'.length && (List.range Γ.length).all fun i => Γ'.getD i 0 == 0 || Γ'.getD i 0 == Γ.getD i 0
theorem frzTo_at (h : frzTo Γ Γ' = true) (i : Nat) : Γ'.getD i 0 = 0 ∨ Γ'.getD i 0 = Γ.getD i 0 := by
  unfold frzTo at h
  rw [Bool.and_eq_true, List.all_eq_true] at h
  by_cases hi : i < Γ.length
  · have := h.2 i (List.mem_range.mpr hi)
    rw [Bool.or_eq_true, beq_iff_eq, beq_iff_eq] at this
    exact this
  · left
    rw [List.getD_eq_getElem?_getD, List.getElem?_eq_none (by have := eq_of_beq h.1; omega)]; rfl
theorem Stt.frzTo (s : Stt K Γ F fp ρ σ H) (h : MP.frzTo Γ Γ' = true) : ∃ F1 fp1, Stt K Γ' F1 fp1 ρ σ H ∧ Ext false F fp H F1 fp1 H ∧ ∀ i a, fp1 i a → fp i a := by
  let F1 : AS := fun a => F a ∨ ∃ i, Γ'.getD i 0 = 0 ∧ fp i a
  let fp1 : Nat → AS := fun i a => Γ'.getD i 0 ≠ 0 ∧ fp i a
  have hF : ∀ a, F a → F1 a := fun a z => .inl z
  refine ⟨F1, fp1, ⟨fun i v e => ?_, fun i hv a z => s.out i hv a z.2, fun i j a ij z w => s.dj i j a ij z.2 w.2, fun a f => ?_, s.len⟩, ⟨hF, fun _ _ _ r => r, fun _ _ _ => rfl, fun a z => ?_, fun i a z => .inr ⟨i, z.2⟩, fun q => by cases q⟩, fun i a z => z.2⟩
  · obtain ⟨p, e1, ow⟩ := s.rep i v e
    refine ⟨p, e1, ?_⟩
    by_cases z : Γ'.getD i 0 = 0
    · rw [z]
      refine ⟨ow.freeze.mono .refl fun a w => ?_, fun a w => w.1 z⟩
      exact w.elim .inl fun w => .inr ⟨i, z, w⟩
    · have e2 := (frzTo_at h i).resolve_left z
      have e3 : fp1 i = fp i := by funext a; exact propext ⟨fun w => w.2, fun w => ⟨z, w⟩⟩
      rw [e2, e3]
      refine ow.mono .refl hF (fun _ _ => rfl) fun a w f => ?_
      rcases f with f | ⟨j, zj, f⟩
      · exact (s.mu w).2 f
      · exact s.dj i j a (fun e => z (e ▸ zj)) w f
  · rcases f with f | ⟨i, _, f⟩
    · exact s.tr a f
    · exact (s.mu f).1.some
  · rcases z with z | ⟨i, _, z⟩
    · exact .inl z
    · exact .inr (.inr ⟨rfl, i, z⟩)
/-- a slot takes a value -/
theorem Stt.set {i : Nat} {v : Val} {p : V} {fr : AS} (s : Stt K Γ F fp ρ σ H) (ow : Own K F H ((Γ.set i k).getD i 0) v p fr) (hf : ∀ a, fr a → ∀ j, ¬ fp j a) :
    Stt K (Γ.set i k) F (fun j => if j = i ∧ i < ρ.length then fr else fp j) (put ρ i v) (σ.set i (some p)) H := by
  have hl := s.len
  refine ⟨fun j w e => ?_, fun j hv a z => ?_, fun j l a jl z w => ?_, s.tr, by unfold put; rw [List.length_set, List.length_set]; exact hl⟩
  · unfold put at e
    by_cases hj : j = i
    · subst hj
      by_cases hlt : j < ρ.length
      · rw [List.getElem?_set_self hlt] at e
        cases e
        exact ⟨p, by rw [List.getElem?_set_self (by omega)], by rw [if_pos ⟨rfl, hlt⟩]; exact ow⟩
      · rw [List.getElem?_eq_none (by rw [List.length_set]; omega)] at e
        cases e
    · rw [List.getElem?_set_ne (fun q => hj q.symm)] at e
      obtain ⟨q, e1, ow1⟩ := s.rep j w e
      refine ⟨q, by rw [List.getElem?_set_ne (fun q => hj q.symm)]; exact e1, ?_⟩
      rw [if_neg (fun q => hj q.1), List.getD_eq_getElem?_getD, List.getElem?_set_ne (fun q => hj q.symm), ← List.getD_eq_getElem?_getD]
      exact ow1
  · by_cases hj : j = i ∧ i < ρ.length
    · obtain ⟨rfl, hlt⟩ := hj
      refine hv v ?_
      unfold put
      rw [List.getElem?_set_self hlt]
    · rw [if_neg hj] at z
      refine s.out j (fun w e => ?_) a z
      by_cases hji : j = i
      · exact hj ⟨hji, hji ▸ (List.getElem?_eq_some_iff.mp e).1⟩
      · exact hv w (by unfold put; rw [List.getElem?_set_ne (fun q => hji q.symm)]; exact e)
  · by_cases hj : j = i ∧ i < ρ.length
    · rw [if_pos hj] at z
      rw [if_neg (fun q => jl (hj.1.trans q.1.symm))] at w
      exact hf a z l w
    · rw [if_neg hj] at z
      by_cases hll : l = i ∧ i < ρ.length
      · rw [if_pos hll] at w
        exact hf a w j z
      · rw [if_neg hll] at w
        exact s.dj j l a jl z w
theorem ext_set {fr : AS} {i : Nat} {c : Prop} [Decidable c] {F1 : AS} {fp1 : Nat → AS} {H1 : Hp} (e : Ext b F fp H F1 fp1 H1) (hf : ∀ a, fr a → H a = none ∨ ∃ i, fp i a) : Ext false F fp H F1 (fun j => if j = i ∧ c then fr else fp1 j) H1 where
  sub := e.sub
  fz := e.fz
  same := e.weak.same
  new := e.weak.new
  fnew := fun j a z => by
    by_cases h : j = i ∧ c
    · rw [if_pos h] at z; exact hf a z
    · rw [if_neg h] at z; exact e.fnew j a z
  pure := fun h => by cases h
/-! ### rules -/
theorem noio {C : Ct} {i : Nat} (h : C.io.all (fun q => q.1 != i) = true) {q : Nat × Nat} (hq : q ∈ C.io) {α : Type} {l : List α} {x : α} : (l.set i x)[q.1]? = l[q.1]? := by
  have := List.all_eq_true.mp h q hq
  rw [List.getElem?_set_ne]
  intro e
  simp [e] at this
/-- the expression behind a store, a return: what stands is told -/
theorem tE_S {r : MP.Env → Res (Val × MP.Env)} {f : Val × MP.Env → Res (MP.Flow × MP.Env)} {D : Ends} (h : tS K C Γ Γ' E (fun ρ => (r ρ).bind f) D σ H) {Q : VK}
    (hq : ∀ F fp ρ F1 fp1 H1 o p fr, Stt K Γ F fp ρ σ H → Stt K Γ F1 fp1 o.2 σ H1 → Ext false F fp H F1 fp1 H1 → Own K F1 H1 k o.1 p fr → (∀ a, fr a → (H a = none ∨ ∃ i, fp i a) ∧ ∀ i, ¬ fp1 i a) →
      RSat (f o) (fun o => match o.1 with
        | .next => ∀ F' fp' σ' H', Stt K Γ' F' fp' o.2 σ' H' → Ext false F fp H F' fp' H' → (∀ q ∈ C.io, σ'[q.1]? = σ[q.1]?) → D.nx σ' H'
        | .brk => ∀ F' fp' σ' H', Stt K C.bk F' fp' o.2 σ' H' → Ext false F fp H F' fp' H' → (∀ q ∈ C.io, σ'[q.1]? = σ[q.1]?) → D.bk σ' H'
        | .ret v => ∀ ρr Γr F' fp' fr σ' H' p, (∀ q ∈ C.io, Γr.getD q.1 0 = q.2 ∧ ρr[q.1]? = o.2[q.1]? ∧ σ'[q.1]? = σ[q.1]?) → Stt K Γr F' fp' ρr σ' H' → Ext false F fp H F' fp' H' →
            Own K F' H' C.ret v p fr → (∀ a, fr a → (H a = none ∨ ∃ i, fp i a) ∧ ∀ i, ¬ fp' i a) → D.rt p H') (XWish C.S E fp H) → Q p H1) : tE K C.S Γ b k E r σ H Q := by
  obtain ⟨F, fp, ρ, st, h⟩ := h
  refine ⟨F, fp, ρ, st, ?_⟩
  rw [RSat.bind] at h
  refine h.mono (fun o _ h F1 fp1 fr H1 p st1 ex1 _ ow hf => hq F fp ρ F1 fp1 H1 o p fr st st1 ex1.weak ow (fun a z => ⟨(hf a z).1.imp id fun w => w.2, (hf a z).2⟩) h) fun _ _ x => x
theorem js_set {i : Nat} {x : PySem.Str} {e : Expr} {t : MP.E} {p' pos : Pos} (hN : C.N[i]? = some x) (hx : StOk C x = true) (hk : (Γ.set i k).getD i 0 = k) (hio : C.io.all (fun q => q.1 != i) = true) (h : JE C Γ b k e t)
    (hs : ∀ env : PySem.Env, swapsWith e (some (.Name x p')) pos.line env = pure false) : JS C Γ (.Assign [.Name x p'] e pos) (.set i t) (Γ.set i k) := by
  intro n R E X cx
  refine (ps_set (by rw [cx.names]; exact cx.nd) (by rw [cx.names]; exact hN) (StOk.loc hx cx).1 (h cx) (hs X.env) (StOk.loc hx cx).2).imp fun D σ H q => ?_
  refine tE_S (f := fun x => .ok (.next, put x.2 i x.1)) (Γ' := Γ.set i k) (C := C) (D := D) q fun F fp ρ F1 fp1 H1 o p fr st st1 ex1 ow hf q => ?_
  exact q F1 _ _ H1 (st1.set (by rw [hk]; exact ow) fun a z => (hf a z).2) (ext_set ex1 fun a z => (hf a z).1) fun q hq => noio hio hq
/-- weaker in front and behind -/
theorem tS_pre {r : MP.Env → Res (MP.Flow × MP.Env)} {D : Ends} (hz : frzTo Γ Γ1 = true) (h : tS K C Γ Γ' E r D σ H) : tS K C Γ1 Γ' E r D σ H := by
  obtain ⟨F, fp, ρ, st, h⟩ := h
  obtain ⟨F1, fp1, st1, ex, hsub⟩ := st.frzTo hz
  refine ⟨F1, fp1, ρ, st1, h.mono (fun o _ q => ?_) fun c vs x => x.ext ex⟩
  obtain ⟨fl, ρ'⟩ := o
  cases fl with
  | next => exact fun F' fp' σ' H' s e io => q F' fp' σ' H' s (ex.trans e) io
  | brk => exact fun F' fp' σ' H' s e io => q F' fp' σ' H' s (ex.trans e) io
  | ret v => exact fun ρr Γr F' fp' fr σ' H' p io s e ow hf => q ρr Γr F' fp' fr σ' H' p io s (ex.trans e) ow fun a z => ⟨(hf a z).1.imp id fun ⟨i, w⟩ => ⟨i, hsub i a w⟩, (hf a z).2⟩
theorem tS_post {r : MP.Env → Res (MP.Flow × MP.Env)} {D : Ends} (hz : frzTo Γ' Γ1 = true) (h : tS K C Γ Γ1 E r D σ H) : tS K C Γ Γ' E r D σ H := by
  obtain ⟨F, fp, ρ, st, h⟩ := h
  refine ⟨F, fp, ρ, st, h.mono (fun o _ q => ?_) fun c vs x => x⟩
  obtain ⟨fl, ρ'⟩ := o
  cases fl with
  | next =>
    intro F' fp' σ' H' s e io
    obtain ⟨F1, fp1, st1, ex, _⟩ := s.frzTo hz
    exact q F1 fp1 σ' H' st1 (e.trans ex) io
  | brk => exact q
  | ret v => exact q
theorem JS.pre {st : Stmt} {t : MP.S} (hz : frzTo Γ Γ1 = true) (h : JS C Γ1 st t Γ') : JS C Γ st t Γ' := fun cx => (h cx).imp fun _ _ _ q => tS_pre hz q
theorem JS.post {st : Stmt} {t : MP.S} (h : JS C Γ st t Γ') (hz : frzTo Γ' Γ1 = true) : JS C Γ st t Γ1 := fun cx => (h cx).imp fun _ _ _ q => tS_post hz q
theorem js_pass {pos : Pos} : JS C Γ (.Pass pos) .pass Γ := fun cx => ps_pass.imp fun D σ H ⟨F, fp, ρ, st, h⟩ => h F fp σ H st (Ext.refl false) fun _ _ => rfl
theorem js_doc {x : PySem.Str} {j pos pos'} : JS C Γ (.Expr (.Constant (.str x) j pos) pos') .pass Γ := fun cx => ps_doc.imp fun D σ H ⟨F, fp, ρ, st, h⟩ => h F fp σ H st (Ext.refl false) fun _ _ => rfl
theorem js_bad {st : Stmt} : JS C Γ st .bad Γ' := fun cx => ps_never.imp fun D σ H ⟨F, fp, ρ, st, h⟩ => h
theorem js_brk {pos : Pos} (hz : frzTo Γ C.bk = true) : JS C Γ (.Break pos) .brk Γ' := fun cx => ps_break.imp fun D σ H h => by
  obtain ⟨F, fp, ρ, st, h⟩ := h
  obtain ⟨F1, fp1, st1, ex, _⟩ := st.frzTo hz
  exact h F1 fp1 σ H st1 ex fun _ _ => rfl
/-- what a function hands back stays its own: the changed parameters alone count -/
theorem js_ret {e : Expr} {t : MP.E} {pos : Pos} (hio : C.io.all (fun q => Γ.getD q.1 0 == q.2) = true) (h : JE C Γ b C.ret e t) : JS C Γ (.Return (some e) pos) (.ret t) Γ' := fun cx => (ps_ret (h cx)).imp fun D σ H q => by
  refine tE_S (f := fun x => .ok (.ret x.1, x.2)) (Γ' := Γ') (C := C) (D := D) q fun F fp ρ F1 fp1 H1 o p fr st st1 ex1 ow hf q => ?_
  exact q o.2 Γ F1 fp1 fr σ H1 p (fun q hq => ⟨eq_of_beq (List.all_eq_true.mp hio q hq), rfl, rfl⟩) st1 ex1 ow hf
theorem js_ret0 {pos : Pos} (hio : C.io.all (fun q => Γ.getD q.1 0 == q.2) = true) : JS C Γ (.Return none pos) .ret0 Γ' := fun cx => ps_retN.imp fun D σ H h => by
  obtain ⟨F, fp, ρ, st, h⟩ := h
  exact h ρ Γ F fp (fun _ => False) σ H .non (fun q hq => ⟨eq_of_beq (List.all_eq_true.mp hio q hq), rfl, rfl⟩) st (Ext.refl false) (.imm .non rfl _) fun _ z => z.elim
theorem js_ex {e : Expr} {t : MP.E} {pos : Pos} (h : JE C Γ b 0 e t) (hs : ∀ env : PySem.Env, swapsWith e none pos.line env = pure false) : JS C Γ (.Expr e pos) (.ex t) Γ := by
  intro n R E X cx
  refine (ps_expr (h cx) (hs X.env)).imp fun D σ H q => ?_
  refine tE_S (f := fun x => .ok (.next, x.2)) (Γ' := Γ) (C := C) (D := D) q fun F fp ρ F1 fp1 H1 o p fr st st1 ex1 ow hf q => ?_
  exact q F1 fp1 σ H1 st1 ex1 fun _ _ => rfl
/-! ### in a row -/
theorem jss_nil : JSs C Γ [] .nil Γ := fun cx => ⟨fun pins s σ H D I h => pss_nil.run pins s σ H D I (by
  obtain ⟨F, fp, ρ, st, h⟩ := h
  exact h F fp σ H st (Ext.refl false) fun _ _ => rfl)⟩
theorem _root_.L2.PSs.imp {X : Cx} {e : List Stmt} {t u : TS} (h : PSs X e t) (hi : ∀ D σ H, u D σ H → t D σ H) : PSs X e u := ⟨fun pins s σ H D I q => h.run pins s σ H D I (hi D σ H q)⟩
theorem tS_seq {r1 r2 : MP.Env → Res (MP.Flow × MP.Env)} {D : Ends} (h : tS K C Γ Γ2 E (fun ρ => (r1 ρ).bind fun o => match o.1 with | .next => r2 o.2 | .brk => .ok (.brk, o.2) | .ret v => .ok (.ret v, o.2)) D σ H) :
    tSeq (tS K C Γ Γ1 E r1) (tS K C Γ1 Γ2 E r2) D σ H := by
  obtain ⟨F, fp, ρ, st, h⟩ := h
  refine ⟨F, fp, ρ, st, ?_⟩
  rw [RSat.bind] at h
  refine h.mono (fun o _ h => ?_) fun _ _ x => x
  obtain ⟨fl, ρ1⟩ := o
  cases fl with
  | brk => exact h
  | ret v => exact h
  | next =>
    intro F1 fp1 σ1 H1 st1 ex1 io1
    refine ⟨F1, fp1, ρ1, st1, RSat.mono h (fun o2 _ q => ?_) fun _ _ x => x.ext ex1⟩
    obtain ⟨fl2, ρ2⟩ := o2
    cases fl2 with
    | next => exact fun F' fp' σ' H' s e io => q F' fp' σ' H' s (ex1.trans e) fun q hq => (io q hq).trans (io1 q hq)
    | brk => exact fun F' fp' σ' H' s e io => q F' fp' σ' H' s (ex1.trans e) fun q hq => (io q hq).trans (io1 q hq)
    | ret v => exact fun ρr Γr F' fp' fr σ' H' p io s e ow hf => q ρr Γr F' fp' fr σ' H' p (fun q hq => ⟨(io q hq).1, (io q hq).2.1, (io q hq).2.2.trans (io1 q hq)⟩) s (ex1.trans e) ow fun a z => ⟨by
        rcases ex1.weak.back (a := a) ((hf a z).1.imp id fun w => ⟨rfl, w⟩) with w | w
        · exact .inl w
        · exact .inr w.2, (hf a z).2⟩
theorem evSs_cons {G : Gl} {s : MP.S} {ss : MP.Ss} : evSs G (.cons s ss) = fun ρ => (evS G s ρ).bind fun o => match o.1 with | .next => evSs G ss o.2 | .brk => .ok (.brk, o.2) | .ret v => .ok (.ret v, o.2) := by
  funext ρ
  simp only [evSs]
  all_goals cases evS G s ρ with
  | ok x => obtain ⟨fl, ρ1⟩ := x; cases fl <;> rfl
  | exc _ _ => rfl
  | stuck => rfl
theorem jss_cons {s : Stmt} {ss : List Stmt} {t : MP.S} {ts : MP.Ss} (h : JS C Γ s t Γ1) (hr : JSs C Γ1 ss ts Γ2) : JSs C Γ (s :: ss) (.cons t ts) Γ2 := by
  intro n R E X cx
  refine (pss_cons (h cx) (hr cx)).imp fun D σ H q => ?_
  rw [evSs_cons] at q
  exact tS_seq q
theorem JSs.post {st : List Stmt} {t : MP.Ss} (h : JSs C Γ st t Γ') (hz : frzTo Γ' Γ1 = true) : JSs C Γ st t Γ1 := fun cx => (h cx).imp fun _ _ _ q => tS_post hz q
theorem JSs.pre {st : List Stmt} {t : MP.Ss} (hz : frzTo Γ Γ1 = true) (h : JSs C Γ1 st t Γ') : JSs C Γ st t Γ' := fun cx => (h cx).imp fun _ _ _ q => tS_pre hz q
/-! ### if -/
theorem evS_ifs {G : Gl} {c : MP.E} {a e : MP.Ss} : evS G (.ifs c a e) = fun ρ => (evT G c ρ).bind fun o => if o.1 then evSs G a o.2 else evSs G e o.2 := by
  funext ρ
  simp only [evS]
  unfold evT
  cases evE G c ρ with
  | ok x =>
    show ((truthy x.1).bind fun t => if t = true then evSs G a x.2 else evSs G e x.2) = ((truthy x.1).bind fun c => Res.ok (c, x.2)).bind fun o => if o.1 = true then evSs G a o.2 else evSs G e o.2
    cases truthy x.1 <;> rfl
  | exc _ _ => rfl
  | stuck => rfl
theorem tT_S {r1 : MP.Env → Res (Bool × MP.Env)} {r2 : Bool → MP.Env → Res (MP.Flow × MP.Env)} {D : Ends} (h : tS K C Γ Γ' E (fun ρ => (r1 ρ).bind fun o => r2 o.1 o.2) D σ H) : tT K C.S Γ b E r1 σ H fun c H1 => tS K C Γ Γ' E (r2 c) D σ H1 := by
  obtain ⟨F, fp, ρ, st, h⟩ := h
  refine ⟨F, fp, ρ, st, ?_⟩
  rw [RSat.bind] at h
  refine h.mono (fun o _ h F1 fp1 H1 st1 ex1 _ => ⟨F1, fp1, o.2, st1, RSat.mono h (fun o2 _ q => ?_) fun _ _ x => x.ext ex1⟩) fun _ _ x => x
  obtain ⟨fl2, ρ2⟩ := o2
  have ex1 := ex1.weak
  cases fl2 with
  | next => exact fun F' fp' σ' H' s e io => q F' fp' σ' H' s (ex1.trans e) io
  | brk => exact fun F' fp' σ' H' s e io => q F' fp' σ' H' s (ex1.trans e) io
  | ret v => exact fun ρr Γr F' fp' fr σ' H' p io s e ow hf => q ρr Γr F' fp' fr σ' H' p io s (ex1.trans e) ow fun a z => ⟨by
      rcases ex1.back (a := a) ((hf a z).1.imp id fun w => ⟨rfl, w⟩) with w | w
      · exact .inl w
      · exact .inr w.2, (hf a z).2⟩
theorem js_if {c : Expr} {a e : List Stmt} {tc : MP.E} {ta te : MP.Ss} {pos : Pos} (hc : JT C Γ b c tc) (ha : JSs C Γ a ta Γ') (he : JSs C Γ e te Γ') : JS C Γ (.If c a e pos) (.ifs tc ta te) Γ' := by
  intro n R E X cx
  refine (ps_if (hc cx) (ha cx) (he cx)).imp fun D σ H q => ?_
  rw [evS_ifs] at q
  have q := tT_S (r2 := fun c ρ => if c then evSs (C.S.gl n) ta ρ else evSs (C.S.gl n) te ρ) (b := b) q
  obtain ⟨F, fp, ρ, st, q⟩ := q
  refine ⟨F, fp, ρ, st, q.mono (fun o _ q F' fp' H' s1 ex pu => ?_) fun _ _ x => x⟩
  have q := q F' fp' H' s1 ex pu
  cases hc : o.1 with
  | true => rw [hc] at q; exact q
  | false => rw [hc] at q; exact q
end
end MP
/-! MiniPy against the hand layer: while, for, what is walked, targets -/
namespace MP
open L2 PySem.Spec PySem PyProof.Rows

section
variable {K : Fg} {S : Stat} {Γ Γ' Γ1 Γ2 : List Nat} {F F' : AS} {fp fp' : Nat → AS} {ρ : MP.Env} {σ : L2.St} {H H' : Hp} {b : Bool} {k : Nat} {E : XK} {C : Ct}
/-- what a loop still owes, seen from its start -/
def Owes (K : Fg) (C : Ct) (Γ' : List Nat) (D : Ends) (F : AS) (fp : Nat → AS) (σ : L2.St) (H : Hp) (o : MP.Flow × MP.Env) : Prop := match o.1 with
  | .next => ∀ F' fp' σ' H', Stt K Γ' F' fp' o.2 σ' H' → Ext false F fp H F' fp' H' → (∀ q ∈ C.io, σ'[q.1]? = σ[q.1]?) → D.nx σ' H'
  | .brk => ∀ F' fp' σ' H', Stt K C.bk F' fp' o.2 σ' H' → Ext false F fp H F' fp' H' → (∀ q ∈ C.io, σ'[q.1]? = σ[q.1]?) → D.bk σ' H'
  | .ret v => ∀ ρr Γr F' fp' fr σ' H' p, (∀ q ∈ C.io, Γr.getD q.1 0 = q.2 ∧ ρr[q.1]? = o.2[q.1]? ∧ σ'[q.1]? = σ[q.1]?) → Stt K Γr F' fp' ρr σ' H' → Ext false F fp H F' fp' H' →
      Own K F' H' C.ret v p fr → (∀ a, fr a → (H a = none ∨ ∃ i, fp i a) ∧ ∀ i, ¬ fp' i a) → D.rt p H'
theorem tS_owes {r : MP.Env → Res (MP.Flow × MP.Env)} {D : Ends} : tS K C Γ Γ' E r D σ H ↔ ∃ F fp ρ, Stt K Γ F fp ρ σ H ∧ RSat (r ρ) (Owes K C Γ' D F fp σ H) (XWish C.S E fp H) := Iff.rfl
/-- the debt handed on to a later point -/
theorem Owes.shift {D : Ends} {σ1 : L2.St} {F1 : AS} {fp1 : Nat → AS} {H1 : Hp} (ex : Ext false F fp H F1 fp1 H1) (io : ∀ q ∈ C.io, σ1[q.1]? = σ[q.1]?) {o : MP.Flow × MP.Env} (h : Owes K C Γ' D F fp σ H o) : Owes K C Γ' D F1 fp1 σ1 H1 o := by
  obtain ⟨fl, ρ1⟩ := o
  cases fl with
  | next => exact fun F' fp' σ' H' s e io' => h F' fp' σ' H' s (ex.trans e) fun q hq => (io' q hq).trans (io q hq)
  | brk => exact fun F' fp' σ' H' s e io' => h F' fp' σ' H' s (ex.trans e) fun q hq => (io' q hq).trans (io q hq)
  | ret v => exact fun ρr Γr F' fp' fr σ' H' p io' s e ow hf => h ρr Γr F' fp' fr σ' H' p (fun q hq => ⟨(io' q hq).1, (io' q hq).2.1, (io' q hq).2.2.trans (io q hq)⟩) s (ex.trans e) ow fun a z => ⟨by
      rcases ex.back (a := a) ((hf a z).1.imp id fun w => ⟨rfl, w⟩) with w | w
      · exact .inl w
      · exact .inr w.2, (hf a z).2⟩
/-- the body's context: a break goes behind the loop -/
abbrev Ct.lp (C : Ct) (Γ' : List Nat) : Ct := { C with bk := Γ' }
theorem CxOk.lp {R : Rt} {n : Nat} {X : Cx} (cx : CxOk C.S R n C.N C.sc C.fn E X) : CxOk (C.lp Γ').S R n (C.lp Γ').N (C.lp Γ').sc (C.lp Γ').fn E X := cx
theorem js_while {c : Expr} {body : List Stmt} {tc : MP.E} {tb : MP.Ss} {pos : Pos} (hz : frzTo Γ Γ' = true) (hc : JT C Γ b c tc) (hb : JSs (C.lp Γ') Γ body tb Γ) : JS C Γ (.While c body [] pos) (.whl tc tb) Γ' := by
  intro n R E X cx
  refine (ps_while cx.own (hc cx) (hb cx.lp)).imp fun D σ0 H0 q => ?_
  obtain ⟨F0, fp0, ρ0, st0, q⟩ := q
  let cc : MP.Env → Res (Bool × MP.Env) := evT (C.S.gl n) tc
  let bb : MP.Env → Res (MP.Flow × MP.Env) := fun ρ => evSs (C.S.gl n) tb ρ
  have q : RSat (whGo cc bb (C.S.gl n).wh ρ0) (Owes X.K C Γ' D F0 fp0 σ0 H0) (XWish C.S E fp0 H0) := q
  refine ⟨fun m σ H => (∀ q ∈ C.io, σ[q.1]? = σ0[q.1]?) ∧ ∃ F fp ρ, Stt X.K Γ F fp ρ σ H ∧ Ext false F0 fp0 H0 F fp H ∧ RSat (whGo cc bb m ρ) (Owes X.K C Γ' D F0 fp0 σ0 H0) (XWish C.S E fp0 H0),
    ⟨_, fun _ _ => rfl, F0, fp0, ρ0, st0, Ext.refl false, q⟩, ?_⟩
  rintro m σ H ⟨io, F, fp, ρ, st, ex, q⟩
  cases m with
  | zero => exact q.elim
  | succ m =>
    have q : RSat ((cc ρ).bind fun o => if o.1 then (bb o.2).bind fun f => match f.1 with | .next => whGo cc bb m f.2 | .brk => .ok (.next, f.2) | .ret v => .ok (.ret v, f.2) else .ok (.next, o.2)) _ _ := q
    rw [RSat.bind] at q
    refine ⟨F, fp, ρ, st, q.mono (fun o _ q F1 fp1 H1 st1 ex1 _ => ?_) fun _ _ x => x.ext ex⟩
    have ex1 := ex.trans ex1.weak
    cases hc : o.1 with
    | false =>
      rw [hc] at q
      obtain ⟨F2, fp2, st2, ex2, _⟩ := st1.frzTo hz
      exact q F2 fp2 σ H1 st2 (ex1.trans ex2) io
    | true =>
      rw [hc] at q
      rw [if_pos rfl] at q
      show if true = true then _ else _
      rw [if_pos rfl]
      refine ⟨fun σ H => (∀ q ∈ C.io, σ[q.1]? = σ0[q.1]?) ∧ ∃ F fp ρ, Stt X.K Γ F fp ρ σ H ∧ Ext false F0 fp0 H0 F fp H ∧ RSat (whGo cc bb m ρ) (Owes X.K C Γ' D F0 fp0 σ0 H0) (XWish C.S E fp0 H0),
        fun σ' H' w => ⟨m, Nat.lt_succ_self m, w⟩, F1, fp1, o.2, st1, ?_⟩
      have q : RSat ((bb o.2).bind fun f => match f.1 with | .next => whGo cc bb m f.2 | .brk => .ok (.next, f.2) | .ret v => .ok (.ret v, f.2)) _ _ := q
      rw [RSat.bind] at q
      refine q.mono (fun f _ q => ?_) fun _ _ x => x.ext ex1
      obtain ⟨fl, ρ2⟩ := f
      cases fl with
      | next => exact fun F2 fp2 σ2 H2 st2 ex2 io2 => ⟨fun q hq => (io2 q hq).trans (io q hq), F2, fp2, ρ2, st2, ex1.trans ex2, q⟩
      | brk => exact fun F2 fp2 σ2 H2 st2 ex2 io2 => q F2 fp2 σ2 H2 st2 (ex1.trans ex2) fun q hq => (io2 q hq).trans (io q hq)
      | ret v => exact Owes.shift (C := C) (Γ' := Γ') (o := (.ret v, ρ2)) ex1 io q
/-! ### targets -/
theorem Stt.putF {i : Nat} {v : Val} {p : V} (s : Stt K Γ F fp ρ σ H) (h0 : Γ.getD i 0 = 0) (h : FR K F H v p) : Stt K Γ F fp (put ρ i v) (σ.set i (some p)) H := by
  have e1 : Γ.set i 0 = Γ := by
    apply List.ext_getElem?
    intro j
    by_cases hj : i = j
    · subst hj
      by_cases hl : i < Γ.length
      · rw [List.getElem?_set_self hl]
        rw [List.getD_eq_getElem?_getD, List.getElem?_eq_getElem hl] at h0
        rw [List.getElem?_eq_getElem hl]
        exact congrArg some h0.symm
      · rw [List.getElem?_eq_none (by rw [List.length_set]; omega), List.getElem?_eq_none (by omega)]
    · rw [List.getElem?_set_ne hj]
  have hz : ∀ a, ¬ fp i a := by
    intro a z
    cases e : ρ[i]? with
    | none => exact s.out i (by simp [e]) a z
    | some o =>
      cases o with
      | none => exact s.out i (by simp [e]) a z
      | some w =>
        obtain ⟨q, _, ow⟩ := s.rep i w e
        rw [h0] at ow
        exact ow.2 a z
  have st := s.set (i := i) (k := 0) (v := v) (p := p) (fr := fun _ => False) (by rw [e1, h0]; exact .zero h) fun _ z => z.elim
  rw [e1] at st
  have e2 : (fun j => if j = i ∧ i < ρ.length then (fun _ => False) else fp j) = fp := by
    funext j
    split
    · rename_i h
      funext a
      exact propext ⟨fun z => z.elim, fun z => hz a (h.1 ▸ z)⟩
    · rfl
  rw [e2] at st
  exact st
theorem jg_var {i : Nat} {x : PySem.Str} {pos : Pos} (hN : C.N[i]? = some x) (hx : StOk C x = true) (h0 : Γ.getD i 0 = 0) : JG C Γ (.Name x pos) (.var i) := by
  intro n R E X cx
  have hg : PG X (.Name x pos) (gName i) := pg_name (by rw [cx.names]; exact cx.nd) (by rw [cx.names]; exact hN) (StOk.loc hx cx).1 (StOk.loc hx cx).2
  refine ⟨fun pins s σ H v u Q I r h => hg.run pins s σ H v u Q I r ?_⟩
  obtain ⟨F, fp, ρ, w, ρ', st, fr, e, q⟩ := h
  cases e
  exact q _ (st.putF h0 fr) fun j hj => by
    rw [List.getElem?_set_ne]
    intro e
    subst e
    simp [T.has] at hj
theorem jgs_nil : JGs C Γ [] [] := by
  intro n R E X cx
  refine ⟨fun pins s σ H v u Q I r h => pgs_nil.run pins s σ H v u Q I r ?_⟩
  obtain ⟨F, fp, ρ, w, ρ', st, fr, e, q⟩ := h
  cases fr with
  | nil => cases e; exact ⟨rfl, q σ st fun _ _ => rfl⟩
  | cons _ _ => cases e
theorem jgs_cons {e : Expr} {es : List Expr} {t : MP.T} {ts : List MP.T} (h : JG C Γ e t) (hr : JGs C Γ es ts) (hs : ∀ env : PySem.Env, (assignEach (e :: es) env).map (·.2) = assign e env :: (assignEach es env).map (·.2)) : JGs C Γ (e :: es) (t :: ts) := by
  intro n R E X cx
  refine ⟨fun pins s σ H v u Q I r q => (pgs_cons (h cx) (hr cx) (hs X.env)).run pins s σ H v u Q I r ?_⟩
  obtain ⟨F, fp, ρ, w, ρ', st, fr, e1, q⟩ := q
  cases fr with
  | nil => cases e1
  | cons a ar =>
    rename_i v0 p0 vs0 ps0
    simp only [bindTs] at e1
    cases e2 : bindT t v0 ρ with
    | none => rw [e2] at e1; cases e1
    | some ρ1 =>
      rw [e2] at e1
      exact ⟨_, _, rfl, F, fp, ρ, v0, ρ1, st, a, e2, fun σ1 st1 io1 => ⟨F, fp, ρ1, vs0, ρ', st1, ar, e1, fun σ2 st2 io2 => q σ2 st2 fun j hj => by
        simp only [T.hasAny, Bool.or_eq_false_iff] at hj
        exact (io2 j hj.2).trans (io1 j hj.1)⟩⟩
theorem bindTs_len : ∀ {ts : List MP.T} {vs : List Val} {ρ ρ' : MP.Env}, bindTs ts vs ρ = some ρ' → vs.length = ts.length
  | [], [], _, _, _ => rfl
  | [], _ :: _, _, _, e => by simp [bindTs] at e
  | _ :: _, [], _, _, e => by simp [bindTs] at e
  | t :: ts, v :: vs, ρ, ρ', e => by
    simp only [bindTs] at e
    cases e2 : bindT t v ρ with
    | none => rw [e2] at e; cases e
    | some ρ1 => rw [e2] at e; simp [bindTs_len e]
theorem jg_tup {es : List Expr} {ts : List MP.T} {k : Nat} {pos : Pos} (h : JGs C Γ es ts) (hn : ∀ env : PySem.Env, (assignEach es env).length = ts.length) (hst : ∀ env : PySem.Env, (assignEach es env).findIdx? (·.1) = none) : JG C Γ (.Tuple es k pos) (.tup ts) := by
  intro n R E X cx
  refine ⟨fun pins s σ H v u Q I r q => (pg_tup cx.calm (h cx) (hn X.env) (hst X.env)).run pins s σ H v u Q I r ?_⟩
  obtain ⟨F, fp, ρ, w, ρ', st, fr, e1, q⟩ := q
  cases w <;> simp only [bindT] at e1 <;> first | (cases e1; done) | skip
  obtain ⟨a, ps, rfl, ha, rs⟩ := fr.tupS
  exact ⟨a, ps, rfl, ha.sq, by rw [← rs.length, bindTs_len e1], F, fp, ρ, _, ρ', st, rs, e1, q⟩
/-! ### for -/
theorem js_for {tg it : Expr} {body : List Stmt} {t : MP.T} {ti : MP.It} {tb : MP.Ss} {pos : Pos} (hz : frzTo Γ Γ' = true) (hi : JI C Γ b true tg it ti) (hg : JG C Γ tg t) (hb : JSs (C.lp Γ') Γ body tb Γ) (hio : C.io.all (fun q => !t.has q.1) = true)
    (hs : ∀ (env : PySem.Env) x, foldedSetIterable it env x = pure x) : JS C Γ (.For tg it body [] pos) (.loop t ti tb) Γ' := by
  intro n R E X cx
  refine (ps_for cx.own cx.calm (hi cx) (hg cx) (hb cx.lp) (hs X.env)).imp fun D σ0 H0 q => ?_
  obtain ⟨F0, fp0, ρ0, st0, q⟩ := q
  let step : Val → MP.Env → Res (MP.Flow × MP.Env) := fun x ρ => (orStuck (bindT t x ρ)).bind fun ρ => evSs (C.S.gl n) tb ρ
  have q : RSat ((evI (C.S.gl n) ti ρ0).bind fun o => forGo step o.1 o.2) (Owes X.K C Γ' D F0 fp0 σ0 H0) (XWish C.S E fp0 H0) := q
  rw [RSat.bind] at q
  refine ⟨F0, fp0, ρ0, st0, q.mono (fun o _ q F1 fp1 H1 J st1 ex1 _ wk => ?_) fun _ _ x => x⟩
  obtain ⟨xs, ρ1⟩ := o
  have ex1 := ex1.weak
  let Wq : Nat → L2.St → Hp → Prop := fun i σ H => (∀ q ∈ C.io, σ[q.1]? = σ0[q.1]?) ∧ ∃ F fp ρ, Stt X.K Γ F fp ρ σ H ∧ Ext false F0 fp0 H0 F fp H ∧ (∀ a, F1 a → F a) ∧ Keeps F1 H1 H ∧ RSat (forGo step (xs.drop i) ρ) (Owes X.K C Γ' D F0 fp0 σ0 H0) (XWish C.S E fp0 H0)
  refine ⟨fun i m σ H => m = xs.length - i ∧ i ≤ xs.length ∧ Wq i σ H, ⟨xs.length, by simp, Nat.zero_le _, fun _ _ => rfl, F1, fp1, ρ1, st1, ex1, fun _ z => z, .refl, by simpa using q⟩, ?_⟩
  rintro i m σ H ⟨rfl, hi, io, F, fp, ρ, st, ex, sub, kp, q⟩
  obtain ⟨stop, go⟩ := wk i F H sub kp
  by_cases hlt : i < xs.length
  · obtain ⟨hgo, hy⟩ := go xs[i] (by simp [hlt])
    refine .inr ⟨hgo, Wq (i + 1), fun σ' H' w => ⟨xs.length - (i + 1), by omega, rfl, hlt, w⟩, fun x H2 yl => ?_⟩
    obtain ⟨al, fr⟩ := hy x H2 yl
    obtain ⟨st2, ex2⟩ := st.alloc (b := false) al
    have kp2 := st.keeps ex2
    have hdrop : xs.drop i = xs[i] :: xs.drop (i + 1) := List.drop_eq_getElem_cons hlt
    rw [hdrop] at q
    have q : RSat ((step xs[i] ρ).bind fun f => match f.1 with | .next => forGo step (xs.drop (i + 1)) f.2 | .brk => .ok (.next, f.2) | .ret v => .ok (.ret v, f.2)) _ _ := q
    rw [RSat.bind] at q
    have q : RSat ((orStuck (bindT t xs[i] ρ)).bind fun ρ => evSs (C.S.gl n) tb ρ) _ _ := q
    cases hb : bindT t xs[i] ρ with
    | none => rw [hb] at q; exact q.elim
    | some ρ2 =>
      rw [hb] at q
      refine ⟨F, fp, ρ, xs[i], ρ2, st2, fr, hb, fun σ2 st3 io3 => ?_⟩
      have io3 : ∀ q ∈ C.io, σ2[q.1]? = σ[q.1]? := fun q hq => io3 q.1 (by simpa using List.all_eq_true.mp hio q hq)
      refine ⟨F, fp, ρ2, st3, ?_⟩
      have q : RSat (evSs (C.S.gl n) tb ρ2) _ _ := q
      have ex02 := ex.trans ex2
      refine q.mono (fun f _ q => ?_) fun _ _ x => x.ext ex02
      obtain ⟨fl, ρ3⟩ := f
      cases fl with
      | next => exact fun F4 fp4 σ4 H4 st4 ex4 io4 => ⟨fun q hq => (io4 q hq).trans ((io3 q hq).trans (io q hq)), F4, fp4, ρ3, st4, ex02.trans ex4, fun a z => ex4.sub a (sub a z), ⟨fun a ps r => (st2.keeps ex4).tup a ps (kp2.tup a ps (kp.tup a ps r)), fun a u f r => (st2.keeps ex4).fz a u (sub a f) (kp2.fz a u (sub a f) (kp.fz a u f r))⟩, q⟩
      | brk => exact fun F4 fp4 σ4 H4 st4 ex4 io4 => q F4 fp4 σ4 H4 st4 (ex02.trans ex4) fun q hq => (io4 q hq).trans ((io3 q hq).trans (io q hq))
      | ret v => exact Owes.shift (C := C) (Γ' := Γ') (o := (.ret v, ρ3)) ex02 (fun q hq => (io3 q hq).trans (io q hq)) q
  · have e : i = xs.length := by omega
    subst e
    refine .inl ⟨stop rfl, ?_⟩
    rw [List.drop_length] at q
    obtain ⟨F2, fp2, st2, ex2, _⟩ := st.frzTo hz
    exact q F2 fp2 σ H st2 (ex.trans ex2) io
end
end MP
/-! MiniPy against the hand layer: enumerate and zip over lists, tuples, texts -/
namespace MP
open L2 PySem.Spec PySem PyProof.Rows

theorem meets_enumerate_new1 {v : Value} {o : Obj} {H : Heap → Prop} (B : Begins v o H) :
    Meets (Builtin.«enumerate.__new__» ⟨[.type "enumerate", v], []⟩) (fun _ R s => H s.heap ∧
      R (.ok (.ret (.ref (s.heap.push o).objs.size)))
        { s with heap := (s.heap.push o).push { cls := .type "enumerate", data := .fields #[.none, .bool false, .ref s.heap.objs.size, rawInt 0, .none, .none] } }) :=
  .of_wp fun prog w A R s h => by
    obtain ⟨hp, g, d, tk, os⟩ := s
    obtain ⟨h1, h⟩ := h
    have hsub := sub_enumerate
    have q1 : ∀ {A' : Around} {E : Value → Shared → Prop} {Q : Value → Shared → Prop}, Q (.ref hp.objs.size) ⟨(hp.push o), g, d, tk, os⟩ → wpAny (model prog w) A' (pyIter v) Q E ⟨hp, g, d, tk, os⟩ :=
      fun q => B.iter prog w _ _ ⟨hp, g, d, tk, os⟩ _ (B.keeps _ _ h1 fun b o' e => e) q
    wp_walk using q1
    refine wpAny_stack_any fun st => wpAny_pure ?_
    split
    · rename_i c _ _ _ _ _
      cases (c == Value.type "enumerate")
      · wp_walk using q1
        exact ⟨_, rfl, h⟩
      · wp_walk using q1
        exact ⟨_, rfl, h⟩
    · wp_walk using q1
      exact ⟨_, rfl, h⟩
section
variable {prog : Program} {w : World} {A : Around} {E : Value → Shared → Prop} {s : Shared}
theorem enum_begins1 {v : Value} {o : Obj} {H : Heap → Prop} {Q : Value → Shared → Prop} (B : Begins v o H) (h1 : H s.heap)
    (h : ∀ h', IsEnum h' (s.heap.objs.size + 1) s.heap.objs.size 0 .none → h'.get? s.heap.objs.size = some o → h'.objs.size = s.heap.objs.size + 2 →
      (∀ b o, s.heap.get? b = some o → h'.get? b = some o) → Q (.ref (s.heap.objs.size + 1)) { s with heap := h' }) :
    wpAny (model prog w) A (call (.type "enumerate") [v]) Q E s := by
  refine callType_new F.called_enumerate (by decide) (F.typeCall_enumerate_1 _) (F.newCall_enumerate_1 _) (fun obj => F.args_object_init_2 obj _) F.entry_enumerate_new
    (meets_enumerate_new1 B) ⟨h1, ?_⟩
  have hz : (s.heap.push o).objs.size = s.heap.objs.size + 1 := Heap.size_push ..
  show _ ∧ _
  rw [hz]
  have he : IsEnum ((s.heap.push o).push { cls := .type "enumerate", data := .fields #[.none, .bool false, .ref s.heap.objs.size, rawInt 0, .none, .none] }) (s.heap.objs.size + 1) s.heap.objs.size 0 .none := by
    have := Heap.get?_push_size (s.heap.push o) (o := { cls := .type "enumerate", data := .fields #[.none, .bool false, .ref s.heap.objs.size, rawInt 0, .none, .none] }) rfl
    rw [hz] at this; exact this
  refine ⟨⟨_, he, rfl⟩, h _ he (Heap.get?_push_of_some _ (Heap.get?_push_size _ B.free)) (by rw [Heap.size_push, hz]) fun b o x => Heap.get?_push_of_some _ (Heap.get?_push_of_some _ x)⟩
end

/-- what may be walked -/
inductive DK where
  | lst (a : Addr)
  | tup (a : Addr)
  | str (z : PySem.Str)
def DK.v : DK → V
  | .lst a => .ref a
  | .tup a => .ref a
  | .str z => .str z
def DK.off (c : Addr) : DK → Prop
  | .lst a => a ≠ c
  | .tup a => a ≠ c
  | .str _ => True
section
variable (K : PySem.W.Frag)
def dgo : DK → Nat → Hp → Prop
  | .lst a, i, H => ∃ (xs : List V) (x : V), SqL K H a xs ∧ xs[i]? = some x
  | .tup a, i, H => ∃ (xs : List V) (x : V), SqT K H a xs ∧ xs[i]? = some x
  | .str z, i, _ => i < z.cps.size
def dyl : DK → Nat → Hp → V → Prop
  | .lst a, i, H, x => ∀ xs, SqL K H a xs → xs[i]? = some x
  | .tup a, i, H, x => ∀ xs, SqT K H a xs → xs[i]? = some x
  | .str z, i, _, x => ∃ c, z.cps[i]? = some c ∧ x = .str ⟨#[c]⟩
def dle : DK → Nat → Hp → Prop
  | .lst a, i, H => ∃ xs : List V, SqL K H a xs ∧ i ≤ xs.length
  | .tup a, i, H => ∃ xs : List V, SqT K H a xs ∧ i ≤ xs.length
  | .str z, i, _ => i ≤ z.cps.size
def dend : DK → Nat → Hp → Prop
  | .lst a, i, H => ∃ xs : List V, SqL K H a xs ∧ i = xs.length
  | .tup a, i, H => ∃ xs : List V, SqT K H a xs ∧ i = xs.length
  | .str z, i, _ => i = z.cps.size
end
def dat' (it : Addr) (i : Nat) (h : Heap) : DK → Prop
  | .lst a => h.IsListIter it a i
  | .tup a => h.IsTupleIter it a i
  | .str z => ∃ t, h.IsStrIter it (strIterType z) z t i
theorem dat_obj {k : DK} {it : Addr} {i : Nat} {h : Heap} (d : dat' it i h k) : ∃ o, h.get? it = some o ∧ ∀ v, o.data ≠ .cell v := by
  cases k with
  | lst a => obtain ⟨o, e, _, d⟩ := d; exact ⟨o, e, fun v q => by rw [d] at q; cases q⟩
  | tup a => obtain ⟨o, e, _, d⟩ := d; exact ⟨o, e, fun v q => by rw [d] at q; cases q⟩
  | str z => obtain ⟨t, o, e, _, d⟩ := d; exact ⟨o, e, fun v q => by rw [d] at q; cases q⟩
theorem dat_keep {k : DK} {it : Addr} {i : Nat} {h h' : Heap} (d : dat' it i h k) (kp : ∀ o, h.get? it = some o → h'.get? it = some o) : dat' it i h' k := by
  cases k with
  | lst a => exact Heap.IsListIter.at d kp
  | tup a => exact Heap.IsTupleIter.at d kp
  | str z => obtain ⟨t, o, e, r⟩ := d; exact ⟨t, o, kp o e, r⟩
theorem dle_of_go {K : PySem.W.Frag} {k : DK} {i : Nat} {H : Hp} (g : dgo K k i H) : dle K k i H := by
  cases k with
  | lst a => obtain ⟨xs, x, q, e⟩ := g; exact ⟨xs, q, Nat.le_of_lt (List.getElem?_eq_some_iff.mp e).1⟩
  | tup a => obtain ⟨xs, x, q, e⟩ := g; exact ⟨xs, q, Nat.le_of_lt (List.getElem?_eq_some_iff.mp e).1⟩
  | str z => exact Nat.le_of_lt g
theorem dle_of_end {K : PySem.W.Frag} {k : DK} {i : Nat} {H : Hp} (g : dend K k i H) : dle K k i H := by
  cases k with
  | lst a => obtain ⟨xs, q, e⟩ := g; exact ⟨xs, q, Nat.le_of_eq e⟩
  | tup a => obtain ⟨xs, q, e⟩ := g; exact ⟨xs, q, Nat.le_of_eq e⟩
  | str z => exact Nat.le_of_eq g
section
variable {X : Cx} {pins : List (Addr × Obj)} {σ : L2.St} {H : Hp} {s : Shared}
/-- how it draws, here and now -/
theorem drawsOf (I : Inv X pins σ H s) {A : Around} (hh : A.handled = none) {k : DK} {it : Addr} {i : Nat} (d : dat' it i s.heap k) (off : k.off it) (le : dle X.K k i H) :
    ∃ (n : Nat) (fp : List Addr) (P : Nat → Value → Prop) (St : Nat → Heap → Prop), Draws X.prog X.w A it fp n P St ∧ St i s.heap ∧ i ≤ n ∧ (dgo X.K k i H → i < n) ∧ (dend X.K k i H → i = n) ∧
      (∀ v, P i v → ∃ x, RelV x v ∧ dyl X.K k i H x) ∧ (∀ j h', St j h' → dat' it j h' k) ∧ it ∈ fp ∧ (∀ c, c ≠ it → k.off c → c ∉ fp) := by
  cases k with
  | lst a =>
    obtain ⟨xs, hq, hi⟩ := le
    obtain ⟨its, rv, p, hz⟩ := I.list hq
    have hl := rv.length
    refine ⟨its.toArray.size, [it, a], _, _, .list hh it a off its.toArray, ⟨d, p.isList⟩, by simp; omega, fun ⟨ys, y, q, e⟩ => ?_, fun ⟨ys, q, e⟩ => ?_, fun v e => ?_, fun j h' st => st.1, by simp, fun c n1 n2 m => ?_⟩
    · cases I.list_inj q hq
      have := (List.getElem?_eq_some_iff.mp e).1
      simp; omega
    · cases I.list_inj q hq
      simp; omega
    · have e : its[i]? = some v := by simpa using e
      have hi2 := (List.getElem?_eq_some_iff.mp e).1
      obtain ⟨u, hu, ru⟩ := rv.get (List.getElem?_eq_getElem (show i < xs.length by omega))
      rw [e] at hu; cases hu
      exact ⟨_, ru, fun ys hy => by cases I.list_inj hy hq; exact List.getElem?_eq_getElem _⟩
    · rcases List.mem_cons.mp m with z | m
      · exact n1 z
      · exact n2 (List.mem_singleton.mp m).symm
  | tup a =>
    obtain ⟨xs, hq, hi⟩ := le
    obtain ⟨its, rv, p, hz⟩ := I.tuple hq
    have hl := rv.length
    refine ⟨its.toArray.size, [it, a], _, _, .tuple hh it a off its.toArray, ⟨d, p⟩, by simp; omega, fun ⟨ys, y, q, e⟩ => ?_, fun ⟨ys, q, e⟩ => ?_, fun v e => ?_, fun j h' st => st.1, by simp, fun c n1 n2 m => ?_⟩
    · cases I.tuple_inj q hq
      have := (List.getElem?_eq_some_iff.mp e).1
      simp; omega
    · cases I.tuple_inj q hq
      simp; omega
    · have e : its[i]? = some v := by simpa using e
      have hi2 := (List.getElem?_eq_some_iff.mp e).1
      obtain ⟨u, hu, ru⟩ := rv.get (List.getElem?_eq_getElem (show i < xs.length by omega))
      rw [e] at hu; cases hu
      exact ⟨_, ru, fun ys hy => by cases I.tuple_inj hy hq; exact List.getElem?_eq_getElem _⟩
    · rcases List.mem_cons.mp m with z | m
      · exact n1 z
      · exact n2 (List.mem_singleton.mp m).symm
  | str z =>
    obtain ⟨t, d⟩ := d
    refine ⟨z.cps.size, [it], _, _, .text hh it z t, d, le, fun g => g, fun g => g, fun v ⟨c, u, e, ev⟩ => ⟨.str ⟨#[c]⟩, ⟨u, ev⟩, c, e, rfl⟩, fun j h' st => ⟨t, st⟩, by simp, fun c n1 _ m => n1 (List.mem_singleton.mp m)⟩
end
/-! ### enumerate -/
def IteD (K : PySem.W.Frag) (k : DK) : L2.It :=
  ⟨fun i H => dgo K k i H, fun i H v H' => ∃ T x, v = .ref T ∧ H T = none ∧ H' = upd H T (.tup [.int (i : Nat), x]) ∧ dyl K k i H x, fun i H => dend K k i H⟩
theorem turn_enumD {P : Program} {w : World} {K : PySem.W.Frag} {elts : List Expr} {kk : Nat} {tpos : Pos} (k : DK) (e it : Addr) (o1 : k.off it) (o2 : k.off e) (hne : e ≠ it) :
    Turn P w K (.Tuple elts kk tpos) (IteD K k) [e, it] e (fun i h => (∃ old, IsEnum h e it ((i : Nat) : Int) old) ∧ dat' it i h k) where
  mem := by simp
  obj := fun i h st b hb => by
    obtain ⟨⟨old, he⟩, hd⟩ := st
    have e' : b = e ∨ b = it := by simpa using hb
    rcases e' with z | z
    · rw [z]; exact ⟨_, he, fun v q => nomatch q⟩
    · rw [z]; exact dat_obj hd
  keep := fun i h h' st k => let ⟨⟨old, he⟩, hi⟩ := st; ⟨⟨old, k e (by simp) _ he⟩, dat_keep hi fun o q => k it (by simp) o q⟩
  item := by
    intro X hP hw hK hc i pins s σ H E I hf st hg
    subst hP hw hK
    obtain ⟨⟨old, he⟩, hd⟩ := st
    obtain ⟨n, fp, Pq, St, D, st0, _, glt, _, py, pat, _, pfp⟩ := drawsOf I (A := X.A.in1) (I.ok.hd hc) hd o1 (dle_of_go hg)
    have hel : e < s.heap.objs.size := Heap.lt_size he
    have hil : it < s.heap.objs.size := let ⟨_, q, _⟩ := dat_obj hd; Heap.lt_size q
    refine wpAny_pyNext_enum_itemD D he st0 (glt hg) hne (pfp e hne o2) fun u h' tk hu ho st1 hT hsz hk => ?_
    obtain ⟨x, ru, hy⟩ := py u hu
    refine ⟨_, rfl, wpAny_letOwnedTupleGo_enum (s := { s with heap := h', toks := tk + 1 }) ho fun h'' he' sb => ?_⟩
    have hT2 : h''.get? s.heap.objs.size = some { cls := .type "tuple", data := .seq #[.int i tk, u] } := (sb.2 _ (Nat.ne_of_gt hel)).trans hT
    have new : ObjOk X.prog X.w (upd H s.heap.objs.size (.tup [.int (i : Nat), x])) h'' s.heap.objs.size (.tup [.int (i : Nat), x]) :=
      ⟨by show 2 ≤ sizeLine; decide, [.int i tk, u], .cons ⟨_, rfl⟩ (.cons ru .nil), ⟨_, hT2, rfl, _, rfl⟩⟩
    have I1 : Inv X pins σ (upd H s.heap.objs.size (.tup [.int (i : Nat), x])) { s with heap := h'', toks := tk + 1 } :=
      I.turnedNew (ch := [e, it]) (fun b ob hb q => (sb.2 b (fun z => hb (by simp [z]))).trans (hk b ob (fun z => hb (by simp [z])) (fun z => hb (by simp [z])) q)) hf (Nat.le_refl _) new
    refine ⟨.ref s.heap.objs.size, _, I1, rfl, ⟨_, x, rfl, I.hok.fresh (Nat.le_refl _), rfl, hy⟩, ⟨⟨u, ?_⟩, dat_keep (pat _ _ st1) fun o q => (sb.2 it (Ne.symm hne)).trans q⟩, fun b hb => ?_⟩
    · have e1 : ((i + 1 : Nat) : Int) = (i : Int) + 1 := by omega
      rw [e1]; exact he'
    · have hb' : b < s.heap.objs.size := by
        have e' : b = e ∨ b = it := by simpa using hb
        rcases e' with z | z
        · rw [z]; exact hel
        · rw [z]; exact hil
      rw [upd_ne (Nat.ne_of_lt hb')]
      exact (hf b hb).1
  done := by
    intro X hP hw hK hc i pins s σ H E I hf st hg
    subst hP hw hK
    obtain ⟨⟨old, he⟩, hd⟩ := st
    obtain ⟨n, fp, Pq, St, D, st0, _, _, gend, _⟩ := drawsOf I (A := X.A.in1) (I.ok.hd hc) hd o1 (dle_of_end hg)
    obtain ⟨f0, f1, f2, f3, f4, f5⟩ := hf it (by simp)
    have en := gend hg
    subst en
    exact wpAny_pyNext_enum_endD D he st0 fun h' eb => ⟨rfl, I.turned (t' := s.toks) (fun b o hb q => eb b o hb q) f0 f1 f3 f4 f5⟩
  self := fun A i s Q E st h => let ⟨⟨_, he⟩, _⟩ := st; wpAny_pyIter_enum he h
def there (K : PySem.W.Frag) (H : Hp) : DK → Prop
  | .lst a => ∃ xs, SqL K H a xs
  | .tup a => ∃ xs, SqT K H a xs
  | .str _ => True
section
variable {X : Cx} {pins : List (Addr × Obj)} {σ : L2.St} {H : Hp} {s : Shared}
/-- iter(..) of it begins -/
theorem beginsOf (I : Inv X pins σ H s) {k : DK} {u : Value} (r : RelV k.v u) (th : there X.K H k) : ∃ o Hh, Begins u o Hh ∧ Hh s.heap ∧ (∀ c, s.heap.objs.size ≤ c → k.off c) ∧ ∀ (it : Addr) h', h'.get? it = some o → dat' it 0 h' k := by
  cases k with
  | lst a =>
    obtain ⟨xs, hq⟩ := th
    obtain ⟨its, rv, p, hz⟩ := I.list hq
    obtain ⟨ol, hol, _⟩ := p.isList
    obtain rfl : u = Value.ref a := r
    exact ⟨_, _, begins_list a its.toArray, p.isList, fun c hc z => absurd (Heap.lt_size hol) (by rw [z]; exact Nat.not_lt_of_le hc), fun it h' e => ⟨_, e, rfl, rfl⟩⟩
  | tup a =>
    obtain ⟨xs, hq⟩ := th
    obtain ⟨its, rv, p, hz⟩ := I.tuple hq
    obtain ⟨ol, hol, _⟩ := id p
    obtain rfl : u = Value.ref a := r
    exact ⟨_, _, begins_tuple a its.toArray, p, fun c hc z => absurd (Heap.lt_size hol) (by rw [z]; exact Nat.not_lt_of_le hc), fun it h' e => ⟨_, e, rfl, rfl⟩⟩
  | str z =>
    obtain ⟨t, rfl⟩ := (show ∃ t, u = Value.str z t from r)
    exact ⟨_, _, begins_text z t, trivial, fun _ _ => trivial, fun it h' e => ⟨t, _, e, rfl, rfl⟩⟩
end
def iEnumD (K : PySem.W.Frag) (ta : TA) : TI := fun σ H R => ta σ H fun vs H1 => ∃ k : DK, vs = [k.v] ∧ there K H1 k ∧ R (IteD K k) H1
theorem pi_enumD {X : Cx} {e : Expr} {ta : TA} {p pos tpos : Pos} {elts : List Expr} {kk : Nat} (hg : L2.Gl X "enumerate") (hm : X.mg "enumerate" = none) (ha : PA X [e] ta) (hs : starEach [e] X.env = [(false, eval e X.env)] := by rfl) :
    PI X (.Tuple elts kk tpos) (.Call (.Name "enumerate" p) [e] [] pos) (iEnumD X.K ta) := by
  refine ⟨fun pins s σ H R I h => ?_⟩
  refine Call_ (ld_blt I hg hm PyProof.Rows.boot_enumerate (PyProof.Rows.callWith_type1 (thn (ha.run pos pins s σ H _ I h) fun us s1 ⟨vs, H1, I1, r1, q1⟩ => ?_) hs rfl))
  obtain ⟨k, ex, th, q⟩ := q1
  subst ex
  cases r1 with
  | cons r rr =>
    cases rr
    obtain ⟨o, Hh, B, hb, off, at0⟩ := beginsOf I1 r th
    refine enum_begins1 B hb fun h' he hit hsz hk => wpAny_pyIter_enum he ?_
    have I2 : Inv X pins σ H1 { s1 with heap := h' } := I1.kept (t' := s1.toks) hk
    refine ⟨s1.heap.objs.size + 1, [s1.heap.objs.size + 1, s1.heap.objs.size], _, _, H1, rfl, I2, turn_enumD k (s1.heap.objs.size + 1) s1.heap.objs.size (off _ (Nat.le_refl _)) (off _ (Nat.le_succ _)) (Nat.succ_ne_self _), ⟨⟨.none, he⟩, at0 _ _ hit⟩, fun b hb => ?_, q⟩
    have e' : b = s1.heap.objs.size + 1 ∨ b = s1.heap.objs.size := by simpa using hb
    have hle : s1.heap.objs.size ≤ b := by
      rcases e' with z | z
      · rw [z]; exact Nat.le_add_right _ _
      · rw [z]; exact Nat.le_refl _
    exact I1.fpOk hle (I1.hok.fresh hle)
/-! ### zip -/
def IzD (K : PySem.W.Frag) (k1 k2 : DK) : L2.It :=
  ⟨fun i H => dgo K k1 i H ∧ dgo K k2 i H, fun i H v H' => ∃ T x y, v = .ref T ∧ H T = none ∧ H' = upd H T (.tup [x, y]) ∧ dyl K k1 i H x ∧ dyl K k2 i H y,
    fun i H => dle K k1 i H ∧ dle K k2 i H ∧ (dend K k1 i H ∨ dend K k2 i H)⟩
theorem zsep {k1 k2 : DK} (n : Nat) (off1 : ∀ c : Addr, n ≤ c → k1.off c) (off2 : ∀ c : Addr, n ≤ c → k2.off c) {fp1 fp2 : List Addr} (m1 : n ∈ fp1) (m2 : n + 1 ∈ fp2) (pf1 : ∀ c, c ≠ n → k1.off c → c ∉ fp1) (pf2 : ∀ c, c ≠ n + 1 → k2.off c → c ∉ fp2) :
    ZipSep2 (n + 4) (n + 2) (n + 3) n (n + 1) fp1 fp2 where
  TIz := show (n + 2 : Nat) ≠ n + 4 by omega
  TOz := show (n + 3 : Nat) ≠ n + 4 by omega
  TITO := show (n + 2 : Nat) ≠ n + 3 by omega
  TIi1 := show (n + 2 : Nat) ≠ n by omega
  mem1 := m1
  zf1 := pf1 _ (show (n + 4 : Nat) ≠ n by omega) (off1 _ (Nat.le_add_right _ _))
  Tf1 := pf1 _ (show (n + 3 : Nat) ≠ n by omega) (off1 _ (Nat.le_add_right _ _))
  TIi2 := show (n + 2 : Nat) ≠ n + 1 by omega
  mem2 := m2
  zf2 := pf2 _ (show (n + 4 : Nat) ≠ n + 1 by omega) (off2 _ (Nat.le_add_right _ _))
  Tf2 := pf2 _ (show (n + 3 : Nat) ≠ n + 1 by omega) (off2 _ (Nat.le_add_right _ _))
  sep1_2 := pf2 _ (show (n : Nat) ≠ n + 1 by omega) (off2 _ (Nat.le_refl _))
  sep2_1 := pf1 _ (show (n + 1 : Nat) ≠ n by omega) (off1 _ (Nat.le_succ _))
theorem turn_zipD {P : Program} {w : World} {K : PySem.W.Frag} {elts : List Expr} {kk : Nat} {tpos : Pos} (k1 k2 : DK) (n : Addr) (off1 : ∀ c, n ≤ c → k1.off c) (off2 : ∀ c, n ≤ c → k2.off c) :
    Turn P w K (.Tuple elts kk tpos) (IzD K k1 k2) [n + 4, n + 2, n + 3, n, n + 1] (n + 4) (fun i h => IsZip h (n + 4) (n + 2) (n + 3) .none ∧ IsTupOf2 h (n + 2) (.ref n) (.ref (n + 1)) ∧ (∃ x y, IsTupOf2 h (n + 3) x y) ∧ dat' n i h k1 ∧ dat' (n + 1) i h k2) where
  mem := by simp
  obj := fun i h st c hc => by
    obtain ⟨hz, hTI, ⟨x, y, hTO⟩, h1, h2⟩ := st
    have e' : c = n + 4 ∨ c = n + 2 ∨ c = n + 3 ∨ c = n ∨ c = n + 1 := by simpa using hc
    rcases e' with q | q | q | q | q
    · rw [q]; exact ⟨_, hz, fun v q => nomatch q⟩
    · rw [q]; exact ⟨_, hTI, fun v q => nomatch q⟩
    · rw [q]; exact ⟨_, hTO, fun v q => nomatch q⟩
    · rw [q]; exact dat_obj h1
    · rw [q]; exact dat_obj h2
  keep := fun i h h' st k => by
    obtain ⟨hz, hTI, ⟨x, y, hTO⟩, h1, h2⟩ := st
    exact ⟨k (n + 4) (by simp) _ hz, k (n + 2) (by simp) _ hTI, ⟨x, y, k (n + 3) (by simp) _ hTO⟩, dat_keep h1 fun o q => k n (by simp) o q, dat_keep h2 fun o q => k (n + 1) (by simp) o q⟩
  item := by
    intro X hP hw hK hc i pins s σ H E I hf st hg
    subst hP hw hK
    obtain ⟨hz, hTI, ⟨x0, y0, hTO⟩, h1, h2⟩ := st
    obtain ⟨g1, g2⟩ := hg
    obtain ⟨n1, fp1, P1, St1, D1, st1, _, lt1, _, py1, pat1, m1, pf1⟩ := drawsOf I (A := X.A.in1) (I.ok.hd hc) h1 (off1 _ (Nat.le_refl _)) (dle_of_go g1)
    obtain ⟨n2, fp2, P2, St2, D2, st2, _, lt2, _, py2, pat2, m2, pf2⟩ := drawsOf I (A := X.A.in1) (I.ok.hd hc) h2 (off2 _ (Nat.le_succ _)) (dle_of_go g2)
    have hzl : n + 4 < s.heap.objs.size := Heap.lt_size hz
    have sep : ZipSep2 (n + 4) (n + 2) (n + 3) n (n + 1) fp1 fp2 := zsep n off1 off2 m1 m2 pf1 pf2
    refine wpAny_pyNext_zipD2_item sep D1 D2 hz hTI hTO st1 st2 (lt1 g1) (lt2 g2) fun u u2 h' tk hu hu2 z' TO' st1' st2' hT hsz hk => ?_
    obtain ⟨x, ru, hy⟩ := py1 u hu
    obtain ⟨y, ru2, hy2⟩ := py2 u2 hu2
    refine ⟨_, rfl, wpAny_letOwnedTupleGo_zip (s := { s with heap := h', toks := tk }) z' fun h'' z'' sb => ?_⟩
    have hT2 : h''.get? s.heap.objs.size = some { cls := .type "tuple", data := .seq #[u, u2] } := (sb.2 _ (Nat.ne_of_gt hzl)).trans hT
    have new : ObjOk X.prog X.w (upd H s.heap.objs.size (.tup [x, y])) h'' s.heap.objs.size (.tup [x, y]) :=
      ⟨by show 2 ≤ sizeLine; decide, [u, u2], .cons ru (.cons ru2 .nil), ⟨_, hT2, rfl, _, rfl⟩⟩
    have I1 : Inv X pins σ (upd H s.heap.objs.size (.tup [x, y])) { s with heap := h'', toks := tk } :=
      I.turnedNew (ch := [n + 4, n + 2, n + 3, n, n + 1]) (fun c o hb q => (sb.2 c (fun q' => hb (by simp [q']))).trans (hk c o (fun q' => hb (by simp [q'])) (fun q' => hb (by simp [q'])) (fun q' => hb (by simp [q'])) (fun q' => hb (by simp [q'])) q)) hf (Nat.le_refl _) new
    refine ⟨.ref s.heap.objs.size, _, I1, rfl, ⟨_, x, y, rfl, I.hok.fresh (Nat.le_refl _), rfl, hy, hy2⟩, ⟨z'', ?_, ⟨u, u2, ?_⟩, ?_, ?_⟩, fun c hcm => ?_⟩
    · exact (sb.2 _ sep.TIz).trans (hk _ _ sep.TIz sep.TITO sep.TIi1 sep.TIi2 hTI)
    · exact (sb.2 _ sep.TOz).trans TO'
    · exact dat_keep (pat1 _ _ st1') fun o q => (sb.2 _ (Ne.symm sep.zi1)).trans q
    · exact dat_keep (pat2 _ _ st2') fun o q => (sb.2 _ (Ne.symm sep.zi2)).trans q
    · have hlt : c < s.heap.objs.size := by
        have e' : c = n + 4 ∨ c = n + 2 ∨ c = n + 3 ∨ c = n ∨ c = n + 1 := by simpa using hcm
        rcases e' with q | q | q | q | q
        · rw [q]; exact hzl
        · rw [q]; exact Heap.lt_size hTI
        · rw [q]; exact Heap.lt_size hTO
        · rw [q]; obtain ⟨_, e1, _⟩ := dat_obj h1; exact Heap.lt_size e1
        · rw [q]; obtain ⟨_, e2, _⟩ := dat_obj h2; exact Heap.lt_size e2
      rw [upd_ne (Nat.ne_of_lt hlt)]
      exact (hf c hcm).1
  done := by
    intro X hP hw hK hc i pins s σ H E I hf st hg
    subst hP hw hK
    obtain ⟨hz, hTI, ⟨x0, y0, hTO⟩, h1, h2⟩ := st
    obtain ⟨l1, l2, hend⟩ := hg
    obtain ⟨n1, fp1, P1, St1, D1, st1, le1, _, end1, _, _, m1, pf1⟩ := drawsOf I (A := X.A.in1) (I.ok.hd hc) h1 (off1 _ (Nat.le_refl _)) l1
    obtain ⟨n2, fp2, P2, St2, D2, st2, le2, _, end2, _, _, m2, pf2⟩ := drawsOf I (A := X.A.in1) (I.ok.hd hc) h2 (off2 _ (Nat.le_succ _)) l2
    have sep : ZipSep2 (n + 4) (n + 2) (n + 3) n (n + 1) fp1 fp2 := zsep n off1 off2 m1 m2 pf1 pf2
    refine wpAny_pyNext_zipD2_end sep D1 D2 hz hTI hTO st1 st2 le1 le2 (hend.imp end1 end2) fun h' tk hk => ⟨rfl, ?_⟩
    exact I.turnedL (t' := tk) (ch := [n + 4, n + 3, n, n + 1]) (fun c o hb q => hk c o (fun z => hb (by simp [z])) (fun z => hb (by simp [z])) (fun z => hb (by simp [z])) (fun z => hb (by simp [z])) q) fun c hcm => hf c (by
      simp only [List.mem_cons, List.not_mem_nil, or_false] at hcm ⊢
      rcases hcm with q | q | q | q <;> simp [q])
  self := fun A i s Q E st h => wpAny_pyIter_zip st.1 h
def iZipD (K : PySem.W.Frag) (ta : TA) : TI := fun σ H R => ta σ H fun vs H1 => ∃ k1 k2 : DK, vs = [k1.v, k2.v] ∧ there K H1 k1 ∧ there K H1 k2 ∧ R (IzD K k1 k2) H1
theorem pi_zipD {X : Cx} {e e2 : Expr} {ta : TA} {p pos tpos : Pos} {elts : List Expr} {kk : Nat} (hg : L2.Gl X "zip") (hm : X.mg "zip" = none) (ha : PA X [e, e2] ta)
    (hs : starEach [e, e2] X.env = (false, eval e X.env) :: starEach [e2] X.env := by rfl) (hpl : (backTo pos (starEach [e2] X.env)).any (·.1) = false := by rfl) :
    PI X (.Tuple elts kk tpos) (.Call (.Name "zip" p) [e, e2] [] pos) (iZipD X.K ta) := by
  refine ⟨fun pins s σ H R I h => ?_⟩
  refine Call_ (ld_blt I hg hm PyProof.Rows.boot_zip (PyProof.Rows.callWith_type1 (thn (ha.run pos pins s σ H _ I h) fun us s1 ⟨vs, H1, I1, r1, q1⟩ => ?_) hs hpl))
  obtain ⟨k1, k2, ex, th1, th2, q1⟩ := q1
  subst ex
  cases r1 with
  | cons r rr =>
    cases rr with
    | cons r' rr =>
      cases rr
      obtain ⟨ob1, Hh1, B1, hb1, off1, at1⟩ := beginsOf I1 r th1
      obtain ⟨ob2, Hh2, B2, hb2, off2, at2⟩ := beginsOf I1 r' th2
      refine zip_begins2 B1 B2 hb1 hb2 fun h' hz hTI hTO g1 g2 hsz hk => wpAny_pyIter_zip hz ?_
      have I2 : Inv X pins σ H1 { s1 with heap := h' } := I1.kept (t' := s1.toks) hk
      refine ⟨s1.heap.objs.size + 4, [s1.heap.objs.size + 4, s1.heap.objs.size + 2, s1.heap.objs.size + 3, s1.heap.objs.size, s1.heap.objs.size + 1], _, _, H1, rfl, I2, turn_zipD k1 k2 s1.heap.objs.size off1 off2, ⟨hz, hTI, ⟨_, _, hTO⟩, at1 _ _ g1, at2 _ _ g2⟩, fun c hcm => ?_, q1⟩
      have e' : c = s1.heap.objs.size + 4 ∨ c = s1.heap.objs.size + 2 ∨ c = s1.heap.objs.size + 3 ∨ c = s1.heap.objs.size ∨ c = s1.heap.objs.size + 1 := by simpa using hcm
      have hle : s1.heap.objs.size ≤ c := by
        rcases e' with z | z | z | z | z
        · rw [z]; exact Nat.le_add_right _ _
        · rw [z]; exact Nat.le_add_right _ _
        · rw [z]; exact Nat.le_add_right _ _
        · rw [z]; exact Nat.le_refl _
        · rw [z]; exact Nat.le_add_right _ _
      exact I1.fpOk hle (I1.hok.fresh hle)
end MP
/-! MiniPy against the hand layer: what is walked -/
namespace MP
open L2 PySem.Spec PySem PyProof.Rows

section
variable {K : Fg} {S : Stat} {Γ Γ' Γ1 Γ2 : List Nat} {F F' : AS} {fp fp' : Nat → AS} {ρ : MP.Env} {σ : L2.St} {H H' : Hp} {b fz : Bool} {k : Nat} {E : XK} {C : Ct}
theorem rd_some {a : Addr} {u : HO} (r : Rd H a u) : H a ≠ none := by rcases r with r | ⟨o, r⟩ <;> rw [r] <;> simp
theorem rd_same {a : Addr} {u : HO} (hs : ∀ a, H a ≠ none → H' a = H a) (r : Rd H a u) : Rd H' a u := by
  have := hs a (rd_some r)
  unfold Rd at r ⊢; rw [this]; exact r
theorem keeps_same (hs : ∀ a, H a ≠ none → H' a = H a) : Keeps F H H' := ⟨fun a ps r => by rw [hs a (by rw [r]; simp)]; exact r, fun a u _ r => rd_same hs r⟩
/-- the two ways of walking in one -/
def WalksX (fz : Bool) (K : Fg) (F : AS) (H : Hp) (xs : List Val) (J : L2.It) : Prop := if fz = true then Walks K F H xs J else WalksB K F H xs J
theorem WalksX.ofE {xs : List Val} {J : L2.It} (h : ∀ (i : Nat) (F2 : AS) (H2 : Hp), (∀ a, F a → F2 a) → Keeps F H H2 → (fz = true ∨ ∀ a, H a ≠ none → H2 a = H a) →
    (xs.length = i → J.stop i H2) ∧ (∀ v, xs[i]? = some v → J.go i H2 ∧ ∀ x H3, J.yld i H2 x H3 → (∀ a, H2 a ≠ none → H3 a = H2 a) ∧ FR K F2 H3 v x)) : WalksX fz K F H xs J := by
  unfold WalksX
  cases fz with
  | true => exact fun i F2 H2 hF kp => h i F2 H2 hF kp (.inl rfl)
  | false => exact fun i F2 H2 hF hs => h i F2 H2 hF (keeps_same hs) (.inr hs)
theorem WalksX.of {xs : List Val} {J : L2.It} (h : ∀ (i : Nat) (F2 : AS) (H2 : Hp), (∀ a, F a → F2 a) → Keeps F H H2 → (fz = true ∨ ∀ a, H a ≠ none → H2 a = H a) →
    (xs.length ≤ i → J.stop i H2) ∧ (∀ v, xs[i]? = some v → J.go i H2 ∧ ∀ x H3, J.yld i H2 x H3 → (∀ a, H2 a ≠ none → H3 a = H2 a) ∧ FR K F2 H3 v x)) : WalksX fz K F H xs J :=
  .ofE fun i F2 H2 a b c => ⟨fun e => (h i F2 H2 a b c).1 (Nat.le_of_eq e), (h i F2 H2 a b c).2⟩
/-- how a thing to be walked comes: frozen, or lent -/
def Bz (fz : Bool) (K : Fg) (F : AS) (H : Hp) (v : Val) (p : V) : Prop := if fz = true then FR K F H v p else B1 K F H v p
theorem Bz.lst {vs : List Val} {p : V} (h : Bz fz K F H (.lst vs) p) : ∃ a ps, p = .ref a ∧ Rd H a (.lst ps) ∧ FRs K F H vs ps ∧ (fz = true → F a) := by
  cases fz with
  | true => cases (show FR K F H (.lst vs) p from h); exact ⟨_, _, rfl, by assumption, by assumption, fun _ => by assumption⟩
  | false => obtain ⟨a, ps, e, r, q⟩ := (show B1 K F H (.lst vs) p from h); exact ⟨a, ps, e, r, q, fun z => by cases z⟩
theorem Bz.lend {v : Val} {p : V} (h : Bz fz K F H v p) : B1 K F H v p := by
  cases fz with
  | true => exact FR.b1 h
  | false => exact h
theorem walk_list {vs : List Val} {a : Addr} {ps : List V} (r : Rd H a (.lst ps)) (rs : FRs K F H vs ps) (hf : fz = true → F a) : WalksX fz K F H vs (Itl K a) := .of fun i F2 H2 hF kp hz => by
  have r2 : Rd H2 a (.lst ps) := by
    rcases hz with z | z
    · exact kp.fz _ _ (hf z) r
    · exact rd_same z r
  have rs2 := rs.mono kp hF
  refine ⟨fun hl => ⟨ps, .inl r2, by rw [← rs.length]; exact hl⟩, fun v e => ?_⟩
  obtain ⟨p, e1, f⟩ := rs2.at e
  refine ⟨⟨ps, p, .inl r2, e1⟩, fun x H3 y => ?_⟩
  obtain ⟨rfl, y⟩ := y
  have := y ps (.inl r2)
  rw [e1] at this
  cases this
  exact ⟨fun _ _ => rfl, f⟩
theorem walk_tup {vs : List Val} {a : Addr} {ps : List V} (r : TupAt K H a ps) (rs : FRs K F H vs ps) : WalksX fz K F H vs (Itt K a) := .of fun i F2 H2 hF kp _ => by
  have r2 : TupAt K H2 a ps := r.imp (kp.tup a ps) id
  have rs2 := rs.mono kp hF
  refine ⟨fun hl => ⟨ps, r2.sq, by rw [← rs.length]; exact hl⟩, fun v e => ?_⟩
  obtain ⟨p, e1, f⟩ := rs2.at e
  refine ⟨⟨ps, p, r2.sq, e1⟩, fun x H3 y => ?_⟩
  obtain ⟨rfl, y⟩ := y
  have := y ps (r2.sq)
  rw [e1] at this
  cases this
  exact ⟨fun _ _ => rfl, f⟩
theorem walk_str {s : List Nat} (c : cpOk s = true) : WalksX fz K F H (s.map fun c => .str [c]) (Its (toStr s)) := .of fun i F2 H2 hF kp _ => by
  refine ⟨fun hl => by show (toStr s).cps.size ≤ i; simpa [toStr] using hl, fun v e => ?_⟩
  rw [List.getElem?_map] at e
  obtain ⟨ch, e1, rfl⟩ := Option.map_eq_some_iff.mp e
  have hi := (List.getElem?_eq_some_iff.mp e1).1
  refine ⟨by show i < (toStr s).cps.size; simpa [toStr] using hi, fun x H3 y => ?_⟩
  obtain ⟨rfl, c2, e2, rfl⟩ := y
  have e3 : some c2 = some ch := by
    rw [← e2, ← e1]
    show s.toArray[i]? = s[i]?
    simp
  cases e3
  exact ⟨fun _ _ => rfl, .str (cpOk_at c e1)⟩
def iAny (K : Fg) (te : TE) : TI := fun σ H R => te σ H fun v H1 => (∃ a xs, v = .ref a ∧ SqL K H1 a xs ∧ R (Itl K a) H1) ∨ (∃ a xs, v = .ref a ∧ SqT K H1 a xs ∧ R (Itt K a) H1) ∨ ∃ x, v = .str x ∧ R (Its x) H1
/-- an iterator over a list, a tuple, a text -/
theorem pi_any {X : Cx} {tg e : Expr} {te : TE} (he : PE X e te) : PI X tg e (iAny X.K te) := by
  refine ⟨fun pins s σ H R I h => thn (he.run pins s σ H _ I h) fun v s1 ⟨x, H1, I1, r1, q1⟩ => ?_⟩
  have fresh : ∀ c, c ∈ [s1.heap.objs.size] → FpOk X pins H1 c := fun c hc => by
    cases List.mem_singleton.mp hc
    exact I1.fpOk (Nat.le_refl _) (I1.hok.fresh (Nat.le_refl _))
  rcases q1 with ⟨a, xs, rfl, hq, q⟩ | ⟨a, xs, rfl, hq, q⟩ | ⟨z, rfl, q⟩
  · cases r1
    obtain ⟨its, rv, p, _⟩ := I1.list hq
    exact wpAny_pyIter_list p.isList ⟨_, [s1.heap.objs.size], _, _, H1, rfl, I1.kept (t' := s1.toks) fun b o e => Heap.get?_push_of_some _ e, turn_list a _, ⟨_, Heap.get?_push_size _ rfl, rfl, rfl⟩, fresh, q⟩
  · cases r1
    obtain ⟨its, rv, p, _⟩ := I1.tuple hq
    exact wpAny_pyIter_tuple (show s1.heap.IsTuple a its.toArray from p) ⟨_, [s1.heap.objs.size], _, _, H1, rfl, I1.kept (t' := s1.toks) fun b o e => Heap.get?_push_of_some _ e, turn_tuple a _, ⟨_, Heap.get?_push_size _ rfl, rfl, rfl⟩, fresh, q⟩
  · obtain ⟨t, rfl⟩ := r1
    cases ha : z.cps.all (· < 128)
    · exact wpAny_pyIter_wide ha (pi_one (tk := s1.toks) I1 _ (turn_str _ z t "str_iterator" (.inr rfl)) ⟨_, Heap.get?_push_size _ rfl, rfl, rfl⟩ q)
    · exact wpAny_pyIter_ascii ha (pi_one (tk := s1.toks) I1 _ (turn_str _ z t "str_ascii_iterator" (.inl rfl)) ⟨_, Heap.get?_push_size _ rfl, rfl, rfl⟩ q)
theorem _root_.L2.PI.imp {X : Cx} {tg e : Expr} {t u : TI} (h : PI X tg e t) (hi : ∀ σ H R, u σ H R → t σ H R) : PI X tg e u := ⟨fun pins s σ H R I q => h.run pins s σ H R I (hi σ H R q)⟩
/-- by value where it is to be frozen -/
def JZ (fz : Bool) (C : Ct) (Γ : List Nat) (b : Bool) (e : Expr) (t : MP.E) : Prop := ∀ {n R E X}, CxOk C.S R n C.N C.sc C.fn E X → PE X e (fun σ H Q => ∃ F fp ρ, Stt X.K Γ F fp ρ σ H ∧ RSat (evE (C.S.gl n) t ρ) (fun o => ∀ F' fp' H' p, Stt X.K Γ F' fp' o.2 σ H' → Ext b F fp H F' fp' H' → (b = true → o.2 = ρ) →
  Bz fz X.K F' H' o.1 p → Q p H') (XWish C.S E fp H))
theorem JE.z {e : Expr} {t : MP.E} (h : JE C Γ b 0 e t) : JZ true C Γ b e t := fun cx => (h cx).imp fun σ H Q ⟨F, fp, ρ, st, q⟩ => ⟨F, fp, ρ, st, q.mono (fun o _ q F' fp' fr H' p s1 ex pu ow _ => q F' fp' H' p s1 ex pu ow.1) fun _ _ x => x⟩
theorem JB.z {e : Expr} {t : MP.E} (h : JB C Γ b e t) : JZ false C Γ b e t := fun cx => (h cx).imp fun σ H Q ⟨F, fp, ρ, st, q⟩ => ⟨F, fp, ρ, st, q.mono (fun o _ q F' fp' H' p s1 ex pu ow => q F' fp' H' p s1 ex pu ow) fun _ _ x => x⟩
theorem nox_walked (v : Val) : NoX (walked v) := by intro c vs h; cases v <;> cases h
theorem ji_e {tg a : Expr} {t : MP.E} (h : JZ fz C Γ b a t) : JI C Γ b fz tg a (.e t) := by
  intro n R E X cx
  refine (pi_any (h cx)).imp fun σ H R q => ?_
  obtain ⟨F, fp, ρ, st, q⟩ := q
  have q : RSat ((evE (C.S.gl n) t ρ).bind fun x => (walked x.1).bind fun xs => .ok (xs, x.2)) _ _ := q
  refine ⟨F, fp, ρ, st, ?_⟩
  rw [RSat.bind] at q
  refine q.mono (fun o _ q F1 fp1 H1 p st1 ex1 pu1 bz => ?_) fun _ _ x => x
  rw [RSat.bind] at q
  obtain ⟨v, ρ1⟩ := o
  cases v <;> first | (exact False.elim q) | skip
  · obtain ⟨rfl, c⟩ := B1.of_str (Bz.lend bz)
    exact .inr (.inr ⟨_, rfl, q F1 fp1 H1 _ st1 ex1 pu1 (walk_str c)⟩)
  · obtain ⟨a, ps, rfl, ha, rs⟩ := B1.of_tup (Bz.lend bz)
    exact .inr (.inl ⟨a, ps, rfl, ha.sq, q F1 fp1 H1 _ st1 ex1 pu1 (walk_tup ha rs)⟩)
  · obtain ⟨a, ps, rfl, ha, rs, hf⟩ := Bz.lst bz
    exact .inl ⟨a, ps, rfl, .inl ha, q F1 fp1 H1 _ st1 ex1 pu1 (walk_list ha rs hf)⟩
/-! ### range -/
theorem rngL_at {a : Int} {n i : Nat} {v : Val} (e : (rngL a n)[i]? = some v) : i < n ∧ v = .int (a + i) := by
  unfold rngL at e
  rw [List.getElem?_map] at e
  obtain ⟨j, e1, rfl⟩ := Option.map_eq_some_iff.mp e
  obtain ⟨h, e2⟩ := List.getElem?_eq_some_iff.mp e1
  rw [List.length_range] at h
  rw [List.getElem_range] at e2
  subst e2
  exact ⟨h, rfl⟩
theorem rngD_at {a : Int} {n i : Nat} {v : Val} (e : (rngD a n)[i]? = some v) : i < n ∧ v = .int (a - i) := by
  unfold rngD at e
  rw [List.getElem?_map] at e
  obtain ⟨j, e1, rfl⟩ := Option.map_eq_some_iff.mp e
  obtain ⟨h, e2⟩ := List.getElem?_eq_some_iff.mp e1
  rw [List.length_range] at h
  rw [List.getElem_range] at e2
  subst e2
  exact ⟨h, rfl⟩
theorem walk_rng {a : Int} {n : Nat} : WalksX fz K F H (rngL a n) (Itr a n) := .of fun i F2 H2 hF kp _ => by
  refine ⟨fun hl => by show n ≤ i; simpa [rngL] using hl, fun v e => ?_⟩
  obtain ⟨h, rfl⟩ := rngL_at e
  exact ⟨h, fun x H3 y => by obtain ⟨rfl, rfl⟩ := y; exact ⟨fun _ _ => rfl, .int _⟩⟩
theorem walk_rngD {a : Int} {n : Nat} : WalksX fz K F H (rngD a n) (Itc a (-1) n) := .of fun i F2 H2 hF kp _ => by
  refine ⟨fun hl => by show n ≤ i; simpa [rngD] using hl, fun v e => ?_⟩
  obtain ⟨h, rfl⟩ := rngD_at e
  refine ⟨h, fun x H3 y => ?_⟩
  obtain ⟨rfl, rfl⟩ := y
  have : a + (i : Int) * (-1) = a - i := by omega
  rw [this]
  exact ⟨fun _ _ => rfl, .int _⟩
theorem lim_of {i : Int} (h : lim i = true) : -(2 ^ 62) ≤ i ∧ i < 2 ^ 62 := by
  unfold lim at h
  rw [Bool.and_eq_true, decide_eq_true_eq, decide_eq_true_eq] at h
  omega
theorem tI_args {ss : List (Option Nat)} {ts : MP.Es} {n : Nat} {R : L2.It → Hp → Prop} (h : tI K C.S Γ b fz E (evI (C.S.gl n) (.rng ts)) σ H R) :
    tArg K C.S Γ b ss E (evEs (C.S.gl n) ts) σ H fun ps H1 => ∃ F' vs xs, Arg K F' H1 σ ss vs ps ∧ range vs = .ok xs ∧ ∀ J, WalksX fz K F' H1 xs J → R J H1 := by
  obtain ⟨F, fp, ρ, st, q⟩ := h
  have q : RSat ((evEs (C.S.gl n) ts ρ).bind fun x => (range x.1).bind fun xs => .ok (xs, x.2)) _ _ := q
  refine ⟨F, fp, ρ, st, ?_⟩
  rw [RSat.bind] at q
  refine q.mono (fun o _ q F1 fp1 H1 ps st1 ex1 pu1 ar => ?_) fun _ _ x => x
  rw [RSat.bind] at q
  cases e : range o.1 with
  | stuck => rw [e] at q; exact q.elim
  | exc c vs => exact absurd e (nox_range _ c vs)
  | ok xs =>
    rw [e] at q
    exact ⟨F1, o.1, xs, ar, e, fun J w => q F1 fp1 H1 J st1 ex1 pu1 w⟩
theorem ji_range1 {tg a : Expr} {t : MP.E} {p pos : Pos} (hb : Bn C "range" (.type "range")) (hs : NoStar a) (h : JE C Γ b 0 a t) : JI C Γ b fz tg (.Call (.Name "range" p) [a] [] pos) (.rng (.cons t .nil)) := by
  intro n R E X cx
  refine (pi_range1 (hb.gl cx) (hb.mg cx) (ja_val (ss := []) hs h ja_nil cx) (hs [] X.env)).imp fun σ H R q => ?_
  obtain ⟨F, fp, ρ, st, q⟩ := tI_args (ss := [none]) q
  refine ⟨F, fp, ρ, st, q.mono (fun o _ q F1 fp1 H1 ps st1 ex1 pu1 ar => ?_) fun _ _ x => x⟩
  obtain ⟨F', vs, xs, ar, e, q⟩ := q F1 fp1 H1 ps st1 ex1 pu1 ar
  cases ar with
  | val f r =>
    cases r
    rename_i v p
    unfold range at e
    split at e <;> first | (rename_i heq; cases heq; done) | skip
    · rename_i j heq
      cases heq
      split at e
      · cases e
        cases FR.intS f
        exact ⟨_, rfl, (lim_of (by assumption)).1, (lim_of (by assumption)).2, q _ walk_rng⟩
      · cases e
    · cases e
theorem ji_range2 {tg a1 a2 : Expr} {t1 t2 : MP.E} {p pos : Pos} (hb : Bn C "range" (.type "range")) (hs1 : NoStar a1) (hs2 : NoStar a2) (h1 : JE C Γ b 0 a1 t1) (h2 : JE C Γ b 0 a2 t2) :
    JI C Γ b fz tg (.Call (.Name "range" p) [a1, a2] [] pos) (.rng (.cons t1 (.cons t2 .nil))) := by
  intro n R E X cx
  refine (pi_range2 (hb.gl cx) (hb.mg cx) (ja_val (ss := [none]) hs1 h1 (ja_val hs2 h2 ja_nil) cx) (by rw [hs1 [a2] X.env, hs2 [] X.env]; rfl) (hs2 [] X.env)).imp fun σ H R q => ?_
  obtain ⟨F, fp, ρ, st, q⟩ := tI_args (ss := [none, none]) q
  refine ⟨F, fp, ρ, st, q.mono (fun o _ q F1 fp1 H1 ps st1 ex1 pu1 ar => ?_) fun _ _ x => x⟩
  obtain ⟨F', vs, xs, ar, e, q⟩ := q F1 fp1 H1 ps st1 ex1 pu1 ar
  cases ar with
  | val f r =>
    cases r with
    | val g r =>
      cases r
      unfold range at e
      split at e <;> first | (rename_i heq; cases heq; done) | skip
      · rename_i i j heq
        cases heq
        split at e
        · rename_i hl
          rw [Bool.and_eq_true] at hl
          cases e
          cases FR.intS f
          cases FR.intS g
          have l1 := lim_of hl.1
          have l2 := lim_of hl.2
          exact ⟨_, _, rfl, ⟨l1.1, l1.2, l2.1, l2.2⟩, q _ walk_rng⟩
        · cases e
      · cases e
theorem ji_range3 {tg a1 a2 a3 : Expr} {t1 t2 t3 : MP.E} {p pos : Pos} (hb : Bn C "range" (.type "range")) (hs1 : NoStar a1) (hs2 : NoStar a2) (hs3 : NoStar a3) (h1 : JE C Γ b 0 a1 t1) (h2 : JE C Γ b 0 a2 t2) (h3 : JE C Γ b 0 a3 t3) :
    JI C Γ b fz tg (.Call (.Name "range" p) [a1, a2, a3] [] pos) (.rng (.cons t1 (.cons t2 (.cons t3 .nil)))) := by
  intro n R E X cx
  refine (pi_range3 (hb.gl cx) (hb.mg cx) (ja_val (ss := [none, none]) hs1 h1 (ja_val hs2 h2 (ja_val hs3 h3 ja_nil)) cx) (hs1 [a2, a3] X.env) (by rw [hs2 [a3] X.env, hs3 [] X.env]; rfl)).imp fun σ H R q => ?_
  obtain ⟨F, fp, ρ, st, q⟩ := tI_args (ss := [none, none, none]) q
  refine ⟨F, fp, ρ, st, q.mono (fun o _ q F1 fp1 H1 ps st1 ex1 pu1 ar => ?_) fun _ _ x => x⟩
  obtain ⟨F', vs, xs, ar, e, q⟩ := q F1 fp1 H1 ps st1 ex1 pu1 ar
  cases ar with
  | val f r =>
    cases r with
    | val g r =>
      cases r with
      | val l r =>
        cases r
        unfold range at e
        split at e <;> first | (rename_i heq; cases heq; done) | skip
        · rename_i i j heq
          cases heq
          split at e
          · rename_i hl
            rw [Bool.and_eq_true] at hl
            cases e
            cases FR.intS f
            cases FR.intS g
            cases FR.intS l
            have l1 := lim_of hl.1
            have l2 := lim_of hl.2
            exact ⟨_, _, _, _, rfl, .neg l1.1 l1.2 l2.1 l2.2, q _ walk_rngD⟩
          · cases e
        · cases e
/-! ### enumerate, zip -/
theorem numb_at : ∀ {vs : List Val} {j i : Nat} {v : Val}, (numb j vs)[i]? = some v → ∃ u, vs[i]? = some u ∧ v = .tup [.int ((j + i : Nat) : Int), u]
  | [], _, _, _, e => by simp [numb] at e
  | u :: vs, j, 0, v, e => by
    simp only [numb, List.getElem?_cons_zero, Option.some.injEq] at e
    exact ⟨u, rfl, by rw [← e]; rfl⟩
  | u :: vs, j, i + 1, v, e => by
    simp only [numb, List.getElem?_cons_succ] at e
    obtain ⟨w, h1, h2⟩ := numb_at e
    exact ⟨w, by simpa using h1, by rw [h2, show j + 1 + i = j + (i + 1) by omega]⟩
theorem numb_len : ∀ (vs : List Val) (j : Nat), (numb j vs).length = vs.length
  | [], _ => rfl
  | v :: vs, j => by simp [numb, numb_len vs (j + 1)]
/-- what is walked: these values -/
def KW (fz : Bool) (K : Fg) (F : AS) (H : Hp) (vs : List Val) (k : DK) : Prop := ∀ (i : Nat) (F2 : AS) (H2 : Hp), (∀ a, F a → F2 a) → Keeps F H H2 → (fz = true ∨ ∀ a, H a ≠ none → H2 a = H a) →
  (i ≤ vs.length → dle K k i H2) ∧ (i = vs.length → dend K k i H2) ∧ (∀ v, vs[i]? = some v → dgo K k i H2 ∧ ∀ x, dyl K k i H2 x → FR K F2 H2 v x)
theorem kw_lst {vs : List Val} {a : Addr} {ps : List V} (r : Rd H a (.lst ps)) (rs : FRs K F H vs ps) (hf : fz = true → F a) : KW fz K F H vs (.lst a) := fun i F2 H2 hF kp hz => by
  have r2 : Rd H2 a (.lst ps) := by
    rcases hz with z | z
    · exact kp.fz _ _ (hf z) r
    · exact rd_same z r
  have rs2 := rs.mono kp hF
  have hl := rs.length
  refine ⟨fun h => ⟨ps, .inl r2, by omega⟩, fun h => ⟨ps, .inl r2, by omega⟩, fun v e => ?_⟩
  obtain ⟨p, e1, f⟩ := rs2.at e
  refine ⟨⟨ps, p, .inl r2, e1⟩, fun x y => ?_⟩
  have := y ps (.inl r2)
  rw [e1] at this
  cases this
  exact f
theorem kw_tup {vs : List Val} {a : Addr} {ps : List V} (r : TupAt K H a ps) (rs : FRs K F H vs ps) : KW fz K F H vs (.tup a) := fun i F2 H2 hF kp _ => by
  have r2 : TupAt K H2 a ps := r.imp (kp.tup a ps) id
  have rs2 := rs.mono kp hF
  have hl := rs.length
  refine ⟨fun h => ⟨ps, r2.sq, by omega⟩, fun h => ⟨ps, r2.sq, by omega⟩, fun v e => ?_⟩
  obtain ⟨p, e1, f⟩ := rs2.at e
  refine ⟨⟨ps, p, r2.sq, e1⟩, fun x y => ?_⟩
  have := y ps (r2.sq)
  rw [e1] at this
  cases this
  exact f
theorem kw_str {s : List Nat} (c : cpOk s = true) : KW fz K F H (s.map fun c => .str [c]) (.str (toStr s)) := fun i F2 H2 hF kp _ => by
  have hz : (toStr s).cps.size = s.length := by simp [toStr]
  refine ⟨fun h => by show i ≤ (toStr s).cps.size; rw [hz]; simpa using h, fun h => by show i = (toStr s).cps.size; rw [hz]; simpa using h, fun v e => ?_⟩
  rw [List.getElem?_map] at e
  obtain ⟨ch, e1, rfl⟩ := Option.map_eq_some_iff.mp e
  have hi := (List.getElem?_eq_some_iff.mp e1).1
  refine ⟨by show i < (toStr s).cps.size; rw [hz]; exact hi, fun x y => ?_⟩
  obtain ⟨c2, e2, rfl⟩ := y
  have e3 : some c2 = some ch := by
    rw [← e2, ← e1]
    show s.toArray[i]? = s[i]?
    simp
  cases e3
  exact .str (cpOk_at c e1)
theorem kw_of {v : Val} {p : V} {vs : List Val} (h : Bz fz K F H v p) (e : walked v = .ok vs) : ∃ k : DK, p = k.v ∧ there K H k ∧ KW fz K F H vs k := by
  cases v <;> first | (cases e; done) | skip
  · cases e
    obtain ⟨rfl, c⟩ := B1.of_str (Bz.lend h)
    exact ⟨.str _, rfl, trivial, kw_str c⟩
  · cases e
    obtain ⟨a, ps, rfl, ha, rs⟩ := B1.of_tup (Bz.lend h)
    exact ⟨.tup a, rfl, ⟨ps, ha.sq⟩, kw_tup ha rs⟩
  · cases e
    obtain ⟨a, ps, rfl, ha, rs, hf⟩ := Bz.lst h
    exact ⟨.lst a, rfl, ⟨ps, .inl ha⟩, kw_lst ha rs hf⟩
theorem walk_enumD {vs : List Val} {k : DK} (w : KW fz K F H vs k) : WalksX fz K F H (numb 0 vs) (IteD K k) := .ofE fun i F2 H2 hF kp hz => by
  obtain ⟨_, w2, w3⟩ := w i F2 H2 hF kp hz
  refine ⟨fun hl => w2 (by rw [← hl, numb_len]), fun v e => ?_⟩
  obtain ⟨u, e0, rfl⟩ := numb_at e
  obtain ⟨g, f⟩ := w3 u e0
  refine ⟨g, fun x H3 y => ?_⟩
  obtain ⟨T, x', rfl, hn, rfl, y⟩ := y
  rw [Nat.zero_add]
  exact ⟨upd_same_of hn, fr_newT (.cons (.int _) (.one (f _ y))) hn⟩
theorem nox_enumd (v : Val) : NoX (enumd v) := by intro c vs h; cases v <;> cases h
theorem ji_enum {elts : List Expr} {kk : Nat} {tpos p pos : Pos} {a : Expr} {t : MP.E} (hb : Bn C "enumerate" (.type "enumerate")) (hs : NoStar a) (h : JZ fz C Γ b a t) : JI C Γ b fz (.Tuple elts kk tpos) (.Call (.Name "enumerate" p) [a] [] pos) (.enum t) := by
  intro n R E X cx
  refine (pi_enumD (hb.gl cx) (hb.mg cx) (pa_cons (h cx) pa_nil (hs [] X.env)) (hs [] X.env)).imp fun σ H R q => ?_
  obtain ⟨F, fp, ρ, st, q⟩ := q
  have q : RSat ((evE (C.S.gl n) t ρ).bind fun x => (enumd x.1).bind fun xs => .ok (xs, x.2)) _ _ := q
  refine ⟨F, fp, ρ, st, ?_⟩
  rw [RSat.bind] at q
  refine q.mono (fun o _ q F1 fp1 H1 p st1 ex1 pu1 bz => ?_) fun _ _ x => x
  rw [RSat.bind] at q
  obtain ⟨v, ρ1⟩ := o
  cases e : walked v with
  | stuck => unfold enumd at q; rw [e] at q; exact False.elim q
  | exc c vs => exact absurd e (nox_walked _ c vs)
  | ok vs =>
    unfold enumd at q
    rw [e] at q
    obtain ⟨k, rfl, th, w⟩ := kw_of bz e
    exact ⟨k, rfl, th, q F1 fp1 H1 _ st1 ex1 pu1 (walk_enumD w)⟩
theorem pairUp_at {vs us : List Val} {i : Nat} {v : Val} (e : (pairUp vs us)[i]? = some v) : ∃ x y, vs[i]? = some x ∧ us[i]? = some y ∧ v = .tup [x, y] := by
  unfold pairUp at e
  rw [List.getElem?_map] at e
  obtain ⟨j, e1, rfl⟩ := Option.map_eq_some_iff.mp e
  rw [List.getElem?_zip_eq_some] at e1
  exact ⟨j.1, j.2, e1.1, e1.2, rfl⟩
theorem pairUp_len (vs us : List Val) : (pairUp vs us).length = min vs.length us.length := by simp [pairUp]
theorem walk_zipD {vs us : List Val} {k1 k2 : DK} (w1 : KW fz K F H vs k1) (w2 : KW fz K F H us k2) : WalksX fz K F H (pairUp vs us) (IzD K k1 k2) := .ofE fun i F2 H2 hF kp hz => by
  obtain ⟨a1, a2, a3⟩ := w1 i F2 H2 hF kp hz
  obtain ⟨b1, b2, b3⟩ := w2 i F2 H2 hF kp hz
  refine ⟨fun hl => ?_, fun v e => ?_⟩
  · rw [pairUp_len] at hl
    refine ⟨a1 (by omega), b1 (by omega), ?_⟩
    rcases Nat.le_total vs.length us.length with z | z
    · exact .inl (a2 (by omega))
    · exact .inr (b2 (by omega))
  · obtain ⟨x, y, e1, e2, rfl⟩ := pairUp_at e
    obtain ⟨g1, f1⟩ := a3 x e1
    obtain ⟨g2, f2⟩ := b3 y e2
    refine ⟨⟨g1, g2⟩, fun w H3 yl => ?_⟩
    obtain ⟨T, x', y', rfl, hn, rfl, h1, h2⟩ := yl
    exact ⟨upd_same_of hn, fr_newT (.cons (f1 _ h1) (.one (f2 _ h2))) hn⟩
theorem Keeps.tr {H2 : Hp} (a : Keeps F H H') (b : Keeps F' H' H2) (hF : ∀ a, F a → F' a) : Keeps F H H2 := ⟨fun c ps r => b.tup c ps (a.tup c ps r), fun c u f r => b.fz c u (hF c f) (a.fz c u f r)⟩
theorem there_same {k : DK} (al : ∀ a, H a ≠ none → H' a = H a) (t : there K H k) : there K H' k := by
  cases k with
  | lst a => obtain ⟨xs, q⟩ := t; exact ⟨xs, q.imp (rd_same al) id⟩
  | tup a => obtain ⟨xs, q⟩ := t; exact ⟨xs, q.imp (rd_same al) id⟩
  | str z => trivial
theorem KW.step {vs : List Val} {k : DK} {fp fp' : Nat → AS} (w : KW fz K F H vs k) (ex : Ext true F fp H F' fp' H') (al : ∀ a, H a ≠ none → H' a = H a) : KW fz K F' H' vs k := fun i F2 H2 hF kp hz => w i F2 H2 (fun a z => hF a (ex.sub a z)) ((keeps_same al).tr kp ex.sub) (hz.imp id fun z a n => (z a (by rw [al a n]; exact n)).trans (al a n))
theorem nox_zipped (v u : Val) : NoX (zipped v u) := by intro c vs h; cases v <;> cases u <;> cases h
/-- zip: both as they are to be walked, the second one pure -/
theorem ji_zip {elts : List Expr} {kk : Nat} {tpos p pos : Pos} {a e : Expr} {t te : MP.E} (hb : Bn C "zip" (.type "zip")) (hs : NoStar a) (hs2 : NoStar e) (h : JZ fz C Γ b a t) (h2 : JZ fz C Γ true e te) :
    JI C Γ b fz (.Tuple elts kk tpos) (.Call (.Name "zip" p) [a, e] [] pos) (.zip t te) := by
  intro n R E X cx
  refine (pi_zipD (hb.gl cx) (hb.mg cx) (pa_cons (h cx) (pa_cons (h2 cx) pa_nil (hs2 [] X.env)) (hs [e] X.env)) (hs [e] X.env) (by rw [hs2 [] X.env]; rfl)).imp fun σ H R q => ?_
  obtain ⟨F, fp, ρ, st, q⟩ := q
  have q : RSat ((evE (C.S.gl n) t ρ).bind fun x => (evE (C.S.gl n) te x.2).bind fun y => (zipped x.1 y.1).bind fun xs => .ok (xs, y.2)) _ _ := q
  refine ⟨F, fp, ρ, st, ?_⟩
  rw [RSat.bind] at q
  refine q.mono (fun o _ q F1 fp1 H1 p st1 ex1 pu1 bz => ⟨F1, fp1, o.2, st1, ?_⟩) fun _ _ x => x
  rw [RSat.bind] at q
  refine q.mono (fun o2 _ q F2 fp2 H2 p2 st2 ex2 pu2 bz2 => ?_) fun _ _ x => x.ext ex1
  rw [RSat.bind] at q
  obtain ⟨v, ρ1⟩ := o
  obtain ⟨u, ρ2⟩ := o2
  have al : ∀ a, H1 a ≠ none → H2 a = H1 a := fun a n => ex2.same a n (.inl rfl)
  have ex12 : Ext b F fp H F2 fp2 H2 := ex1.trans (ex2.to fun _ => rfl)
  have pu12 : b = true → ρ2 = ρ := fun e => (pu2 rfl).trans (pu1 e)
  cases e1 : walked v with
  | stuck => unfold zipped at q; rw [e1] at q; exact False.elim q
  | exc c vs => exact absurd e1 (nox_walked _ c vs)
  | ok vs =>
    cases e2 : walked u with
    | stuck => unfold zipped at q; rw [e1] at q; simp only [Res.bind] at q; rw [e2] at q; exact False.elim q
    | exc c vs => exact absurd e2 (nox_walked _ c vs)
    | ok us =>
      unfold zipped at q
      rw [e1] at q
      simp only [Res.bind] at q
      rw [e2] at q
      obtain ⟨k1, rfl, th1, w1⟩ := kw_of bz e1
      obtain ⟨k2, rfl, th2, w2⟩ := kw_of bz2 e2
      have w1' : KW fz X.K F2 H2 vs k1 := w1.step ex2 al
      exact ⟨k1, k2, rfl, there_same al th1, th2, q F2 fp2 H2 _ st2 ex12 pu12 (walk_zipD w1' w2)⟩
end
end MP
/-! MiniPy against the hand layer: comprehensions -/
namespace MP
open L2 PySem.Spec PySem PyProof.Rows

/-- the block's context -/
abbrev Ct.bl (C : Ct) (scope : Scope) : Ct := { C with sc := relS scope C.sc, fn := fun x => scope.names.lookup x == some .cell, io := [] }
section
variable {K : Fg} {S : Stat} {Γ Γ' Γ1 Γ2 : List Nat} {F F' : AS} {fp fp' : Nat → AS} {ρ : MP.Env} {σ : L2.St} {H H' : Hp} {b fz : Bool} {k : Nat} {E : XK} {C : Ct}
theorem CxOk.bl {R : Rt} {n : Nat} {X : Cx} {scope : Scope} (cx : CxOk C.S R n C.N C.sc C.fn E X) (s : Shared) (H : Hp) (A : Addr) (cl : List (PySem.Str × Addr)) (fp : List Addr) :
    CxOk (C.bl scope).S R n (C.bl scope).N (C.bl scope).sc (C.bl scope).fn (fun _ _ _ => False) (X.blk s H scope (compEnvC scope cl A X.env) fp) where
  gl := cx.gl
  fn := cx.fn
  names := cx.names
  nd := cx.nd
  scope := by
    show relS scope X.env.scope = relS scope C.sc
    rw [cx.scope]
  calm := cx.calm
  room := cx.room
  guards := cx.guards
  pass := fun _ _ _ _ _ _ _ h => by
    obtain ⟨_, _, _, _, _, _, _, _, _, _, _, _, q⟩ := h
    exact q
  own := PassesOwn.never
  fnq := fun x h => h
theorem wipe_len : ∀ (is : List Nat) (ρ : MP.Env), (MP.wipe ρ is).length = ρ.length
  | [], _ => rfl
  | i :: is, ρ => by rw [MP.wipe, wipe_len is, List.length_set]
theorem wipe_at : ∀ (is : List Nat) (ρ : MP.Env) (j : Nat), (MP.wipe ρ is)[j]? = if j ∈ is ∧ j < ρ.length then some none else ρ[j]?
  | [], ρ, j => by simp [MP.wipe]
  | i :: is, ρ, j => by
    rw [MP.wipe, wipe_at is, List.length_set]
    by_cases hj : j = i
    · subst hj
      by_cases hl : j < ρ.length
      · rw [List.getElem?_set_self hl]
        simp [hl]
      · rw [if_neg (fun q => hl q.2), if_neg (fun q => hl q.2), List.getElem?_eq_none (by rw [List.length_set]; omega), List.getElem?_eq_none (by omega)]
    · rw [List.getElem?_set_ne (fun q => hj q.symm)]
      have : (j ∈ i :: is) ↔ j ∈ is := by simp [hj]
      simp only [this]
theorem wipeL_at : ∀ (is : List Nat) (σ : L2.St) (j : Nat), (L2.wipe σ is)[j]? = if j ∈ is ∧ j < σ.length then some none else σ[j]?
  | [], σ, j => by simp [L2.wipe]
  | i :: is, σ, j => by
    rw [L2.wipe]
    by_cases hj : j = i
    · subst hj
      by_cases hl : j < σ.length
      · rw [List.getElem?_set_self (by rw [L2.wipe_length]; exact hl)]
        simp [hl]
      · rw [if_neg (fun q => hl q.2), List.getElem?_eq_none (by rw [List.length_set, L2.wipe_length]; omega), List.getElem?_eq_none (by omega)]
    · rw [List.getElem?_set_ne (fun q => hj q.symm), wipeL_at is]
      have : (j ∈ i :: is) ↔ j ∈ is := by simp [hj]
      simp only [this]
theorem zero_fp (s : Stt K Γ F fp ρ σ H) {i : Nat} (h0 : Γ.getD i 0 = 0) (a : Addr) : ¬ fp i a := by
  intro z
  cases e : ρ[i]? with
  | none => exact s.out i (by simp [e]) a z
  | some o =>
    cases o with
    | none => exact s.out i (by simp [e]) a z
    | some w =>
      obtain ⟨q, _, ow⟩ := s.rep i w e
      rw [h0] at ow
      exact ow.2 a z
/-- the block's own slots forgotten -/
theorem Stt.wipe {own : List Nat} (s : Stt K Γ F fp ρ σ H) (h0 : ∀ i ∈ own, Γ.getD i 0 = 0) : Stt K Γ F fp (MP.wipe ρ own) (L2.wipe σ own) H := by
  refine ⟨fun i v e => ?_, fun i hv a z => ?_, s.dj, s.tr, by rw [wipe_len, L2.wipe_length]; exact s.len⟩
  · rw [wipe_at] at e
    split at e
    · cases e
    · rename_i h
      obtain ⟨p, e1, ow⟩ := s.rep i v e
      exact ⟨p, by rw [wipeL_at, if_neg (by rw [← s.len]; exact h)]; exact e1, ow⟩
  · by_cases hi : i ∈ own
    · exact zero_fp s (h0 i hi) a z
    · exact s.out i (fun v e => hv v (by rw [wipe_at, if_neg (fun q => hi q.1)]; exact e)) a z
/-- from the block's slots back to those around it -/
theorem back_at (ρ : MP.Env) : ∀ (is : List Nat) (ρ' : MP.Env) (j : Nat), ρ'.length = ρ.length → (MP.back ρ ρ' is)[j]? = if j ∈ is then ρ[j]? else ρ'[j]?
  | [], ρ', j, _ => by simp [MP.back]
  | i :: is, ρ', j, hl => by
    rw [MP.back, back_at ρ is _ j (by rw [List.length_set]; exact hl)]
    by_cases hj : j ∈ is
    · rw [if_pos hj, if_pos (List.mem_cons_of_mem _ hj)]
    · rw [if_neg hj]
      by_cases hi : j = i
      · subst hi
        rw [if_pos List.mem_cons_self]
        by_cases hlt : j < ρ.length
        · rw [List.getElem?_set_self (by omega), List.getElem?_eq_getElem hlt, List.getD_eq_getElem?_getD, List.getElem?_eq_getElem hlt]; rfl
        · rw [List.getElem?_eq_none (by rw [List.length_set]; omega), List.getElem?_eq_none (by omega)]
      · rw [List.getElem?_set_ne (fun q => hi q.symm), if_neg (by simp [hi, hj])]
theorem back_len (ρ : MP.Env) : ∀ (is : List Nat) (ρ' : MP.Env), (MP.back ρ ρ' is).length = ρ'.length
  | [], _ => rfl
  | i :: is, ρ' => by rw [MP.back, back_len ρ is, List.length_set]
theorem Stt.unwipe {own : List Nat} {ρ1 : MP.Env} {F1 : AS} {fp1 : Nat → AS} {H1 : Hp} (s1 : Stt K Γ F1 fp1 ρ1 σ H1) (s : Stt K Γ F fp (MP.wipe ρ own) (L2.wipe σ own) H) (kp : Keeps F1 H1 H) (hF : ∀ a, F1 a → F a) (h0 : ∀ i ∈ own, Γ.getD i 0 = 0) (hl : ρ.length = ρ1.length) :
    Stt K Γ F fp (MP.back ρ1 ρ own) σ H := by
  have key : ∀ i, i ∈ own → ∀ a, ¬ fp i a := fun i hi a => zero_fp s (h0 i hi) a
  refine ⟨fun i v e => ?_, fun i hv a z => ?_, s.dj, s.tr, by rw [back_len, hl]; exact s1.len⟩
  · rw [back_at _ _ _ _ hl] at e
    by_cases hi : i ∈ own
    · rw [if_pos hi] at e
      obtain ⟨p, e1, ow⟩ := s1.rep i v e
      refine ⟨p, e1, ?_⟩
      rw [h0 i hi] at ow ⊢
      exact ⟨ow.1.mono kp hF, key i hi⟩
    · rw [if_neg hi] at e
      obtain ⟨p, e1, ow⟩ := s.rep i v (by rw [wipe_at, if_neg (fun q => hi q.1)]; exact e)
      rw [wipeL_at, if_neg (fun q => hi q.1)] at e1
      exact ⟨p, e1, ow⟩
  · by_cases hi : i ∈ own
    · exact key i hi a z
    · refine s.out i (fun v e => hv v ?_) a z
      rw [wipe_at, if_neg (fun q => hi q.1)] at e
      rw [back_at _ _ _ _ hl, if_neg hi]; exact e
/-- the list that grows, apart from all that the slots know, may change -/
theorem Stt.aside {D : Addr} {ps qs : List V} (s : Stt K Γ F fp ρ σ H) (hD : H D = some (.lst ps)) (nF : ¬ F D) (nf : ∀ i, ¬ fp i D) : Stt K Γ F fp ρ σ (upd H D (.lst qs)) ∧ Keeps F H (upd H D (.lst qs)) := by
  have kp : Keeps F H (upd H D (.lst qs)) := ⟨fun a us r => by rw [upd_ne (fun e => by subst e; rw [hD] at r; cases r)]; exact r, fun a u f r => by
    have : a ≠ D := fun e => by subst e; exact nF f
    unfold Rd at r ⊢
    rw [upd_ne this]; exact r⟩
  refine ⟨⟨fun i v e => ?_, s.out, s.dj, fun a f => ?_, s.len⟩, kp⟩
  · obtain ⟨p, e1, ow⟩ := s.rep i v e
    exact ⟨p, e1, ow.mono kp (fun _ z => z) (fun a z => upd_ne fun e => by subst e; exact nf i z) fun a z => (s.mu z).2⟩
  · rw [upd_ne (fun e => by subst e; exact nF f)]; exact s.tr a f
theorem bindT_len : ∀ {t : MP.T} {v : Val} {ρ ρ' : MP.Env}, bindT t v ρ = some ρ' → ρ'.length = ρ.length ∧ ∀ j, t.has j = false → ρ'[j]? = ρ[j]?
  | .var i, v, ρ, ρ', e => by
    cases e
    exact ⟨by unfold put; rw [List.length_set], fun j hj => by unfold put; rw [List.getElem?_set_ne]; intro q; subst q; simp [T.has] at hj⟩
  | .tup ts, v, ρ, ρ', e => by
    cases v <;> simp only [bindT] at e <;> first | (cases e; done) | skip
    exact bindTs_len2 e
where
  bindTs_len2 : ∀ {ts : List MP.T} {vs : List Val} {ρ ρ' : MP.Env}, bindTs ts vs ρ = some ρ' → ρ'.length = ρ.length ∧ ∀ j, T.has (.tup ts) j = false → ρ'[j]? = ρ[j]?
    | [], [], _, _, e => by cases e; exact ⟨rfl, fun _ _ => rfl⟩
    | [], _ :: _, _, _, e => by simp [bindTs] at e
    | _ :: _, [], _, _, e => by simp [bindTs] at e
    | t :: ts, v :: vs, ρ, ρ', e => by
      simp only [bindTs] at e
      cases e2 : bindT t v ρ with
      | none => rw [e2] at e; cases e
      | some ρ1 =>
        rw [e2] at e
        obtain ⟨a1, a2⟩ := bindT_len e2
        obtain ⟨b1, b2⟩ := bindTs_len2 e
        refine ⟨b1.trans a1, fun j hj => ?_⟩
        simp only [T.has, T.hasAny, Bool.or_eq_false_iff] at hj
        exact (b2 j (by simp only [T.has]; exact hj.2)).trans (a2 j hj.1)
/-- a clause's tests -/
def JTs (C : Ct) (Γ : List Nat) (b : Bool) (ifs : List Expr) (t : MP.E) : Prop := ∀ {n R E X}, CxOk C.S R n C.N C.sc C.fn E X → PTs X ifs (tT X.K C.S Γ b E (evT (C.S.gl n) t))
theorem _root_.L2.PTs.imp {X : Cx} {e : List Expr} {t u : TT} (h : PTs X e t) (hi : ∀ σ H Q, u σ H Q → t σ H Q) : PTs X e u := ⟨fun pins s σ H Q I q => h.run pins s σ H Q I (hi σ H Q q)⟩
theorem jts_nil : JTs C Γ b [] (.k (.bool true)) := fun cx => pts_nil.imp fun σ H Q h => tT_now h
theorem jts_one {c : Expr} {t : MP.E} (h : JT C Γ b c t) : JTs C Γ b [c] t := fun cx => pts_one (h cx)
theorem noexc_ok {α : Type} {r : Res α} {a : α} (h : r.noexc = .ok a) : r = .ok a := by
  cases r <;> simp only [Res.noexc] at h <;> first | exact h | cases h
theorem bind_ok {α β : Type} {r : Res α} {f : α → Res β} {c : β} (h : r.bind f = .ok c) : ∃ a, r = .ok a ∧ f a = .ok c := by
  cases r with
  | ok a => exact ⟨a, rfl, h⟩
  | exc _ _ => cases h
  | stuck => cases h
/-- how far a list comprehension has come -/
structure LcAt (K : Fg) (Γ : List Nat) (own : List Nat) (pb : Bool) (k : Nat) (σ : L2.St) (F1 : AS) (fp1 : Nat → AS) (H1 : Hp) (ρ1 : MP.Env) (D : Addr) (acc : List Val) (ρ : MP.Env) (H : Hp) (F : AS) (fp : Nat → AS) (ps : List V) (fps : Nat → AS) : Prop where
  st : Stt K Γ F fp (MP.wipe ρ own) (L2.wipe σ own) H
  ex : Ext pb F1 fp1 H1 F fp H
  pu : pb = true → ∀ j, j ∉ own → ρ[j]? = ρ1[j]?
  len : ρ.length = ρ1.length
  hD : H D = some (.lst ps)
  nF : ¬ F D
  nf : ∀ i, ¬ fp i D
  al : acc.length = ps.length
  it : ∀ i v p, acc[i]? = some v → ps[i]? = some p → Own K F H k v p (fps i)
  dj : ∀ i j a, i ≠ j → fps i a → ¬ fps j a
  na : ∀ i, ¬ fps i D
  ob : ∀ i, acc.length ≤ i → ∀ a, ¬ fps i a
  ap : ∀ i a, fps i a → ∀ j, ¬ fp j a
  fr : ∀ i a, fps i a → H1 a = none ∨ (pb = false ∧ ∃ j, fp1 j a)
theorem LcAt.fpm {own : List Nat} {pb : Bool} {F1 : AS} {fp1 : Nat → AS} {H1 : Hp} {ρ1 : MP.Env} {D : Addr} {acc : List Val} {ps : List V} {fps : Nat → AS} (a : LcAt K Γ own pb k σ F1 fp1 H1 ρ1 D acc ρ H F fp ps fps) {i : Nat} {x : Addr} (z : fps i x) : IsMu H x ∧ ¬ F x := by
  by_cases hi : i < acc.length
  · have h2 : i < ps.length := by have := a.al; omega
    exact (a.it i acc[i] ps[i] (by simp [hi]) (by simp [h2])).mu x z
  · exact absurd z (a.ob i (by omega) x)
/-- a step that does not touch the growing list -/
theorem LcAt.step {own : List Nat} {pb : Bool} {F1 F2 : AS} {fp1 fp2 : Nat → AS} {H1 H2 : Hp} {ρ1 ρ2 : MP.Env} {σ2 : L2.St} {D : Addr} {acc : List Val} {ps : List V} {fps : Nat → AS} (a : LcAt K Γ own pb k σ F1 fp1 H1 ρ1 D acc ρ H F fp ps fps)
    (st2 : Stt K Γ F2 fp2 ρ2 σ2 H2) (h0 : ∀ i ∈ own, Γ.getD i 0 = 0) (ex2 : Ext pb F fp H F2 fp2 H2) (hσ : L2.wipe σ2 own = L2.wipe σ own) (pu : pb = true → ∀ j, j ∉ own → ρ2[j]? = ρ[j]?) (hl : ρ2.length = ρ.length) : LcAt K Γ own pb k σ F1 fp1 H1 ρ1 D acc ρ2 H2 F2 fp2 ps fps := by
  have keep : ∀ i x, fps i x → H2 x = H x := fun i x z => ex2.same x (a.fpm z).1.some (.inr (a.ap i x z))
  have nF2 : ∀ i x, fps i x → ¬ F2 x := fun i x z f => by
    rcases ex2.new x f with f | f | ⟨_, j, f⟩
    · exact (a.fpm z).2 f
    · exact (a.fpm z).1.some f
    · exact a.ap i x z j f
  have hDn : H D ≠ none := by rw [a.hD]; simp
  exact {
    st := by rw [← hσ]; exact st2.wipe h0
    ex := a.ex.trans ex2
    pu := fun e j hj => (pu e j hj).trans (a.pu e j hj)
    len := hl.trans a.len
    hD := by rw [ex2.same D hDn (.inr a.nf)]; exact a.hD
    nF := fun f => by
      rcases ex2.new D f with f | f | ⟨_, j, f⟩
      · exact a.nF f
      · exact hDn f
      · exact a.nf j f
    nf := fun i z => by
      rcases ex2.fnew i D z with f | ⟨j, f⟩
      · exact hDn f
      · exact a.nf j f
    al := a.al
    it := fun i v p e1 e2 => (a.it i v p e1 e2).mono (a.st.keeps ex2) ex2.sub (keep i) (nF2 i)
    dj := a.dj
    na := a.na
    ob := a.ob
    ap := fun i x z j w => by
      rcases ex2.fnew j x w with f | ⟨l, f⟩
      · exact (a.fpm z).1.some f
      · exact a.ap i x z l f
    fr := a.fr }
theorem Ext.aside {pb : Bool} {D : Addr} {o : HO} (e : Ext pb F fp H F' fp' H') (hD : H D = none) : Ext pb F fp H F' fp' (upd H' D o) where
  sub := e.sub
  fz := fun a u f r => by
    have : a ≠ D := fun q => by subst q; exact rd_some r hD
    have := e.fz a u f r
    unfold Rd at this ⊢
    rw [upd_ne (by assumption)]; exact this
  same := fun a n h => by rw [upd_ne (fun q => n (by rw [q]; exact hD))]; exact e.same a n h
  new := e.new
  fnew := e.fnew
  pure := e.pure
/-- one more item -/
theorem LcAt.app {own : List Nat} {pb : Bool} {F1 F3 F4 : AS} {fp1 fp3 fp4 : Nat → AS} {H1 H3 H4 : Hp} {ρ1 ρ3 ρ4 : MP.Env} {D : Addr} {acc : List Val} {ps : List V} {fps : Nat → AS} {v : Val} {p : V} {fr : AS}
    (a3 : LcAt K Γ own pb k σ F1 fp1 H1 ρ1 D acc ρ3 H3 F3 fp3 ps fps) (a4 : LcAt K Γ own pb k σ F1 fp1 H1 ρ1 D acc ρ4 H4 F4 fp4 ps fps) (hD1 : H1 D = none) (ow : Own K F4 H4 k v p fr)
    (hf : ∀ a, fr a → (H3 a = none ∨ (pb = false ∧ ∃ i, fp3 i a)) ∧ ∀ i, ¬ fp4 i a) :
    LcAt K Γ own pb k σ F1 fp1 H1 ρ1 D (acc ++ [v]) ρ4 (upd H4 D (.lst (ps ++ [p]))) F4 fp4 (ps ++ [p]) (fun i => if i = acc.length then fr else fps i) := by
  obtain ⟨st5, kp5⟩ := a4.st.aside (qs := ps ++ [p]) a4.hD a4.nF a4.nf
  have frD : ∀ a, fr a → a ≠ D := fun a z e => by
    subst e
    rcases (hf a z).1 with w | ⟨_, j, w⟩
    · rw [a3.hD] at w; cases w
    · exact a3.nf j w
  have apart : ∀ i a, fr a → ¬ fps i a := fun i a z w => by
    rcases (hf a z).1 with y | ⟨_, j, y⟩
    · exact (a3.fpm w).1.some y
    · exact a3.ap i a w j y
  have al := a4.al
  exact {
    st := st5
    ex := a4.ex.aside hD1
    pu := a4.pu
    len := a4.len
    hD := upd_same
    nF := a4.nF
    nf := a4.nf
    al := by simp [al]
    it := fun i w q e1 e2 => by
      by_cases hi : i < acc.length
      · rw [List.getElem?_append_left hi] at e1
        rw [List.getElem?_append_left (by omega)] at e2
        have hne : ¬ i = acc.length := by omega
        simp only [if_neg hne]
        exact (a4.it i w q e1 e2).mono kp5 (fun _ z => z) (fun x z => upd_ne fun e => a4.na i (e ▸ z)) fun x z => (a4.fpm z).2
      · by_cases he : i = acc.length
        · subst he
          rw [List.getElem?_append_right (Nat.le_refl _), Nat.sub_self] at e1
          rw [List.getElem?_append_right (by omega), ← al, Nat.sub_self] at e2
          cases e1
          cases e2
          simp only [if_true]
          exact ow.mono kp5 (fun _ z => z) (fun x z => upd_ne (frD x z)) fun x z => (ow.mu x z).2
        · rw [List.getElem?_eq_none (by simp; omega)] at e1; cases e1
    dj := fun i j x ij z w => by
      by_cases hi : i = acc.length
      · by_cases hj : j = acc.length
        · omega
        · simp only [hi, if_true] at z
          simp only [if_neg hj] at w
          exact apart j x z w
      · simp only [if_neg hi] at z
        by_cases hj : j = acc.length
        · simp only [hj, if_true] at w
          exact apart i x w z
        · simp only [if_neg hj] at w
          exact a4.dj i j x ij z w
    na := fun i z => by
      by_cases hi : i = acc.length
      · simp only [hi, if_true] at z
        exact frD D z rfl
      · simp only [if_neg hi] at z
        exact a4.na i z
    ob := fun i hi x z => by
      rw [List.length_append, List.length_singleton] at hi
      have hne : ¬ i = acc.length := by omega
      simp only [if_neg hne] at z
      exact a4.ob i (by omega) x z
    ap := fun i x z j w => by
      by_cases hi : i = acc.length
      · simp only [hi, if_true] at z
        exact (hf x z).2 j w
      · simp only [if_neg hi] at z
        exact a4.ap i x z j w
    fr := fun i x z => by
      by_cases hi : i = acc.length
      · simp only [hi, if_true] at z
        exact a3.ex.back (hf x z).1
      · simp only [if_neg hi] at z
        exact a4.fr i x z }
theorem wipe_back {own : List Nat} {σ σ2 : L2.St} (hl : σ2.length = σ.length) (h : ∀ j, j ∉ own → σ2[j]? = σ[j]?) : L2.wipe σ2 own = L2.wipe σ own := by
  apply List.ext_getElem?
  intro j
  rw [wipeL_at, wipeL_at, hl]
  by_cases hj : j ∈ own
  · by_cases hl2 : j < σ.length
    · rw [if_pos ⟨hj, hl2⟩, if_pos ⟨hj, hl2⟩]
    · rw [if_neg (fun q => hl2 q.2), if_neg (fun q => hl2 q.2), List.getElem?_eq_none (by omega), List.getElem?_eq_none (by omega)]
  · rw [if_neg (fun q => hj q.1), if_neg (fun q => hj q.1)]
    exact h j hj
theorem wipe_idem (σ : L2.St) (own : List Nat) : L2.wipe (L2.wipe σ own) own = L2.wipe σ own := by
  apply List.ext_getElem?
  intro j
  rw [wipeL_at, L2.wipe_length, wipeL_at]
  by_cases h : j ∈ own ∧ j < σ.length
  · simp [h]
  · simp [h]
/-- [elt for tg in iter if ..] -/
theorem lc_imp {own : List Nat} {te tc : MP.E} {t : MP.T} {ti : MP.It} {pb : Bool} {n : Nat} {X : Cx} {σ : L2.St} {H : Hp} {Q : VK} {scope : Scope} (hpb : b = true → pb = true) (hfz : fz = true ∨ pb = true)
    (h0 : ∀ i ∈ own, Γ.getD i 0 = 0) (hto : ∀ j, t.has j = true → j ∈ own) (h : tE X.K C.S Γ b (k + 1) E (evE (C.S.gl n) (.lc te t ti tc own)) σ H Q) :
    tLc (tI X.K C.S Γ b fz E (evI (C.S.gl n) ti)) (tG X.K (C.bl scope) Γ t) (tT X.K C.S Γ pb (fun _ _ _ => False) (evT (C.S.gl n) tc)) (tE X.K C.S Γ pb k (fun _ _ _ => False) (evE (C.S.gl n) te)) own σ H Q := by
  obtain ⟨F, fp, ρ, st, q⟩ := h
  let step : Val → List Val → MP.Env → Res (List Val × MP.Env) := fun x acc ρ => (orStuck (bindT t x (MP.wipe ρ own))).bind fun ρ => (evE (C.S.gl n) tc ρ).bind fun b => (truthy b.1).bind fun c =>
    if c then (evE (C.S.gl n) te b.2).bind fun v => snoc acc v.1 v.2 else .ok (acc, b.2)
  have q : RSat ((evI (C.S.gl n) ti ρ).bind fun o => ((lcGo step o.1 [] o.2).noexc).bind fun r => Res.ok (Val.lst r.1, MP.back o.2 r.2 own)) _ _ := q
  refine ⟨F, fp, ρ, st, ?_⟩
  rw [RSat.bind] at q
  refine q.mono (fun o _ q F1 fp1 H1 J st1 ex1 pu1 wk D hD => ?_) fun _ _ x => x
  obtain ⟨xs, ρ1⟩ := o
  rw [RSat.bind] at q
  cases e0 : (lcGo step xs [] ρ1).noexc with
  | stuck => simp only [e0] at q; exact q.elim
  | exc c us =>
    exfalso
    cases e00 : lcGo step xs [] ρ1 <;> rw [e00] at e0 <;> cases e0
  | ok r =>
    obtain ⟨vs, ρ'⟩ := r
    have e1 := noexc_ok e0
    simp only [e0] at q
    have wk : WalksX fz X.K F1 H1 xs J := wk
    let Wq : Nat → Hp → Prop := fun i H => ∃ acc ρ F fp ps fps, LcAt X.K Γ own pb k σ F1 fp1 H1 ρ1 D acc ρ H F fp ps fps ∧ lcGo step (xs.drop i) acc ρ = .ok (vs, ρ')
    have hD1 : ∀ i, ¬ fp1 i D := fun i z => (st1.mu z).1.some hD
    obtain ⟨stN, exN⟩ := (st1.wipe h0).alloc (b := pb) (H' := upd H1 D (.lst [])) (upd_same_of hD)
    have start : LcAt X.K Γ own pb k σ F1 fp1 H1 ρ1 D [] ρ1 (upd H1 D (.lst [])) F1 fp1 [] (fun _ _ => False) := {
      st := stN
      ex := exN
      pu := fun _ _ _ => rfl
      len := rfl
      hD := upd_same
      nF := fun f => st1.tr D f hD
      nf := hD1
      al := rfl
      it := fun i v p e => by simp at e
      dj := fun _ _ _ _ z => z.elim
      na := fun _ z => z
      ob := fun _ _ _ z => z
      ap := fun _ _ z => z.elim
      fr := fun _ _ z => z.elim }
    refine ⟨fun i m H => m = xs.length - i ∧ i ≤ xs.length ∧ Wq i H, ⟨xs.length, by simp, Nat.zero_le _, [], ρ1, F1, fp1, [], _, start, by simpa using e1⟩, ?_⟩
    rintro i m H2 ⟨rfl, hi, acc, ρ2, F2, fp2, ps, fps, a, eg⟩
    have wki : (xs.length = i → J.stop i H2) ∧ (∀ v, xs[i]? = some v → J.go i H2 ∧ ∀ x H3, J.yld i H2 x H3 → (∀ a, H2 a ≠ none → H3 a = H2 a) ∧ FR X.K F2 H3 v x) := by
      unfold WalksX at wk
      cases hz : fz with
      | true => rw [hz, if_pos rfl] at wk; exact wk i F2 H2 a.ex.sub (st1.keeps a.ex)
      | false =>
        rw [hz] at wk
        have wk : WalksB X.K F1 H1 xs J := wk
        have hp : pb = true := hfz.resolve_left (by rw [hz]; simp)
        exact wk i F2 H2 a.ex.sub fun x nx => a.ex.same x nx (.inl hp)
    obtain ⟨stop, go⟩ := wki
    by_cases hlt : i < xs.length
    · obtain ⟨hgo, hy⟩ := go xs[i] (by simp [hlt])
      refine .inr ⟨hgo, Wq (i + 1), fun H' w => ⟨xs.length - (i + 1), by omega, rfl, hlt, w⟩, fun x H3 yl => ?_⟩
      obtain ⟨al3, fr3⟩ := hy x H3 yl
      obtain ⟨st3, ex3⟩ := a.st.alloc (b := pb) al3
      rw [List.drop_eq_getElem_cons hlt] at eg
      obtain ⟨o1, es, eg⟩ := bind_ok (show ((step xs[i] acc ρ2).bind fun o => lcGo step (xs.drop (i + 1)) o.1 o.2) = .ok (vs, ρ') from eg)
      obtain ⟨ρ3, eb, es⟩ := bind_ok es
      have eb := orStuck_ok eb
      obtain ⟨bl1, bl2⟩ := bindT_len eb
      rw [wipe_len] at bl1
      obtain ⟨o2, ec, es⟩ := bind_ok es
      obtain ⟨c, et, es⟩ := bind_ok es
      refine ⟨F2, fp2, _, xs[i], ρ3, st3, fr3, eb, fun σ3 st4 hσ => ?_⟩
      have lσ : σ3.length = σ.length := by have := st4.len; have := st3.len; rw [L2.wipe_length] at *; rw [wipe_len] at *; omega
      have hσ3 : L2.wipe σ3 own = L2.wipe σ own := wipe_back lσ fun j hj => by
        rw [hσ j (by cases hh : t.has j with | true => exact absurd (hto j hh) hj | false => rfl), wipeL_at, if_neg (fun q => hj q.1)]
      refine ⟨hσ3, ?_⟩
      have h0' := h0
      have pu3 : pb = true → ∀ j, j ∉ own → ρ3[j]? = ρ2[j]? := fun _ j hj => by
        rw [bl2 j (by cases hh : t.has j with | true => exact absurd (hto j hh) hj | false => rfl), wipe_at, if_neg (fun q => hj q.1)]
      have a4 := a.step st4 h0 ex3 hσ3 pu3 bl1
      refine ⟨F2, fp2, ρ3, st4, ?_⟩
      have ev : evT (C.S.gl n) tc ρ3 = .ok (c, o2.2) := by
        unfold evT
        rw [ec]
        show (truthy o2.1).bind _ = _
        rw [et]; rfl
      rw [ev]
      intro F5 fp5 H5 st5 ex5 pu5
      have le5 : o2.2.length = ρ3.length := st5.len.trans st4.len.symm
      have a5 := a4.step st5 h0 ex5 hσ3 (fun e j _ => by rw [show o2.2 = ρ3 from pu5 e]) le5
      cases c with
      | false =>
        cases es
        show if (false = true) then _ else _
        rw [if_neg (by simp)]
        exact ⟨acc, o2.2, F5, fp5, ps, fps, a5, eg⟩
      | true =>
        show if (true = true) then _ else _
        rw [if_pos rfl]
        obtain ⟨o3, ee, es⟩ := bind_ok (show ((evE (C.S.gl n) te o2.2).bind fun v => snoc acc v.1 v.2) = .ok o1 from es)
        unfold snoc at es
        split at es
        · rename_i hbig
          cases es
          refine ⟨F5, fp5, o2.2, st5, ?_⟩
          rw [ee]
          intro F6 fp6 fr6 H6 p6 st6 ex6 pu6 ow6 hf6
          have le6 : o3.2.length = o2.2.length := st6.len.trans st5.len.symm
          have a6 := a5.step st6 h0 ex6 hσ3 (fun e j _ => by rw [show o3.2 = o2.2 from pu6 e]) le6
          refine ⟨ps, a6.hD, ?_, _, o3.2, F6, fp6, _, _, a5.app a6 hD ow6 hf6, eg⟩
          rw [← a6.al]
          exact Nat.lt_of_lt_of_le hbig big_line
        · cases es
    · have e : i = xs.length := by omega
      subst e
      rw [List.drop_length] at eg
      cases eg
      refine .inl ⟨stop rfl, ?_⟩
      have stb := st1.unwipe a.st (st1.keeps a.ex) a.ex.sub h0 a.len
      have exb : Ext b F fp H F2 fp2 H2 := ex1.trans (a.ex.to hpb)
      refine q F2 fp2 (fun x => x = D ∨ ∃ i, fps i x) H2 (.ref D) stb exb (fun e => ?_) ⟨D, ps, fps, rfl, a.hD, a.nF, a.al, a.it, a.dj, a.na, a.ob, fun x => Iff.rfl⟩ fun x z => ?_
      · have e2 : ρ1 = ρ := pu1 e
        show MP.back ρ1 _ own = ρ
        rw [← e2]
        apply List.ext_getElem?
        intro j
        rw [back_at _ _ _ _ a.len]
        by_cases hj : j ∈ own
        · rw [if_pos hj]
        · rw [if_neg hj]; exact a.pu (hpb e) j hj
      · rcases z with rfl | ⟨i, z⟩
        · exact ⟨ex1.back (.inl hD), a.nf⟩
        · refine ⟨ex1.back ?_, a.ap i x z⟩
          rcases a.fr i x z with w | ⟨w1, w2⟩
          · exact .inl w
          · refine .inr ⟨?_, w2⟩
            cases hb : b with
            | false => rfl
            | true => rw [hpb hb] at w1; cases w1
theorem je_lc {elt tg iter : Expr} {ifs : List Expr} {scope : Scope} {own : List (PySem.Str × Nat)} {pos : Pos} {te tc : MP.E} {t : MP.T} {ti : MP.It} {pb : Bool} (hpb : b = true → pb = true) (hfz : fz = true ∨ pb = true) (ok : blkC C.N C.sc scope own = true)
    (h0 : (own.all fun p => Γ.getD p.2 0 == 0) = true) (hto : ∀ j, t.has j = true → j ∈ own.map (·.2)) (hi : JI C Γ b fz tg iter ti) (hg : JG (C.bl scope) Γ tg t) (hc : JTs (C.bl scope) Γ pb ifs tc) (he : JE (C.bl scope) Γ pb k elt te)
    (hs : ∀ (env : PySem.Env) x, foldedSetIterable iter env x = pure x) : JE C Γ b (k + 1) (.ListComp elt [⟨tg, iter, ifs, 0⟩] scope pos) (.lc te t ti tc (own.map (·.2))) := by
  intro n R E X cx
  refine (pe_lc (g := tG X.K (C.bl scope) Γ t) (tt := tT X.K C.S Γ pb (fun _ _ _ => False) (evT (C.S.gl n) tc)) (te := tE X.K C.S Γ pb k (fun _ _ _ => False) (evE (C.S.gl n) te)) cx.calm (by rw [cx.names]; exact cx.nd) (hi cx) (by rw [cx.names, cx.scope]; exact blkOk_by ok) (fun s H A cl fp => hg (cx.bl s H A cl fp)) (fun s H A cl fp => hc (cx.bl s H A cl fp)) (fun s H A cl fp => he (cx.bl s H A cl fp)) (hs X.env)).imp fun σ H Q q => ?_
  exact lc_imp hpb hfz (fun i hi => by
    obtain ⟨p, hp, rfl⟩ := List.mem_map.mp hi
    exact eq_of_beq (List.all_eq_true.mp h0 p hp)) hto q
/-- name = [..], the name a plain local: stored within the block's end -/
theorem js_setLc {i : Nat} {y : PySem.Str} {py spos : Pos} {elt tg iter : Expr} {ifs : List Expr} {scope : Scope} {own : List (PySem.Str × Nat)} {pos : Pos} {te tc : MP.E} {t : MP.T} {ti : MP.It} {pb : Bool} (hN : C.N[i]? = some y) (hy : C.sc.names.lookup y = some .local) (hkd : C.sc.kind = .function)
    (hk : (Γ.set i (k + 1)).getD i 0 = k + 1) (hio : C.io.all (fun q => q.1 != i) = true) (hl : (py.line == pos.line) = true) (ha : (scope.names.any fun (n, k) => n == y && (k == .local || k == .cell)) = false)
    (hpb : b = true → pb = true) (hfz : fz = true ∨ pb = true) (ok : blkC C.N C.sc scope own = true)
    (h0 : (own.all fun p => Γ.getD p.2 0 == 0) = true) (hto : ∀ j, t.has j = true → j ∈ own.map (·.2)) (hi : JI C Γ b fz tg iter ti) (hg : JG (C.bl scope) Γ tg t) (hc : JTs (C.bl scope) Γ pb ifs tc) (he : JE (C.bl scope) Γ pb k elt te)
    (hs : ∀ (env : PySem.Env) x, foldedSetIterable iter env x = pure x) : JS C Γ (.Assign [.Name y py] (.ListComp elt [⟨tg, iter, ifs, 0⟩] scope pos) spos) (.set i (.lc te t ti tc (own.map (·.2)))) (Γ.set i (k + 1)) := by
  intro n R E X cx
  refine (ps_setLc (g := tG X.K (C.bl scope) Γ t) (tt := tT X.K C.S Γ pb (fun _ _ _ => False) (evT (C.S.gl n) tc)) (te := tE X.K C.S Γ pb k (fun _ _ _ => False) (evE (C.S.gl n) te)) cx.calm (by rw [cx.names]; exact cx.nd) (by rw [cx.names]; exact hN) (by rw [cx.scope]; exact hy)
    (sw_true (by rw [cx.scope]; exact hkd) (by rw [cx.scope]; exact hy) hl ha) (hi cx) (by rw [cx.names, cx.scope]; exact blkOk_by ok) (fun s H A cl fp => hg (cx.bl s H A cl fp)) (fun s H A cl fp => hc (cx.bl s H A cl fp)) (fun s H A cl fp => he (cx.bl s H A cl fp)) (hs X.env)).imp fun D σ H q => ?_
  refine lc_imp hpb hfz (fun i hi => by
    obtain ⟨p, hp, rfl⟩ := List.mem_map.mp hi
    exact eq_of_beq (List.all_eq_true.mp h0 p hp)) hto (Q := fun x H1 => D.nx (σ.set i (some x)) H1) ?_
  refine tE_S (f := fun x => .ok (.next, put x.2 i x.1)) (Γ' := Γ.set i (k + 1)) (C := C) (D := D) q fun F fp ρ F1 fp1 H1 o p fr st st1 ex1 ow hf q => ?_
  exact q F1 _ _ H1 (st1.set (by rw [hk]; exact ow) fun a z => (hf a z).2) (ext_set ex1 fun a z => (hf a z).1) fun q hq => noio hio hq
end
end MP
/-! MiniPy against the hand layer: calls of own functions; a def keeps its promise -/
namespace MP
open L2 PySem.Spec PySem PyProof.Rows

section
variable {K : Fg} {S : Stat} {Γ Γ' Γ1 Γ2 : List Nat} {F F' : AS} {fp fp' : Nat → AS} {ρ : MP.Env} {σ : L2.St} {H H' : Hp} {b fz : Bool} {k : Nat} {E : XK} {C : Ct}
/-! ### a call -/
def tCallG (S : Stat) (K : Fg) (n f : Nat) (fi : FInfo) (E : XK) (t : TA) : TE := fun σ H Q => t σ H fun vs H1 => vs.length = fi.np ∧ spF S K n f fi vs H1 Q E
theorem pe_callG {X : Cx} {R : Rt} {n f : Nat} {fi : FInfo} {p pos : Pos} {e : Expr} {es : List Expr} {t : TA} (cx : CxOk C.S R n C.N C.sc C.fn E X) (hf : C.S.fns[f]? = some fi) (hg : C.sc.names.lookup fi.name = some .globalImplicit) (hdb : (fi.name == ("__debug__" : PySem.Str)) = false)
    (hs : NoStar e) (hpl : ∀ env : PySem.Env, (backTo pos (starEach es env)).any (·.1) = false) (ha : PA X (e :: es) t) : PE X (.Call (.Name fi.name p) (e :: es) [] pos) (tCallG C.S X.K n f fi E t) := by
  obtain ⟨hm, hk, hb, hl⟩ := cx.gl.fn f fi hf
  refine ⟨fun pins s σ H Q I h => ?_⟩
  refine wpAny_Call_Name_kw (ld_glob I (by show X.env.scope.names.lookup _ = _; rw [cx.scope]; exact hg) hm ?_ hdb)
  refine PySem.W.callWith_K (h₀ := X.base) I.ok.mod.kin hk (thn (ha.run pos pins s σ H _ I h) fun us s1 ⟨vs, H1, I1, r, ln, q⟩ => ⟨I1.kIn, ?_⟩) (hs es X.env) (hpl X.env)
  have hus : (us ++ []).length = (R.ps f).length := by rw [List.append_nil, ← r.length, ln, hl]
  refine wpAny_call (codeAny_mono (cx.fn f fi hf X.A X.stack s1 H1 ⟨us, []⟩ us vs Q E cx.room cx.guards I1.env0 (by simpa using hb s1 us I1.kIn hus) r q) fun o s' ho => ?_)
  cases o with
  | error x => exact cx.pass pins σ H1 s1 x s' I1 ho
  | ok fl =>
    cases fl with
    | ret u => exact I1.after ho
    | next => exact ho.elim
    | brk => exact ho.elim
    | cont => exact ho.elim
theorem pe_callG0 {X : Cx} {R : Rt} {n f : Nat} {fi : FInfo} {p pos : Pos} (cx : CxOk C.S R n C.N C.sc C.fn E X) (hf : C.S.fns[f]? = some fi) (hg : C.sc.names.lookup fi.name = some .globalImplicit) (hdb : (fi.name == ("__debug__" : PySem.Str)) = false) :
    PE X (.Call (.Name fi.name p) [] [] pos) (tCallG C.S X.K n f fi E tNil) := by
  obtain ⟨hm, hk, hb, hl⟩ := cx.gl.fn f fi hf
  refine ⟨fun pins s σ H Q I h => ?_⟩
  obtain ⟨ln, q⟩ := h
  refine wpAny_Call_Name_kw (ld_glob I (by show X.env.scope.names.lookup _ = _; rw [cx.scope]; exact hg) hm ?_ hdb)
  refine PySem.W.callWith_K0 I.kIn hk ?_
  have hus : (([] : List Value) ++ []).length = (R.ps f).length := by rw [hl, ← ln]; rfl
  refine wpAny_call (codeAny_mono (cx.fn f fi hf X.A X.stack s H ⟨[], []⟩ [] [] Q E cx.room cx.guards I.env0 (by simpa using hb s [] I.kIn hus) .nil q) fun o s' ho => ?_)
  cases o with
  | error x => exact cx.pass pins σ H s x s' I ho
  | ok fl =>
    cases fl with
    | ret u => exact I.after ho
    | next => exact ho.elim
    | brk => exact ho.elim
    | cont => exact ho.elim
/-- the state as the callee has it: its parameters' slots -/
theorem fill_ok : ∀ {io : List (Nat × Nat)} {vs ws : List Val}, fill ρ vs io = .ok ws → ws.length = vs.length ∧ ∀ j v, ws[j]? = some v → (vs[j]? = some v ∧ ∀ q ∈ io, q.1 ≠ j) ∨ ∃ q ∈ io, q.1 = j ∧ ρ[q.2]? = some (some v)
  | [], vs, ws, e => by cases e; exact ⟨rfl, fun j v h => .inl ⟨h, fun q hq => by cases hq⟩⟩
  | (p, i) :: io, vs, ws, e => by
    obtain ⟨v, e1, e2⟩ := bind_ok (show ((get ρ i).bind fun v => fill ρ (vs.set p v) io) = .ok ws from e)
    obtain ⟨h1, h2⟩ := fill_ok e2
    refine ⟨by rw [h1, List.length_set], fun j w hw => ?_⟩
    rcases h2 j w hw with ⟨a, b⟩ | ⟨q, hq, a, b⟩
    · by_cases hj : p = j
      · subst hj
        right
        refine ⟨(p, i), List.mem_cons_self, rfl, ?_⟩
        have hlt : p < vs.length := by
          have := (List.getElem?_eq_some_iff.mp a).1
          rw [List.length_set] at this; exact this
        rw [List.getElem?_set_self hlt] at a
        cases a
        exact get_ok e1
      · left
        rw [List.getElem?_set_ne hj] at a
        refine ⟨a, fun q hq => ?_⟩
        rcases List.mem_cons.mp hq with rfl | hq
        · exact hj
        · exact b q hq
    · exact .inr ⟨q, List.mem_cons_of_mem _ hq, a, b⟩
theorem fill_get : ∀ {io : List (Nat × Nat)} {vs ws : List Val}, fill ρ vs io = .ok ws → ∀ q ∈ io, ∃ v, ρ[q.2]? = some (some v)
  | [], _, _, _, q, hq => by cases hq
  | (p, i) :: io, vs, ws, e, q, hq => by
    obtain ⟨v, e1, e2⟩ := bind_ok (show ((get ρ i).bind fun v => fill ρ (vs.set p v) io) = .ok ws from e)
    rcases List.mem_cons.mp hq with rfl | hq
    · exact ⟨v, get_ok e1⟩
    · exact fill_get e2 q hq
theorem fill_nox : ∀ {io : List (Nat × Nat)} {vs : List Val}, NoX (fill ρ vs io)
  | [], _ => nox_ok _
  | (p, i) :: io, vs => nox_bind get_ne fun _ => fill_nox
theorem spill_out : ∀ {l : List (Nat × Nat)} {outs : List Val} {ρ : MP.Env} {i : Nat}, i ∉ l.map (·.2) → (spill ρ l outs)[i]? = ρ[i]?
  | [], _, _, _, _ => by unfold spill; rfl
  | (p, j) :: l, [], _, _, _ => by unfold spill; rfl
  | (p, j) :: l, v :: outs, ρ, i, h => by
    rw [List.map_cons, List.mem_cons, not_or] at h
    unfold spill
    rw [spill_out h.2]
    unfold put
    rw [List.getElem?_set_ne (fun e => h.1 e.symm)]
theorem spill_len : ∀ {l : List (Nat × Nat)} {outs : List Val} {ρ : MP.Env}, (spill ρ l outs).length = ρ.length
  | [], _, _ => by unfold spill; rfl
  | (p, j) :: l, [], _ => by unfold spill; rfl
  | (p, j) :: l, v :: outs, ρ => by
    unfold spill
    rw [spill_len]
    unfold put
    rw [List.length_set]
theorem spill_in : ∀ {l : List (Nat × Nat)} {outs : List Val} {ρ : MP.Env} {j : Nat} {q : Nat × Nat}, l.length = outs.length → (l.map (·.2)).Nodup → l[j]? = some q → q.2 < ρ.length → (spill ρ l outs)[q.2]? = (outs[j]?).map some
  | [], _, _, _, _, _, _, e, _ => by simp at e
  | _ :: _, [], _, _, _, e, _, _, _ => by simp at e
  | (p, i) :: l, v :: outs, ρ, 0, q, _, nd, e, hl => by
    simp only [List.getElem?_cons_zero, Option.some.injEq] at e
    subst e
    rw [List.map_cons, List.nodup_cons] at nd
    unfold spill
    rw [spill_out nd.1]
    unfold put
    rw [List.getElem?_set_self hl]; rfl
  | (p, i) :: l, v :: outs, ρ, j + 1, q, hn, nd, e, hl => by
    rw [List.map_cons, List.nodup_cons] at nd
    unfold spill
    rw [spill_in (j := j) (by simpa using hn) nd.2 (by simpa using e) (by unfold put; rw [List.length_set]; exact hl)]
    simp
/-- how a call's arguments come, against what the def changes -/
structure CallOk (Γ : List Nat) (ss : List (Option Nat)) (io : List (Nat × Nat)) (fi : FInfo) : Prop where
  len : ss.length = fi.np
  io1 : ∀ q ∈ io, ss[q.1]? = some (some q.2)
  io2 : ∀ j i, ss[j]? = some (some i) → (j, i) ∈ io
  nd1 : (io.map (·.1)).Nodup
  nd2 : (io.map (·.2)).Nodup
  same : fi.io.map (·.1) = io.map (·.1)
  md : ∀ j, (modes fi.np fi.io).getD j 0 = match ss[j]? with
    | some (some i) => Γ.getD i 0
    | _ => 0
theorem CallOk.inj {ss : List (Option Nat)} {io : List (Nat × Nat)} {fi : FInfo} (c : CallOk Γ ss io fi) {j l i : Nat} (h1 : ss[j]? = some (some i)) (h2 : ss[l]? = some (some i)) : j = l := by
  have a := c.io2 j i h1
  have b := c.io2 l i h2
  obtain ⟨m, hm, ea⟩ := List.getElem_of_mem a
  obtain ⟨m2, hm2, eb⟩ := List.getElem_of_mem b
  have : m = m2 := by
    refine (List.getElem_inj (xs := io.map (·.2)) (i := m) (j := m2) (h₀ := by simpa using hm) (h₁ := by simpa using hm2) c.nd2).mp ?_
    rw [List.getElem_map, List.getElem_map, ea, eb]
  subst this
  rw [ea] at eb
  exact congrArg (·.1) eb
theorem arg_at : ∀ {ss : List (Option Nat)} {vs : List Val} {ps : List V} {j : Nat} {v : Val}, Arg K F H σ ss vs ps → vs[j]? = some v → ∃ p, ps[j]? = some p ∧ ((ss[j]? = some none ∧ FR K F H v p) ∨ ∃ i, ss[j]? = some (some i) ∧ σ[i]? = some (some p))
  | _, _, _, _, _, .nil, e => by simp at e
  | _, _, _, 0, _, .val f _, e => by simp at e; subst e; exact ⟨_, rfl, .inl ⟨rfl, f⟩⟩
  | _, _, _, 0, _, .slot f _, e => by simp at e; subst e; exact ⟨_, rfl, .inr ⟨_, rfl, f⟩⟩
  | _, _, _, j + 1, _, .val _ r, e => by
    obtain ⟨p, h1, h2⟩ := arg_at (j := j) r (by simpa using e)
    exact ⟨p, by simpa using h1, by simpa using h2⟩
  | _, _, _, j + 1, _, .slot _ r, e => by
    obtain ⟨p, h1, h2⟩ := arg_at (j := j) r (by simpa using e)
    exact ⟨p, by simpa using h1, by simpa using h2⟩
/-- the callee's slots -/
def fpCall (ss : List (Option Nat)) (fp : Nat → AS) : Nat → AS := fun j a => ∃ i : Nat, ss[j]? = some (some i) ∧ fp i a
theorem call_start {ss : List (Option Nat)} {io : List (Nat × Nat)} {fi : FInfo} {vs ws : List Val} {ps : List V} (st : Stt K Γ F fp ρ σ H) (c : CallOk Γ ss io fi) (ar : Arg K F H σ ss vs ps) (e : fill ρ vs io = .ok ws) :
    ws.length = fi.np ∧ ps.length = fi.np ∧ Stt K (modes fi.np fi.io) F (fpCall ss fp) (ws.map some) (ps.map some) H := by
  obtain ⟨l1, hw⟩ := fill_ok e
  obtain ⟨l2, l3⟩ := ar.length
  refine ⟨by rw [l1, l2, c.len], by rw [l3, c.len], fun j v ev => ?_, fun j hv a z => ?_, fun j l a jl z w => ?_, st.tr, by rw [List.length_map, List.length_map, l1, l2, l3]⟩
  · rw [List.getElem?_map] at ev
    obtain ⟨v', ev, e2⟩ := Option.map_eq_some_iff.mp ev
    cases e2
    rw [c.md j]
    rcases hw j v ev with ⟨a, nb⟩ | ⟨q, hq, rfl, a⟩
    · obtain ⟨p, hp, h⟩ := arg_at ar a
      refine ⟨p, by rw [List.getElem?_map, hp]; rfl, ?_⟩
      rcases h with ⟨hs, f⟩ | ⟨i, hs, _⟩
      · rw [hs]
        exact ⟨f, fun a z => by obtain ⟨i, hi, _⟩ := z; rw [hs] at hi; cases hi⟩
      · exact absurd rfl (nb _ (c.io2 j i hs))
    · have hs := c.io1 q hq
      obtain ⟨p0, e0, ow⟩ := st.rep q.2 v a
      have hlt : q.1 < vs.length := by rw [l2]; exact (List.getElem?_eq_some_iff.mp hs).1
      obtain ⟨p, hp, h⟩ := arg_at (j := q.1) ar (List.getElem?_eq_getElem hlt)
      rcases h with ⟨hs', _⟩ | ⟨i, hs', hσ⟩
      · rw [hs] at hs'; cases hs'
      · rw [hs] at hs'
        cases hs'
        rw [e0] at hσ
        cases hσ
        refine ⟨_, by rw [List.getElem?_map, hp]; rfl, ?_⟩
        rw [hs]
        have : fpCall ss fp q.1 = fp q.2 := by
          funext a
          exact propext ⟨fun ⟨i, hi, z⟩ => by rw [hs] at hi; cases hi; exact z, fun z => ⟨q.2, hs, z⟩⟩
        rw [this]
        exact ow
  · obtain ⟨i, hi, z⟩ := z
    obtain ⟨v, ev⟩ := fill_get e _ (c.io2 j i hi)
    have hlt : j < ws.length := by rw [l1, l2]; exact (List.getElem?_eq_some_iff.mp hi).1
    exact hv ws[j] (by rw [List.getElem?_map, List.getElem?_eq_getElem hlt]; rfl)
  · obtain ⟨i, hi, z⟩ := z
    obtain ⟨i', hi', w⟩ := w
    by_cases e : i = i'
    · subst e
      exact jl (c.inj hi hi')
    · exact st.dj i i' a e z w
def fpBack (ss : List (Option Nat)) (fp fp' : Nat → AS) : Nat → AS := fun i a => (∃ j : Nat, ss[j]? = some (some i) ∧ fp' j a) ∨ ((∀ j : Nat, ss[j]? ≠ some (some i)) ∧ fp i a)
theorem call_end {ss : List (Option Nat)} {io : List (Nat × Nat)} {fi : FInfo} {vs ws outs : List Val} {ps : List V} (st : Stt K Γ F fp ρ σ H) (c : CallOk Γ ss io fi) (ar : Arg K F H σ ss vs ps) (e : fill ρ vs io = .ok ws) (ho : outs.length = io.length)
    (st' : Stt K (modes fi.np fi.io) F' fp' (spill (List.replicate fi.np none) (fi.io.map fun q => (q.1, q.1)) outs) (ps.map some) H') (ex : Ext false F (fpCall ss fp) H F' fp' H') :
    Stt K Γ F' (fpBack ss fp fp') (spill ρ io outs) σ H' ∧ Ext false F fp H F' (fpBack ss fp fp') H' ∧ (io = [] → Ext true F fp H F' (fpBack ss fp fp') H') := by
  have mu := fun i a (z : fpCall ss fp i a) => let ⟨l, _, w⟩ := z; (st.mu w)
  have kp : Keeps F H H' := ex.keeps fun i a z => (mu i a z).1
  have noc : ∀ (i : Nat) (a : Addr), (∀ j : Nat, ss[j]? ≠ some (some i)) → fp i a → ∀ l, ¬ fpCall ss fp l a := fun i a hn z l w => by
    obtain ⟨m, hm, w⟩ := w
    by_cases e : i = m
    · subst e; exact hn l hm
    · exact st.dj i m a e z w
  have pos : ∀ i j : Nat, ss[j]? = some (some i) → ∃ (m : Nat) (o : Val), io[m]? = some (j, i) ∧ outs[m]? = some o ∧ (spill ρ io outs)[i]? = some (some o) ∧ (spill (List.replicate fi.np none) (fi.io.map fun q => (q.1, q.1)) outs)[j]? = some (some o) := fun i j hs => by
    obtain ⟨m, hm, em⟩ := List.getElem_of_mem (c.io2 j i hs)
    have em' : io[m]? = some (j, i) := by rw [List.getElem?_eq_getElem hm, em]
    have hmo : m < outs.length := by omega
    obtain ⟨v, ev⟩ := fill_get e _ (c.io2 j i hs)
    have hjs := (List.getElem?_eq_some_iff.mp hs).1
    have hfl : fi.io.length = io.length := by have := congrArg List.length c.same; simpa using this
    refine ⟨m, outs[m], em', List.getElem?_eq_getElem hmo, ?_, ?_⟩
    · rw [spill_in (q := (j, i)) ho.symm c.nd2 em' (List.getElem?_eq_some_iff.mp ev).1, List.getElem?_eq_getElem hmo]; rfl
    · have e3 : (fi.io.map fun q => (q.1, q.1))[m]? = some (j, j) := by
        have h1 : (fi.io.map (·.1))[m]? = some j := by rw [c.same, List.getElem?_map, em']; rfl
        rw [List.getElem?_map] at h1 ⊢
        obtain ⟨q, hq, hj⟩ := Option.map_eq_some_iff.mp h1
        rw [hq, ← hj]; rfl
      rw [spill_in (q := (j, j)) (by simp [hfl, ho]) (by rw [List.map_map]; show (fi.io.map (·.1)).Nodup; rw [c.same]; exact c.nd1) e3 (by simp; rw [← c.len]; exact hjs), List.getElem?_eq_getElem hmo]; rfl
  have notin : ∀ i : Nat, (∀ j : Nat, ss[j]? ≠ some (some i)) → i ∉ io.map (·.2) := fun i hn hi => by
    obtain ⟨q, hq, rfl⟩ := List.mem_map.mp hi
    exact hn q.1 (c.io1 q hq)
  have pl : ∀ (i : Nat), (∃ j : Nat, ss[j]? = some (some i)) ∨ ∀ j : Nat, ss[j]? ≠ some (some i) := fun i => by
    by_cases h : ∃ j : Nat, ss[j]? = some (some i)
    · exact .inl h
    · exact .inr fun j q => h ⟨j, q⟩
  have fpb : ∀ i j : Nat, ss[j]? = some (some i) → fpBack ss fp fp' i = fp' j := fun i j hs => by
    funext a
    refine propext ⟨fun z => ?_, fun z => Or.inl ⟨j, hs, z⟩⟩
    rcases z with ⟨l, hl, z⟩ | ⟨hn, _⟩
    · cases c.inj hs hl; exact z
    · exact absurd hs (hn j)
  have fpn : ∀ i : Nat, (∀ j : Nat, ss[j]? ≠ some (some i)) → fpBack ss fp fp' i = fp i := fun i hn => by
    funext a
    refine propext ⟨fun z => ?_, fun z => Or.inr ⟨hn, z⟩⟩
    rcases z with ⟨l, hl, _⟩ | ⟨_, z⟩
    · exact absurd hl (hn l)
    · exact z
  have S1 : Stt K Γ F' (fpBack ss fp fp') (spill ρ io outs) σ H' := by
    refine ⟨fun i v ev => ?_, fun i hv a z => ?_, fun i l a il z w => ?_, st'.tr, by rw [spill_len]; exact st.len⟩
    · rcases pl i with ⟨j, hs⟩ | hn
      · obtain ⟨m, o, em, eo, e1, e2⟩ := pos i j hs
        rw [e1] at ev
        cases ev
        obtain ⟨p, ep, ow⟩ := st'.rep j v e2
        rw [c.md j, hs] at ow
        rw [fpb i j hs]
        have hlt : j < vs.length := by rw [ar.length.1]; exact (List.getElem?_eq_some_iff.mp hs).1
        obtain ⟨p2, hp2, h⟩ := arg_at (j := j) ar (List.getElem?_eq_getElem hlt)
        rw [List.getElem?_map, hp2] at ep
        cases ep
        rcases h with ⟨hs', _⟩ | ⟨i', hs', hσ⟩
        · rw [hs] at hs'; cases hs'
        · rw [hs] at hs'
          cases hs'
          exact ⟨_, hσ, ow⟩
      · rw [spill_out (notin i hn)] at ev
        obtain ⟨p, ep, ow⟩ := st.rep i v ev
        rw [fpn i hn]
        refine ⟨p, ep, ow.mono kp ex.sub (fun a z => ex.stays (st.mu z).1.some (noc i a hn z)) fun a z f => ?_⟩
        rcases ex.new a f with f | f | ⟨_, l, f⟩
        · exact (st.mu z).2 f
        · exact (st.mu z).1.some f
        · exact noc i a hn z l f
    · rcases pl i with ⟨j, hs⟩ | hn
      · obtain ⟨m, o, em, eo, e1, e2⟩ := pos i j hs
        exact hv o e1
      · rw [fpn i hn] at z
        exact st.out i (fun v ev => hv v (by rw [spill_out (notin i hn)]; exact ev)) a z
    · rcases pl i with ⟨j, hs⟩ | hn <;> rcases pl l with ⟨j', hs'⟩ | hn'
      · rw [fpb i j hs] at z
        rw [fpb l j' hs'] at w
        refine st'.dj j j' a (fun e => il ?_) z w
        subst e
        rw [hs] at hs'
        cases hs'; rfl
      · rw [fpb i j hs] at z
        rw [fpn l hn'] at w
        rcases ex.fnew j a z with f | ⟨m, f⟩
        · exact (st.mu w).1.some f
        · exact noc l a hn' w m f
      · rw [fpn i hn] at z
        rw [fpb l j' hs'] at w
        rcases ex.fnew j' a w with f | ⟨m, f⟩
        · exact (st.mu z).1.some f
        · exact noc i a hn z m f
      · rw [fpn i hn] at z
        rw [fpn l hn'] at w
        exact st.dj i l a il z w
  have up : ∀ a, (∃ l, fpCall ss fp l a) → ∃ i, fp i a := fun a ⟨l, m, _, z⟩ => ⟨m, z⟩
  have S2 : Ext false F fp H F' (fpBack ss fp fp') H' := {
    sub := ex.sub
    fz := ex.fz
    same := fun a n h => ex.same a n (.inr fun l z => (h.resolve_left (by simp)) _ (up a ⟨l, z⟩).choose_spec)
    new := fun a h => by
      rcases ex.new a h with f | f | ⟨_, f⟩
      · exact .inl f
      · exact .inr (.inl f)
      · exact .inr (.inr ⟨rfl, up a f⟩)
    fnew := fun i a z => by
      rcases z with ⟨j, _, z⟩ | ⟨_, z⟩
      · rcases ex.fnew j a z with f | f
        · exact .inl f
        · exact .inr (up a f)
      · exact .inr ⟨i, z⟩
    pure := fun h => by cases h }
  refine ⟨S1, S2, fun hio => ?_⟩
  have none' : ∀ i j : Nat, ss[j]? ≠ some (some i) := fun i j hs => by
    have := c.io2 j i hs
    rw [hio] at this; cases this
  have nocall : ∀ l a, ¬ fpCall ss fp l a := fun l a ⟨m, hm, _⟩ => none' m l hm
  exact {
    sub := ex.sub
    fz := ex.fz
    same := fun a n _ => ex.same a n (.inr fun l => nocall l a)
    new := fun a h => by
      rcases ex.new a h with f | f | ⟨_, l, f⟩
      · exact .inl f
      · exact .inr (.inl f)
      · exact absurd f (nocall l a)
    fnew := S2.fnew
    pure := fun _ => funext fun i => fpn i (none' i) }
theorem XWish.call {ss : List (Option Nat)} {c : Nat} {vs : List Val} (x : XWish S E fp H c vs) : XWish S E (fpCall ss fp) H c vs := fun cls d H2 r h =>
  x cls d H2 r fun a n z => h a n fun l w => by
    obtain ⟨m, _, w⟩ := w
    exact z m w
theorem call_imp {X : Cx} {n f : Nat} {fi : FInfo} {ss : List (Option Nat)} {ts : MP.Es} {io : List (Nat × Nat)} {Q : VK} (c : CallOk Γ ss io fi) (hb : b = true → io = []) (h : tE X.K C.S Γ b fi.ret E (evE (C.S.gl n) (.call f ts io)) σ H Q) :
    tCallG C.S X.K n f fi E (tArg X.K C.S Γ b ss E (evEs (C.S.gl n) ts)) σ H Q := by
  obtain ⟨F, fp, ρ, st, q⟩ := h
  have q : RSat ((evEs (C.S.gl n) ts ρ).bind fun x => (fill x.2 x.1 io).bind fun ws => (callN C.S.prog n f ws).bind fun r => if r.2.length = io.length then .ok (r.1, spill x.2 io r.2) else .stuck) _ _ := q
  refine ⟨F, fp, ρ, st, ?_⟩
  rw [RSat.bind] at q
  refine q.mono (fun o _ q F1 fp1 H1 ps st1 ex1 pu1 ar => ?_) fun _ _ x => x
  rw [RSat.bind] at q
  cases ef : fill o.2 o.1 io with
  | stuck => rw [ef] at q; exact q.elim
  | exc c vs => exact absurd ef (fill_nox c vs)
  | ok ws =>
    rw [ef] at q
    obtain ⟨l1, l2, stc⟩ := call_start st1 c ar ef
    refine ⟨l2, F1, fpCall ss fp1, ws, l1, l2, stc, ?_⟩
    have q : RSat ((callN C.S.prog n f ws).bind fun r => if r.2.length = io.length then .ok (r.1, spill o.2 io r.2) else .stuck) _ _ := q
    rw [RSat.bind] at q
    refine q.mono (fun r _ q F' fp' fr H' p st' ex' ow hf => ?_) fun _ _ x => (x.ext ex1).call
    by_cases ho : r.2.length = io.length
    · rw [if_pos ho] at q
      obtain ⟨s2, e2, e3⟩ := call_end st1 c ar ef ho st' ex'
      have exb : Ext b F1 fp1 H1 F' (fpBack ss fp1 fp') H' := by
        cases hb' : b with
        | false => exact e2
        | true => exact e3 (hb hb')
      refine q F' (fpBack ss fp1 fp') fr H' p s2 (ex1.trans exb) (fun e => ?_) ow fun a z => ⟨?_, fun i w => ?_⟩
      · have : io = [] := hb e
        subst this
        show spill o.2 [] r.2 = ρ
        rw [← pu1 e]
        unfold spill; rfl
      · refine ex1.back ?_
        rcases (hf a z).1 with w | ⟨l, m, hm, w⟩
        · exact .inl w
        · refine .inr ⟨?_, m, w⟩
          cases hb' : b with
          | false => rfl
          | true =>
            have := c.io2 l m hm
            rw [hb hb'] at this; cases this
      · rcases w with ⟨j, _, w⟩ | ⟨hn, w⟩
        · exact (hf a z).2 j w
        · rcases (hf a z).1 with y | ⟨l, m, hm, y⟩
          · exact (st1.mu w).1.some y
          · by_cases e : i = m
            · subst e; exact hn l hm
            · exact st1.dj i m a e w y
    · rw [if_neg ho] at q; exact q.elim
theorem je_call {f : Nat} {fi : FInfo} {ss : List (Option Nat)} {e : Expr} {es : List Expr} {ts : MP.Es} {io : List (Nat × Nat)} {p pos : Pos} (hf : C.S.fns[f]? = some fi) (hg : C.sc.names.lookup fi.name = some .globalImplicit) (hdb : (fi.name == ("__debug__" : PySem.Str)) = false)
    (hs : NoStar e) (hpl : ∀ env : PySem.Env, (backTo pos (starEach es env)).any (·.1) = false) (c : CallOk Γ ss io fi) (hb : b = true → io = []) (ha : JA C Γ b ss (e :: es) ts) : JE C Γ b fi.ret (.Call (.Name fi.name p) (e :: es) [] pos) (.call f ts io) :=
  fun cx => (pe_callG cx hf hg hdb hs hpl (ha cx)).imp fun _ _ _ q => call_imp c hb q
theorem tArg_nil {Q : List V → Hp → Prop} {G : Gl} (h : tArg K S Γ b [] E (evEs G .nil) σ H Q) : tNil σ H Q := by
  obtain ⟨F, fp, ρ, st, q⟩ := h
  exact q F fp H [] st (Ext.refl b) (fun _ => rfl) .nil
theorem je_call0 {f : Nat} {fi : FInfo} {p pos : Pos} (hf : C.S.fns[f]? = some fi) (hg : C.sc.names.lookup fi.name = some .globalImplicit) (hdb : (fi.name == ("__debug__" : PySem.Str)) = false) (c : CallOk Γ [] [] fi) : JE C Γ b fi.ret (.Call (.Name fi.name p) [] [] pos) (.call f .nil []) :=
  fun cx => (pe_callG0 cx hf hg hdb).imp fun _ _ _ q => tArg_nil (call_imp c (fun _ => rfl) q)
/-! ### a def keeps its promise -/
/-- how a def lies in the interpreter's program -/
structure DefOk (S : Stat) (f : Nat) (fi : FInfo) (d : MP.Def) (N : List PySem.Str) : Prop where
  def_ : S.prog.defs[f]? = some d
  np : d.np = fi.np
  ns : d.ns = N.length
  io : d.io = fi.io.map (·.1)
  le : fi.np ≤ N.length
  iol : ∀ q ∈ fi.io, q.1 < fi.np
  md : ∀ q ∈ fi.io, (modes fi.np fi.io).getD q.1 0 = q.2
  nio : ∀ j, (∀ q ∈ fi.io, q.1 ≠ j) → (modes fi.np fi.io).getD j 0 = 0
  nd : (fi.io.map (·.1)).Nodup
theorem outs_at : ∀ {is : List Nat} {os : List Val}, outsOf ρ is = .ok os → os.length = is.length ∧ ∀ (m i : Nat), is[m]? = some i → ρ[i]? = (os[m]?).map some
  | [], os, e => by cases e; exact ⟨rfl, fun m i h => by simp at h⟩
  | i :: is, os, e => by
    obtain ⟨v, e1, e⟩ := bind_ok (show ((get ρ i).bind fun v => (outsOf ρ is).bind fun vs => .ok (v :: vs)) = .ok os from e)
    obtain ⟨vs, e2, e⟩ := bind_ok e
    cases e
    obtain ⟨h1, h2⟩ := outs_at e2
    refine ⟨by simp [h1], fun m j hm => ?_⟩
    cases m with
    | zero => simp at hm; subst hm; rw [get_ok e1]; rfl
    | succ m => simpa using h2 m j (by simpa using hm)
/-- what is left of a def's slots for its caller -/
theorem def_end {fi : FInfo} {d : MP.Def} {N : List PySem.Str} {f : Nat} {os : List Val} {ps : List V} {Γr : List Nat} {σ' : L2.St} {F0 : AS} {fp0 : Nat → AS} {H0 : Hp} (D : DefOk S f fi d N) (hps : ps.length = fi.np) (st : Stt K Γr F' fp' ρ σ' H') (hΓ : ∀ q ∈ fi.io, Γr.getD q.1 0 = q.2) (ho : outsOf ρ d.io = .ok os)
    (hσ : ∀ q ∈ fi.io, σ'[q.1]? = (L2.start N ps)[q.1]?) (ex : Ext false F0 fp0 H0 F' fp' H') :
    ∃ fp2, Stt K (modes fi.np fi.io) F' fp2 (spill (List.replicate fi.np none) (fi.io.map fun q => (q.1, q.1)) os) (ps.map some) H' ∧ Ext false F0 fp0 H0 F' fp2 H' ∧ ∀ i a, fp2 i a → fp' i a := by
  obtain ⟨ol, oa⟩ := outs_at ho
  rw [D.io] at ol oa
  let fp2 : Nat → AS := fun i a => (∃ q ∈ fi.io, q.1 = i) ∧ fp' i a
  have e2 : ∀ q ∈ fi.io, fp2 q.1 = fp' q.1 := fun q hq => funext fun a => propext ⟨fun z => z.2, fun z => ⟨⟨q, hq, rfl⟩, z⟩⟩
  have inn : ∀ q ∈ fi.io, (spill (List.replicate fi.np none) (fi.io.map fun q => (q.1, q.1)) os)[q.1]? = ρ[q.1]? := fun q hq => by
    obtain ⟨m, hm, em⟩ := List.getElem_of_mem hq
    have h3 : (fi.io.map fun q => (q.1, q.1))[m]? = some (q.1, q.1) := by rw [List.getElem?_map, List.getElem?_eq_getElem hm, em]; rfl
    have h4 : (fi.io.map (·.1))[m]? = some q.1 := by rw [List.getElem?_map, List.getElem?_eq_getElem hm, em]; rfl
    rw [spill_in (q := (q.1, q.1)) (by rw [ol]; simp) (by rw [List.map_map]; exact D.nd) h3 (by rw [List.length_replicate]; exact D.iol q hq), oa m q.1 h4]
  have outn : ∀ i, (∀ q ∈ fi.io, q.1 ≠ i) → ∀ v, (spill (List.replicate fi.np none) (fi.io.map fun q => (q.1, q.1)) os)[i]? ≠ some (some v) := fun i hn v ev => by
    rw [spill_out (by
      intro hi
      rw [List.map_map] at hi
      obtain ⟨q, hq, e⟩ := List.mem_map.mp hi
      exact hn q hq e), List.getElem?_replicate] at ev
    split at ev <;> cases ev
  have cs : ∀ i, (∃ q ∈ fi.io, q.1 = i) ∨ ∀ q ∈ fi.io, q.1 ≠ i := fun i => by
    by_cases h : ∃ q ∈ fi.io, q.1 = i
    · exact .inl h
    · exact .inr fun q hq e => h ⟨q, hq, e⟩
  refine ⟨fp2, ⟨fun i v ev => ?_, fun i hv a z => ?_, fun i j a ij z w => st.dj i j a ij z.2 w.2, st.tr, by rw [spill_len, List.length_replicate, List.length_map, hps]⟩, ?_, fun i a z => z.2⟩
  · rcases cs i with ⟨q, hq, rfl⟩ | hn
    · rw [inn q hq] at ev
      obtain ⟨p, ep, ow⟩ := st.rep q.1 v ev
      rw [hσ q hq] at ep
      have hlt : q.1 < ps.length := by rw [hps]; exact D.iol q hq
      unfold L2.start at ep
      rw [List.getElem?_append_left (by simpa using hlt)] at ep
      refine ⟨p, ep, ?_⟩
      rw [e2 q hq, D.md q hq, ← hΓ q hq]
      exact ow
    · exact absurd ev (outn i hn v)
  · obtain ⟨⟨q, hq, rfl⟩, z⟩ := z
    exact st.out q.1 (fun v ev => hv v (by rw [inn q hq]; exact ev)) a z
  · exact ⟨ex.sub, ex.fz, ex.same, ex.new, fun i a z => ex.fnew i a z.2, fun h => by cases h⟩
theorem outs_nox : ∀ {is : List Nat}, NoX (outsOf ρ is)
  | [] => nox_ok _
  | i :: is => nox_bind get_ne fun _ => nox_bind outs_nox fun _ => nox_ok _
theorem outs_congr {ρ1 ρ2 : MP.Env} : ∀ {is : List Nat}, (∀ i ∈ is, ρ1[i]? = ρ2[i]?) → outsOf ρ1 is = outsOf ρ2 is
  | [], _ => rfl
  | i :: is, h => by
    have e1 : get ρ1 i = get ρ2 i := by unfold get; rw [h i List.mem_cons_self]
    show ((get ρ1 i).bind fun v => (outsOf ρ1 is).bind fun vs => .ok (v :: vs)) = ((get ρ2 i).bind fun v => (outsOf ρ2 is).bind fun vs => .ok (v :: vs))
    rw [e1, outs_congr fun j hj => h j (List.mem_cons_of_mem _ hj)]
theorem modes_len (np : Nat) (io : List (Nat × Nat)) : (modes np io).length = np := by
  unfold modes
  have : ∀ (l : List Nat), (io.foldl (fun m q => m.set q.1 q.2) l).length = l.length := by
    induction io with
    | nil => intro l; rfl
    | cons q io ih => intro l; rw [List.foldl_cons, ih, List.length_set]
  rw [this, List.length_replicate]
/-- the slots at the entry -/
theorem start_stt {fi : FInfo} {N : List PySem.Str} {vals : List Val} {ps : List V} (st : Stt K (modes fi.np fi.io) F fp (vals.map some) (ps.map some) H) (hv : vals.length = fi.np) (hps : ps.length = fi.np) (hN : fi.np ≤ N.length) :
    Stt K (modes fi.np fi.io ++ List.replicate (N.length - fi.np) 0) F fp (vals.map some ++ List.replicate (N.length - fi.np) none) (L2.start N ps) H := by
  have hlen := modes_len fi.np fi.io
  refine ⟨fun i v ev => ?_, fun i hv' a z => ?_, st.dj, st.tr, by unfold L2.start; simp [hv, hps]⟩
  · by_cases hi : i < fi.np
    · rw [List.getElem?_append_left (by simp; omega)] at ev
      obtain ⟨p, ep, ow⟩ := st.rep i v ev
      refine ⟨p, by unfold L2.start; rw [List.getElem?_append_left (by simp; omega)]; exact ep, ?_⟩
      rw [List.getD_eq_getElem?_getD, List.getElem?_append_left (by omega), ← List.getD_eq_getElem?_getD]
      exact ow
    · rw [List.getElem?_append_right (by simp; omega), List.getElem?_replicate] at ev
      split at ev <;> cases ev
  · by_cases hi : i < fi.np
    · exact st.out i (fun v ev => hv' v (by rw [List.getElem?_append_left (by simp; omega)]; exact ev)) a z
    · exact st.out i (fun v ev => by rw [List.getElem?_eq_none (by simp; omega)] at ev; cases ev) a z
theorem guards_deeper (A : Around) (env : PySem.Env) : (A.deeper env).guards = A.guards := rfl
theorem fnG_zero {P : Program} {w : World} {mg : PySem.Str → Option Value} {base : Heap} {R : Rt} {f : Nat} {fi : FInfo} : FnG P w K mg base S R 0 f fi := by
  intro A outer s H args us vs Q E _ _ _ _ _ h
  obtain ⟨_, _, _, _, _, _, h⟩ := h
  exact h.elim
theorem fnG_of {P : Program} {w : World} {mg : PySem.Str → Option Value} {base : Heap} {R : Rt} {n f : Nat} {fi : FInfo} {d : MP.Def} {N : List PySem.Str} {name qual : PySem.Str} {params : Arguments} {body : List Stmt} {scope : Scope} {dV kV doc pm cdv ct oc : Value} {an od : Option Addr} {osl : Array (Option Value)} {Γ0 Γe : List Nat}
    (lk : K.lookup (R.fa f) = some ⟨oc, od, .func (PySem.W.fnOf name qual params body scope dV kV doc pm an cdv ct), osl⟩) (hfd : R.fd f = PySem.W.fnOf name qual params body scope dV kV doc pm an cdv ct) (hcd : PySem.W.codeIn K cdv qual = true) (Sc : FnScope N (R.ps f) scope)
    (D : DefOk S f fi d N) (gl : GlOk K mg S R) (hps : (R.ps f).length = fi.np) (hcalls : ∀ (f : Nat) (fi : FInfo), S.fns[f]? = some fi → FnG P w K mg base S R n f fi)
    (hbody : JSs ⟨S, N, scope, fun _ => true, fi.io, fi.ret, []⟩ Γ0 body d.body Γe) (hΓ0 : Γ0 = modes fi.np fi.io ++ List.replicate (N.length - fi.np) 0) (hΓe : fi.io.all (fun q => Γe.getD q.1 0 == q.2) = true) : FnG P w K mg base S R (n + 1) f fi := by
  intro A outer s H args us vs Q E hr hg e0 hb r sp
  obtain ⟨F, fp, vals, lv, lp, st, h⟩ := sp
  have KX : K.In s.heap := e0.mod.kin.keeps fun b o e => (e0.bs b o e).1
  have lim : s.heap.NoLimit := e0.mod.nolimit.keeps fun b o e => (e0.bs b o e).1
  rw [hfd] at hb
  refine codeAny_call_function hr.depth (KX _ _ lk) rfl Sc.co Sc.gen rfl (PySem.W.codeRec_of KX hcd) (hb _ _ _ _ ?_)
  refine wpAny_newFunctionEnv_cells Sc.kind (fun y hy => ?_) fun env he s1 x => ?_
  · rcases Sc.par y.1 (List.of_mem_zip (a := y.1) (b := y.2) hy).1 with q | q
    · exact .inl q
    · exact .inr ⟨q, PySem.W.cellsFrom_some _ _ _ (.inl q)⟩
  subst he
  refine ⟨lim.keeps x.toInCall.keep, codeAny_func ?_⟩
  let X := cxOf (L2.CX P w) P w K mg base N qual scope (R.fa f) cdv A outer s H E
  have I : Inv X [] (L2.start N vs) H s1 := inv_start Sc hr.hd e0 (by rw [lp, hps]) r x
  have cx : CxOk S R n N scope (fun _ => true) E X := {
    gl := gl
    fn := hcalls
    names := rfl
    nd := Sc.nd
    scope := rfl
    calm := rfl
    room := hr.deeper _
    guards := hg
    pass := passes_call (takes_of (X := X) (E := E) rfl rfl rfl rfl) fun _ _ _ _ h => h
    own := passes_of (X := X) rfl
    fnq := fun _ _ => rfl }
  have body := hbody cx
  have hcall : callN S.prog (n + 1) f vals = (evSs (S.gl n) d.body (vals.map some ++ List.replicate (N.length - fi.np) none)).bind fun o => match o.1 with
      | .next => (outsOf o.2 d.io).bind fun os => .ok (.none, os)
      | .ret v => (outsOf o.2 d.io).bind fun os => .ok (v, os)
      | .brk => .stuck := by
    show (match S.prog.defs[f]? with | some d => runDef (S.gl n) d vals | none => .stuck) = _
    rw [D.def_]
    show runDef (S.gl n) d vals = _
    unfold runDef
    rw [if_pos (by rw [lv, D.np]), D.ns, D.np]
    all_goals cases evSs (S.gl n) d.body (vals.map some ++ List.replicate (N.length - fi.np) none) with
    | ok o => obtain ⟨fl, ρ⟩ := o; cases fl <;> rfl
    | exc _ _ => rfl
    | stuck => rfl
  rw [hcall, RSat.bind] at h
  have s0 := start_stt (N := N) st lv lp D.le
  rw [← hΓ0] at s0
  have pre : tS K ⟨S, N, scope, fun _ => true, fi.io, fi.ret, []⟩ Γ0 Γe E (evSs (S.gl n) d.body) { nx := fun _ H' => Q .non H', rt := Q } (L2.start N vs) H := by
    refine ⟨F, fp, _, s0, h.mono (fun o _ h => ?_) fun _ _ x => x⟩
    obtain ⟨fl, ρ'⟩ := o
    cases fl with
    | brk => exact h.elim
    | next =>
      intro F' fp' σ' H' st' ex io
      have h : RSat ((outsOf ρ' d.io).bind fun os => Res.ok (Val.none, os)) _ _ := h
      rw [RSat.bind] at h
      cases eo : outsOf ρ' d.io with
      | stuck => rw [eo] at h; exact h.elim
      | exc c us => exact absurd eo (outs_nox c us)
      | ok os =>
        rw [eo] at h
        obtain ⟨fp2, s2, e2, sub⟩ := def_end D lp st' (fun q hq => eq_of_beq (List.all_eq_true.mp hΓe q hq)) eo io ex
        exact h F' fp2 (fun _ => False) H' .non s2 e2 (.imm .non rfl _) fun _ z => z.elim
    | ret v =>
      intro ρr Γr F' fp' fr σ' H' p io st' ex ow hf
      have h : RSat ((outsOf ρ' d.io).bind fun os => .ok (v, os)) _ _ := h
      rw [RSat.bind] at h
      cases eo : outsOf ρ' d.io with
      | stuck => rw [eo] at h; exact h.elim
      | exc c us => exact absurd eo (outs_nox c us)
      | ok os =>
        rw [eo] at h
        have eo' : outsOf ρr d.io = .ok os := by
          rw [← eo, D.io]
          exact outs_congr fun i hi => by
            obtain ⟨q, hq, rfl⟩ := List.mem_map.mp hi
            exact (io q hq).2.1
        obtain ⟨fp2, s2, e2, sub⟩ := def_end D lp st' (fun q hq => (io q hq).1) eo' (fun q hq => (io q hq).2.2) ex
        exact h F' fp2 fr H' p s2 e2 ow fun a z => ⟨(hf a z).1, fun i w => (hf a z).2 i (sub i a w)⟩
  refine wpAny_mono (body.run [] s1 (L2.start N vs) H _ I pre) (fun fl s' hs => ?_) fun e s' hs => hs
  have fin : ∀ {σ' : L2.St} {H' : Hp} {v : V} {u : Value}, Inv X [] σ' H' s' → RelV v u → Q v H' → CE outer P w H s Q u s' := fun {σ' H' v u} J rv q => ⟨v, H', J.os, J.bare, J.base, J.hok, rv, q⟩
  cases fl with
  | ret u => obtain ⟨v, σ', H', J, rv, q⟩ := hs; exact fin J rv q
  | next => obtain ⟨σ', H', J, q⟩ := hs; exact fin (v := V.non) (u := Value.none) J rfl q
  | brk => obtain ⟨_, _, _, q⟩ := hs; exact q.elim
  | cont => obtain ⟨_, _, _, q⟩ := hs; exact q.elim
end
end MP
/-! MiniPy against the hand layer: what changes a list, a dict -/
namespace MP
open L2 PySem.Spec PySem PyProof.Rows

section
variable {K : Fg} {S : Stat} {Γ Γ' Γ1 Γ2 : List Nat} {F F' : AS} {fp fp' : Nat → AS} {ρ : MP.Env} {σ : L2.St} {H H' : Hp} {b fz : Bool} {k : Nat} {E : XK} {C : Ct}
/-- a slot's own object is written -/
theorem Stt.write {i : Nat} {a : Addr} {o' : Val} {ho : HO} (s : Stt K Γ F fp ρ σ H) {o : Val} (hρ : ρ[i]? = some (some o)) (hσ : σ[i]? = some (some (.ref a))) (hf : fp i a)
    (ow : Keeps F H (upd H a ho) → Own K F (upd H a ho) (Γ.getD i 0) o' (.ref a) (fp i)) : Stt K Γ F fp (put ρ i o') σ (upd H a ho) ∧ Ext false F fp H F fp (upd H a ho) := by
  have mu := s.mu hf
  have kp : Keeps F H (upd H a ho) := ⟨fun x ps r => by rw [upd_ne (fun e => by subst e; exact mu.1.notup r)]; exact r, fun x u f r => by
    have : x ≠ a := fun e => by subst e; exact mu.2 f
    unfold Rd at r ⊢
    rw [upd_ne this]; exact r⟩
  have hil := (List.getElem?_eq_some_iff.mp hρ).1
  refine ⟨⟨fun j v e => ?_, fun j hv x z => ?_, s.dj, fun x f => ?_, by unfold put; rw [List.length_set]; exact s.len⟩, ⟨fun _ z => z, kp.fz, fun x n h => upd_ne fun e => ?_, fun _ z => .inl z, fun j x z => .inr ⟨j, z⟩, fun h => by cases h⟩⟩
  · unfold put at e
    by_cases hj : i = j
    · subst hj
      rw [List.getElem?_set_self hil] at e
      cases e
      exact ⟨_, hσ, ow kp⟩
    · rw [List.getElem?_set_ne hj] at e
      obtain ⟨p, ep, q⟩ := s.rep j v e
      exact ⟨p, ep, q.mono kp (fun _ z => z) (fun x z => upd_ne fun e => by subst e; exact s.dj i j x hj hf z) fun x z => (s.mu z).2⟩
  · by_cases hj : i = j
    · subst hj
      exact hv o' (by unfold put; rw [List.getElem?_set_self hil])
    · exact s.out j (fun v e => hv v (by unfold put; rw [List.getElem?_set_ne hj]; exact e)) x z
  · rw [upd_ne (fun e => by subst e; exact mu.2 f)]; exact s.tr x f
  · subst e
    exact (h.resolve_left (by simp)) i hf
theorem own1_lst {vs : List Val} {p : V} {fr : AS} (h : Own K F H 1 (.lst vs) p fr) : ∃ a ps, p = .ref a ∧ H a = some (.lst ps) ∧ ¬ F a ∧ FRs K F H vs ps ∧ fr a ∧ ∀ x, fr x ↔ x = a := by
  obtain ⟨a, ps, fps, e, ha, nf, hl, hi, dj, na, ob, hf⟩ := h
  have em : ∀ i x, ¬ fps i x := fun i x z => by
    by_cases hlt : i < vs.length
    · have h2 : i < ps.length := by omega
      exact (hi i vs[i] ps[i] (by simp [hlt]) (by simp [h2])).2 x z
    · exact ob i (by omega) x z
  exact ⟨a, ps, e, ha, nf, .of_get hl fun i v p h1 h2 => (hi i v p h1 h2).1, (hf a).mpr (.inl rfl), fun x => ⟨fun z => ((hf x).mp z).elim id fun ⟨i, z⟩ => absurd z (em i x), fun z => (hf x).mpr (.inl z)⟩⟩
theorem own1_new {vs : List Val} {a : Addr} {ps : List V} {fr : AS} (h : H a = some (.lst ps)) (nf : ¬ F a) (hs : FRs K F H vs ps) (hf : ∀ x, fr x ↔ x = a) : Own K F H 1 (.lst vs) (.ref a) fr := by
  have e : fr = fun x => x = a := funext fun x => propext (hf x)
  rw [e]
  exact Own.newL h nf hs
/-! ### methods of lists -/
/-- what a method's rule must give -/
def PM (K : Fg) (r : V → List V → Hp → VK → Prop) (m : Mut) : Prop := ∀ (F : AS) (H : Hp) (a : Addr) (xs : List V) (vs us : List Val) (qs : List V) (o' v : Val) (Q : VK), H a = some (.lst xs) → ¬ F a → FRs K F H vs xs → FRs K F H us qs →
  mutate m (.lst vs) us = .ok (o', v) → (∀ vs' xs' pv, o' = .lst vs' → FRs K F H vs' xs' → FR K F H v pv → Q pv (upd H a (.lst xs'))) → r (.ref a) qs H Q
theorem pm_append (K : Fg) : PM K rAppend .append := by
  intro F H a xs vs us qs o' v Q ha nf rs rq e hq
  match us, e, rq with
  | [u], e, .cons f .nil =>
    have e : (if vs.length < big then Res.ok (Val.lst (vs ++ [u]), Val.none) else .stuck) = .ok (o', v) := e
    split at e
    · cases e
      refine ⟨a, xs, _, rfl, rfl, ha, ?_, hq _ _ .non rfl (rs.append (.one f)) .non⟩
      rw [← rs.length]
      exact Nat.lt_of_lt_of_le (by assumption) big_line
    · cases e
  | [], e, _ => cases e
  | _ :: _ :: _, e, _ => cases e
def rExtR (K : Fg) : V → List V → Hp → VK → Prop := fun x vs H Q => ∃ l b xs zs, x = .ref l ∧ vs = [.ref b] ∧ H l = some (.lst xs) ∧ Rd H b (.lst zs) ∧ xs.length + zs.length ≤ sizeLine ∧ Q .non (upd H l (.lst (xs ++ zs)))
theorem mt_extR {X : Cx} : MtR X "list.extend" (rExtR X.K) := by
  intro pins s σ H x vs v us Q I rx rv h
  obtain ⟨l, b, xs, zs, rfl, rfl, hH, hB, hz, q⟩ := h
  cases rx
  obtain ⟨u, rfl, ru⟩ := rv.one
  cases ru
  obtain ⟨z, its, n, r, hl, e⟩ := I.lstM hH
  obtain ⟨_, jts, m, r2, e2⟩ := hB.ok I.hok
  have hl2 := r2.length
  have room : its.toArray.size + jts.toArray.size ≤ sizeLine := by simp only [List.size_toArray]; omega
  refine call_meets F.slot_list_extend ⟨_, e, rfl⟩ F.entry_list_extend (F.args_list_extend_2 _ _)
    (AutoSeq1.list_extend_list_list_0 l its.toArray n b jts.toArray m (by rw [notLongL room, Bool.and_false]; exact Bool.false_ne_true) (by simp only [List.size_toArray]; omega) (by omega)) ⟨e, e2, .non, _, I.lset (its' := its ++ jts) hH e (by simp) (r.append r2) ?_, rfl, q⟩
  rw [List.length_append]; omega
theorem pm_extend (K : Fg) : PM K (rExtR K) .extend := by
  intro F H a xs vs us qs o' v Q ha nf rs rq e hq
  cases us with
  | nil => cases e
  | cons u us => cases us with
  | cons _ _ => cases u <;> cases e
  | nil =>
    cases u <;> first | (cases e; done) | skip
    rename_i us
    cases rq with
    | cons f r =>
    cases r
    have e : (if vs.length + us.length ≤ big then Res.ok (Val.lst (vs ++ us), Val.none) else .stuck) = .ok (o', v) := e
    split at e
    · cases e
      cases f with
      | lst fb r fs =>
        refine ⟨a, _, xs, _, rfl, rfl, ha, r, ?_, hq _ _ .non rfl (rs.append fs) .non⟩
        rw [← rs.length, ← fs.length]
        exact Nat.le_trans (by assumption) big_line
    · cases e
theorem seqIx {n : Nat} {i : Int} {j : Nat} (h : place n i = some j) : seqIndex? i n = some j ∧ j < n ∧ -(n : Int) ≤ i ∧ i < n := ixN_seq h
theorem FRs.dropLast {vs : List Val} {ps : List V} (h : FRs K F H vs ps) : FRs K F H vs.dropLast ps.dropLast := by
  rw [List.dropLast_eq_take, List.dropLast_eq_take, h.length]
  exact h.take _
theorem FRs.eraseIdx : ∀ {vs : List Val} {ps : List V} (i : Nat), FRs K F H vs ps → FRs K F H (vs.eraseIdx i) (ps.eraseIdx i)
  | _, _, _, .nil => .nil
  | _, _, 0, .cons _ t => t
  | _, _, i + 1, .cons h t => .cons h (t.eraseIdx i)
theorem pm_pop (K : Fg) : PM K (fun x vs H Q => rPop x vs H Q ∨ rPopAt x vs H Q) .pop := by
  intro F H a xs vs us qs o' v Q ha nf rs rq e hq
  have hl := rs.length
  match us, e, rq with
  | [], e, .nil =>
    obtain ⟨w, e1, e⟩ := bind_ok (show ((orStuck vs.getLast?).bind fun v => Res.ok (Val.lst vs.dropLast, v)) = .ok (o', v) from e)
    cases e
    have e1 := orStuck_ok e1
    rw [List.getLast?_eq_getElem?] at e1
    obtain ⟨p, hp, f⟩ := rs.at e1
    exact .inl ⟨a, xs, p, rfl, rfl, ha, by rw [← hl]; exact hp, hq _ _ p rfl rs.dropLast f⟩
  | [u], e, .cons f .nil =>
    cases u <;> first | (cases e; done) | skip
    rename_i i
    have e : (if small63 i = true then (orStuck (place vs.length i)).bind fun j => (orStuck vs[j]?).bind fun v => Res.ok (Val.lst (vs.eraseIdx j), v) else .stuck) = .ok (o', v) := e
    split at e
    · rename_i h63
      obtain ⟨j, e1, e⟩ := bind_ok e
      obtain ⟨w, e2, e⟩ := bind_ok e
      cases e
      cases FR.intS f
      obtain ⟨h1, h2, h3, h4⟩ := seqIx (orStuck_ok e1)
      obtain ⟨p, hp, g⟩ := rs.at (orStuck_ok e2)
      rw [hl] at h1
      have hk := small63_of h63
      exact .inr ⟨a, xs, i, j, p, rfl, rfl, ha, hk.1, hk.2, h1, hp, hq _ _ p rfl (rs.eraseIdx j) g⟩
    · cases e
  | u :: _ :: _, e, _ => cases u <;> cases e
/-! ### the expression -/
theorem nox_mutL {m : Mut} {vs : List Val} {us : List Val} : NoX (mutate m (.lst vs) us) := by
  intro c ws h
  unfold mutate at h
  split at h <;> first
    | cases h
    | (split at h <;> cases h)
    | (exact absurd h (nox_bind (nox_orStuck _) (fun _ => nox_ok _) c ws))
    | (split at h
       · exact absurd h (nox_bind (nox_orStuck _) (fun _ => nox_bind (nox_orStuck _) fun _ => nox_ok _) c ws)
       · cases h)
    | (split at h
       · exact absurd h (nox_bind (nox_orStuck _) (fun _ => nox_ok _) c ws)
       · cases h)
theorem isLst_of {v : Val} (h : isLst v = true) : ∃ vs, v = .lst vs := by
  cases v <;> first | exact ⟨_, rfl⟩ | cases h
/-- what is wanted of the slot: a list of its own -/
theorem mut_imp {X : Cx} {m : Mut} {r : V → List V → Hp → VK → Prop} {ss : List (Option Nat)} {i n : Nat} {ts : MP.Es} {Q : VK} (hr : PM X.K r m) (hn : ∀ s ∈ ss, s = none) (h1 : Γ.getD i 0 = 1)
    (h : tE X.K C.S Γ false 0 E (evE (C.S.gl n) (.mtc m i ts)) σ H Q) : ∃ v, σ[i]? = some (some v) ∧ tyV X.K "list" v H ∧ tArg X.K C.S Γ false ss E (evEs (C.S.gl n) ts) σ H fun qs H1 => r v qs H1 Q := by
  obtain ⟨F, fp, ρ, st, q⟩ := h
  have q : RSat ((get ρ i).bind fun o0 => if isLst o0 = true then (evEs (C.S.gl n) ts ρ).bind fun vs => (get vs.2 i).bind fun o => if isLst o = true then (mutate m o vs.1).bind fun u => .ok (u.2, put vs.2 i u.1) else .stuck else .stuck) _ _ := q
  rw [RSat.bind] at q
  cases e0 : get ρ i with
  | stuck => rw [e0] at q; exact q.elim
  | exc c vs => exact absurd e0 (get_ne c vs)
  | ok o0 =>
    rw [e0] at q
    cases hl0 : isLst o0 with
    | false => simp only [RSat, hl0] at q; exact q.elim
    | true =>
      obtain ⟨vs0, rfl⟩ := isLst_of hl0
      obtain ⟨v, ev, ow⟩ := st.rep i _ (get_ok e0)
      rw [h1] at ow
      obtain ⟨a, xs, rfl, ha, nf, rs, fa, hfa⟩ := own1_lst ow
      refine ⟨.ref a, ev, .inl ⟨rfl, xs, .inl (.inl ha)⟩, F, fp, ρ, st, ?_⟩
      have q : RSat ((evEs (C.S.gl n) ts ρ).bind fun vs => (get vs.2 i).bind fun o => if isLst o = true then (mutate m o vs.1).bind fun u => .ok (u.2, put vs.2 i u.1) else .stuck) _ _ := q
      rw [RSat.bind] at q
      refine q.mono (fun o _ q F1 fp1 H1 qs st1 ex1 pu1 ar => ?_) fun _ _ x => x
      rw [RSat.bind] at q
      cases e1 : get o.2 i with
      | stuck => rw [e1] at q; exact q.elim
      | exc c vs => exact absurd e1 (get_ne c vs)
      | ok o1 =>
        rw [e1] at q
        cases hl1 : isLst o1 with
        | false => simp only [RSat, hl1] at q; exact q.elim
        | true =>
          obtain ⟨vs1, rfl⟩ := isLst_of hl1
          obtain ⟨v1, ev1, ow1⟩ := st1.rep i _ (get_ok e1)
          rw [ev] at ev1
          cases ev1
          rw [h1] at ow1
          obtain ⟨a', xs1, e, ha1, nf1, rs1, fa1, hfa1⟩ := own1_lst ow1
          cases e
          have q : RSat ((mutate m (.lst vs1) o.1).bind fun u => .ok (u.2, put o.2 i u.1)) _ _ := q
          rw [RSat.bind] at q
          cases em : mutate m (.lst vs1) o.1 with
          | stuck => rw [em] at q; exact q.elim
          | exc c vs => exact absurd em (nox_mutL c vs)
          | ok u =>
            rw [em] at q
            obtain ⟨o', w⟩ := u
            refine hr F1 H1 a xs1 vs1 o.1 qs o' w Q ha1 nf1 rs1 (ar.frs hn) em fun vs' xs' pv eo rs' fv => ?_
            subst eo
            obtain ⟨st2, ex2⟩ := st1.write (i := i) (a := a) (o' := .lst vs') (ho := .lst xs') (get_ok e1) ev fa1 fun kp => by
              rw [h1]
              exact own1_new upd_same nf1 (rs'.mono kp fun _ z => z) hfa1
            have kp2 : Keeps F1 H1 (upd H1 a (.lst xs')) := st1.keeps ex2
            exact q F1 fp1 (fun _ => False) (upd H1 a (.lst xs')) pv st2 (ex1.trans ex2) (fun h => by cases h) (.zero (fv.mono kp2 fun _ z => z)) fun _ z => z.elim
theorem je_mut {m : Mut} {r : Cx → V → List V → Hp → VK → Prop} {ss : List (Option Nat)} {i : Nat} {x name : PySem.Str} {id : String} {p apos cpos : Pos} {e : Expr} {es : List Expr} {ts : MP.Es} (pa : PlainAttrs "list") (slot : Slot "list" name id) (hty : typeOf (.builtin id) = pure (.type "method_descriptor"))
    (hm : ∀ X, MtR X id (r X)) (hr : ∀ X : Cx, PM X.K (r X) m) (hN : C.N[i]? = some x) (hv : Vis C.sc x) (h1 : Γ.getD i 0 = 1) (hn : ∀ s ∈ ss, s = none) (hs : NoStar e)
    (hbase : ∀ env : PySem.Env, attributeBase (.Name x p) name env (eval (.Name x p) env) = eval (.Name x p) env)
    (hfew : ∀ env : PySem.Env, ((backTo cpos (starEach (e :: es) env)).all (fun x => !x.1) && (backToKw cpos (keywordEach [] env)).all (fun x => x.1.isSome)
      && decide ((e :: es).length + ([] : List Keyword).length + (if ([] : List Keyword).isEmpty then 0 else 1) < 30)) = true)
    (hline : (apos.endLine == cpos.line) = true) (hplain : ∀ env : PySem.Env, (backTo cpos (starEach es env)).any (·.1) = false) (ha : JA C Γ false ss (e :: es) ts) (hd : (x == ("__debug__" : PySem.Str)) = false := by decide) (hcd : (x == ("__classdict__" : PySem.Str)) = false := by decide) :
    JE C Γ false 0 (.Call (.Attribute (.Name x p) name apos) (e :: es) [] cpos) (.mtc m i ts) := by
  intro n R E X cx
  refine (pe_bm pa slot hty (hm X) (pe_var (i := i) (by rw [cx.names]; exact hN) (by rw [cx.scope]; exact hv) hd hcd) (ha cx) (hbase X.env) (hfew X.env) hline (hs es X.env) (hplain X.env)).imp fun σ H Q q => ?_
  obtain ⟨v, ev, ty, q⟩ := mut_imp (hr X) hn h1 q
  exact ⟨v, ev, ty, q⟩
theorem je_mut0 {m : Mut} {r : Cx → V → List V → Hp → VK → Prop} {i : Nat} {x name : PySem.Str} {id : String} {p apos cpos : Pos} (pa : PlainAttrs "list") (slot : Slot "list" name id) (hty : typeOf (.builtin id) = pure (.type "method_descriptor"))
    (hm : ∀ X, MtR X id (r X)) (hr : ∀ X : Cx, PM X.K (r X) m) (hN : C.N[i]? = some x) (hv : Vis C.sc x) (h1 : Γ.getD i 0 = 1)
    (hbase : ∀ env : PySem.Env, attributeBase (.Name x p) name env (eval (.Name x p) env) = eval (.Name x p) env)
    (hline : (apos.endLine == cpos.line) = true) (hd : (x == ("__debug__" : PySem.Str)) = false := by decide) (hcd : (x == ("__classdict__" : PySem.Str)) = false := by decide) :
    JE C Γ false 0 (.Call (.Attribute (.Name x p) name apos) [] [] cpos) (.mtc m i .nil) := by
  intro n R E X cx
  refine (pe_bm0 pa slot hty (hm X) (pe_var (i := i) (by rw [cx.names]; exact hN) (by rw [cx.scope]; exact hv) hd hcd) (hbase X.env) hline).imp fun σ H Q q => ?_
  obtain ⟨v, ev, ty, q⟩ := mut_imp (ss := []) (hr X) (fun s h => by cases h) h1 q
  exact ⟨v, ev, ty, tArg_nil q⟩
abbrev je_append := @je_mut
end
end MP
/-! MiniPy against the hand layer: x[i] = v, x op= v, unpacking, parallel stores -/
namespace MP
open L2 PySem.Spec PySem PyProof.Rows

section
variable {K : Fg} {S : Stat} {Γ Γ' Γ1 Γ2 : List Nat} {F F' : AS} {fp fp' : Nat → AS} {ρ : MP.Env} {σ : L2.St} {H H' : Hp} {b fz : Bool} {k : Nat} {E : XK} {C : Ct}
/-! ### dict stores -/
theorem any_key (k : Key) : ∀ {kvs : List (Val × Val)} {kps : List (Key × V)}, FRk K F H kvs kps → (kvs.any fun kv => veq kv.1 (kval k)) = kps.any fun kp => decide (kp.1 = k)
  | _, _, .nil => rfl
  | _, _, .cons e h t => by rw [List.any_cons, List.any_cons, any_key k t, veq_kval]
theorem any_keyT (k : List Key) : ∀ {kvs : List (Val × Val)} {kps : List (List Key × V)}, FRt K F H kvs kps → (kvs.any fun kv => veq kv.1 (.tup (k.map kval))) = kps.any fun kp => decide (kp.1 = k)
  | _, _, .nil => rfl
  | _, _, .cons (k := j) e h t => by
    rw [List.any_cons, List.any_cons, any_keyT k t]
    have e2 : veq (.tup (j.map kval)) (.tup (k.map kval)) = decide (j = k) := by rw [veq]; exact veqs_kval j k
    rw [e2]
theorem FRk.snoc {k : Key} {v : Val} {p : V} (ok : kvOk k = true) (f : FR K F H v p) : ∀ {kvs : List (Val × Val)} {kps : List (Key × V)}, FRk K F H kvs kps → FRk K F H (kvs ++ [(kval k, v)]) (kps ++ [(k, p)])
  | _, _, .nil => .cons ok f .nil
  | _, _, .cons e h t => .cons e h (t.snoc ok f)
theorem FRt.snoc {k : List Key} {v : Val} {p : V} (ok : k.all kvOk = true) (f : FR K F H v p) : ∀ {kvs : List (Val × Val)} {kps : List (List Key × V)}, FRt K F H kvs kps → FRt K F H (kvs ++ [(.tup (k.map kval), v)]) (kps ++ [(k, p)])
  | _, _, .nil => .cons ok f .nil
  | _, _, .cons e h t => .cons e h (t.snoc ok f)
theorem FRk.repl {k : Key} {v : Val} {p : V} (f : FR K F H v p) : ∀ {kvs : List (Val × Val)} {kps : List (Key × V)}, FRk K F H kvs kps → FRk K F H (kvs.map fun kv => if veq kv.1 (kval k) then (kv.1, v) else kv) (kps.map fun kp => if kp.1 = k then (kp.1, p) else kp)
  | _, _, .nil => .nil
  | _, _, .cons (k := j) e h t => by
    have ih := t.repl (k := k) f
    rw [List.map_cons, List.map_cons, veq_kval]
    by_cases z : j = k
    · rw [decide_eq_true z, if_pos rfl, if_pos z]; exact .cons e f ih
    · rw [decide_eq_false z, if_neg (by simp), if_neg z]; exact .cons e h ih
theorem FRt.repl {k : List Key} {v : Val} {p : V} (f : FR K F H v p) : ∀ {kvs : List (Val × Val)} {kps : List (List Key × V)}, FRt K F H kvs kps → FRt K F H (kvs.map fun kv => if veq kv.1 (.tup (k.map kval)) then (kv.1, v) else kv) (kps.map fun kp => if kp.1 = k then (kp.1, p) else kp)
  | _, _, .nil => .nil
  | _, _, .cons (k := j) e h t => by
    have ih := t.repl (k := k) f
    rw [List.map_cons, List.map_cons]
    have e2 : veq (.tup (j.map kval)) (.tup (k.map kval)) = decide (j = k) := by rw [veq]; exact veqs_kval j k
    simp only [e2]
    by_cases z : j = k
    · rw [decide_eq_true z, if_pos rfl, if_pos z]; exact .cons e f ih
    · rw [decide_eq_false z, if_neg (by simp), if_neg z]; exact .cons e h ih
theorem FRk.put {k : Key} {v : Val} {p : V} {kvs : List (Val × Val)} {kps : List (Key × V)} (ok : kvOk k = true) (f : FR K F H v p) (r : FRk K F H kvs kps) : FRk K F H (dput kvs (kval k) v) (putK kps k p) := by
  unfold dput putK
  rw [any_key k r]
  split
  · exact r.repl f
  · exact r.snoc ok f
theorem FRt.put {k : List Key} {v : Val} {p : V} {kvs : List (Val × Val)} {kps : List (List Key × V)} (ok : k.all kvOk = true) (f : FR K F H v p) (r : FRt K F H kvs kps) : FRt K F H (dput kvs (.tup (k.map kval)) v) (putK kps k p) := by
  unfold dput putK
  rw [any_keyT k r]
  split
  · exact r.repl f
  · exact r.snoc ok f
/-- o[i] = v of a list, of a dict -/
def rSetX : TSet := fun o i v H Q => rSetL o i v H Q ∨ ∃ a H', o = .ref a ∧ DPut H a i v H' ∧ Q H'
theorem set_any {X : Cx} (hu : X.A.units + 1 < cLine) : PSet X rSetX := by
  intro pins s σ H o i v ov iv u Q I ro ri rv h
  rcases h with h | ⟨a, H', rfl, g, q⟩
  · exact set_list pins s σ H o i v ov iv u Q I ro ri rv h
  · cases ro
    exact d_setItem hu I g ri rv fun s' I' => ⟨H', I', q⟩
theorem own1_dict {kvs : List (Val × Val)} {p : V} {fr : AS} (h : Own K F H 1 (.dict kvs) p fr) : ∃ a kps, p = .ref a ∧ H a = some (.dK kps) ∧ ¬ F a ∧ FRk K F H kvs kps ∧ ∀ x, fr x ↔ x = a := by
  obtain ⟨a, kps, e, nf, ha, r, hf⟩ := h
  exact ⟨a, kps, e, ha, nf, r, hf⟩
theorem own1_dicT {kvs : List (Val × Val)} {p : V} {fr : AS} (h : Own K F H 1 (.dicT kvs) p fr) : ∃ a kps, p = .ref a ∧ H a = some (.dT kps) ∧ ¬ F a ∧ FRt K F H kvs kps ∧ ∀ x, fr x ↔ x = a := by
  obtain ⟨a, kps, e, nf, ha, r, hf⟩ := h
  exact ⟨a, kps, e, ha, nf, r, hf⟩
theorem nox_setItem (o i v : Val) : NoX (setItem o i v) := by
  intro c us h
  unfold setItem at h
  split at h <;> first
    | cases h
    | (split at h <;> first
        | cases h
        | exact absurd h (nox_bind (nox_orStuck _) (fun _ => nox_ok _) c us))
/-- the slot's own list or dict, at one place -/
theorem set_rule {i : Nat} {o j v o' : Val} {po pj pv : V} {Q : Hp → Prop} (st : Stt K Γ F fp ρ σ H) (h1 : Γ.getD i 0 = 1) (hρ : ρ[i]? = some (some o)) (hσ : σ[i]? = some (some po)) (bj : B1 K F H j pj) (fv : FR K F H v pv) (e : setItem o j v = .ok o')
    (hq : ∀ H', Stt K Γ F fp (put ρ i o') σ H' → Ext false F fp H F fp H' → Q H') : rSetX po pj pv H Q := by
  obtain ⟨p, ep, ow⟩ := st.rep i o hρ
  rw [hσ] at ep
  cases ep
  rw [h1] at ow
  cases o with
  | lst vs =>
    obtain ⟨a, ps, rfl, ha, nf, rs, fa, hfa⟩ := own1_lst ow
    cases j <;> simp only [setItem] at e <;> first | (cases e; done) | skip
    obtain ⟨m, e1, e⟩ := bind_ok e
    cases e
    cases B1.of_int bj
    refine .inl ⟨a, ps, _, m, rfl, rfl, ha, by rw [← rs.length]; exact orStuck_ok e1, ?_⟩
    obtain ⟨s2, x2⟩ := st.write (o' := .lst (vs.set m v)) (ho := .lst (ps.set m pv)) hρ hσ fa fun kp => by
      rw [h1]
      exact own1_new upd_same nf ((FRs.set fv m rs).mono kp fun _ z => z) hfa
    exact hq _ s2 x2
  | dict kvs =>
    obtain ⟨a, kps, rfl, ha, nf, r, hfa⟩ := own1_dict ow
    simp only [setItem] at e
    split at e
    · rename_i hk
      rw [Bool.and_eq_true, decide_eq_true_eq] at hk
      cases e
      obtain ⟨kk, rfl, rfl, ok⟩ := key_flat hk.1 bj
      refine .inr ⟨a, _, rfl, .k ha (by rw [← r.length]; exact Nat.lt_of_lt_of_le hk.2 big_line), ?_⟩
      obtain ⟨s2, x2⟩ := st.write (o' := .dict (dput kvs (kval kk) v)) (ho := .dK (putK kps kk pv)) hρ hσ ((hfa a).mpr rfl) fun kp => by
        rw [h1]
        exact ⟨a, _, rfl, nf, upd_same, (r.put ok fv).mono kp fun _ z => z, hfa⟩
      exact hq _ s2 x2
    · cases e
  | dicT kvs =>
    obtain ⟨a, kps, rfl, ha, nf, r, hfa⟩ := own1_dicT ow
    simp only [setItem] at e
    split at e
    · rename_i hk
      rw [Bool.and_eq_true, decide_eq_true_eq] at hk
      cases e
      obtain ⟨js, b, rfl, rfl, hb, ok⟩ := key_tup hk.1 bj
      refine .inr ⟨a, _, rfl, .t ha hb (by rw [← r.length]; exact Nat.lt_of_lt_of_le hk.2 big_line), ?_⟩
      obtain ⟨s2, x2⟩ := st.write (o' := .dicT (dput kvs (.tup (js.map kval)) v)) (ho := .dT (putK kps js pv)) hρ hσ ((hfa a).mpr rfl) fun kp => by
        rw [h1]
        exact ⟨a, _, rfl, nf, upd_same, (r.put ok fv).mono kp fun _ z => z, hfa⟩
      exact hq _ s2 x2
    · cases e
  | _ => cases j <;> cases e
theorem js_sti {i : Nat} {x : PySem.Str} {p tp pos : Pos} {e j : Expr} {te tj : MP.E} (hN : C.N[i]? = some x) (hv : Vis C.sc x) (h1 : Γ.getD i 0 = 1) (he : JE C Γ b 0 e te) (hj : JB C Γ true j tj)
    (hs : ∀ env : PySem.Env, swapsWithSole [.Subscript (.Name x p) j tp] e pos.line env = pure false) (hw : ∀ env : PySem.Env, swappedStores [.Subscript (.Name x p) j tp] e env = pure none)
    (hm : ∀ env : PySem.Env, (assignEach [.Subscript (.Name x p) j tp] env).map (·.2) = [assign (.Subscript (.Name x p) j tp) env])
    (hg : ∀ (env : PySem.Env) v, assign (.Subscript (.Name x p) j tp) env v = (do
      let ov ← holding [v] (eval (.Name x p) env)
      let iv ← holding [v, ov] (eval j env)
      standAt tp
      holding [v, ov, iv] (PySem.setItem ov iv v)
      release [v, ov, iv] [])) (hd : (x == ("__debug__" : PySem.Str)) = false := by decide) (hcd : (x == ("__classdict__" : PySem.Str)) = false := by decide) :
    JS C Γ (.Assign [.Subscript (.Name x p) j tp] e pos) (.sti i tj te) Γ := by
  intro n R E X cx
  have hu : X.A.units + 1 < cLine := by have := cx.u64; omega
  refine (ps_asg (he cx) (pg_sub (pe_var (i := i) (by rw [cx.names]; exact hN) (by rw [cx.scope]; exact hv) hd hcd) (hj cx) (set_any hu) (hg X.env)) (hs X.env) (hw X.env) (hm X.env)).imp fun D σ H q => ?_
  refine tE_S (f := fun x => (get x.2 i).bind fun o => (evE (C.S.gl n) tj x.2).bind fun j => (setItem o j.1 x.1).bind fun o => .ok (.next, put j.2 i o)) (Γ' := Γ) (C := C) (D := D) q fun F fp ρ F1 fp1 H1 o p fr st st1 ex1 ow hf q => ?_
  have q : RSat ((get o.2 i).bind fun o1 => (evE (C.S.gl n) tj o.2).bind fun j => (setItem o1 j.1 o.1).bind fun w => Res.ok (MP.Flow.next, put j.2 i w)) (Owes X.K C Γ D F fp σ H) (XWish C.S E fp H) := q
  rw [RSat.bind] at q
  cases e0 : get o.2 i with
  | stuck => rw [e0] at q; exact q.elim
  | exc c vs => exact absurd e0 (get_ne c vs)
  | ok o1 =>
    rw [e0] at q
    obtain ⟨p1, ep1, ow1⟩ := st1.rep i o1 (get_ok e0)
    refine ⟨p1, ep1, F1, fp1, o.2, st1, ?_⟩
    have q : RSat ((evE (C.S.gl n) tj o.2).bind fun j => (setItem o1 j.1 o.1).bind fun w => Res.ok (MP.Flow.next, put j.2 i w)) _ _ := q
    rw [RSat.bind] at q
    refine q.mono (fun oj _ q F2 fp2 H2 pj st2 ex2 pu2 bj => ?_) fun _ _ x => x.ext ex1
    have e2 : oj.2 = o.2 := pu2 rfl
    rw [RSat.bind] at q
    cases es : setItem o1 oj.1 o.1 with
    | stuck => rw [es] at q; exact q.elim
    | exc c vs => exact absurd es (nox_setItem _ _ _ c vs)
    | ok o' =>
      rw [es] at q
      refine set_rule st2 h1 (by rw [e2]; exact get_ok e0) ep1 bj (ow.1.mono (st1.keeps ex2) ex2.sub) es fun H' s3 x3 => ?_
      exact q F2 fp2 σ H' s3 ((ex1.trans ex2.weak).trans x3) fun _ _ => rfl
/-! ### x op= v, of texts and numbers, of frozen things -/
def rIadd : TIp := fun x y H Q => rI0 (fun i j => .int (i + j)) x y H Q ∨ ∃ i j, x = .str i ∧ y = .str j ∧ i.length + j.length ≤ sizeLine ∧ Q (.str (i ++ j)) H
/-- unpacking a tuple into targets -/
theorem js_unp {tg e : Expr} {t : MP.T} {te : MP.E} {pos : Pos} (he : JE C Γ b 0 e te) (hg : JG C Γ tg t) (hio : C.io.all (fun q => !t.has q.1) = true)
    (hs : ∀ env : PySem.Env, swapsWithSole [tg] e pos.line env = pure false) (hw : ∀ env : PySem.Env, swappedStores [tg] e env = pure none) (hm : ∀ env : PySem.Env, (assignEach [tg] env).map (·.2) = [assign tg env]) : JS C Γ (.Assign [tg] e pos) (.unp t te) Γ := by
  intro n R E X cx
  refine (ps_asg (he cx) (hg cx) (hs X.env) (hw X.env) (hm X.env)).imp fun D σ H q => ?_
  refine tE_S (f := fun x => (orStuck (bindT t x.1 x.2)).bind fun ρ => .ok (.next, ρ)) (Γ' := Γ) (C := C) (D := D) q fun F fp ρ F1 fp1 H1 o p fr st st1 ex1 ow hf q => ?_
  have q : RSat ((orStuck (bindT t o.1 o.2)).bind fun ρ => Res.ok (MP.Flow.next, ρ)) (Owes X.K C Γ D F fp σ H) (XWish C.S E fp H) := q
  rw [RSat.bind] at q
  cases e1 : bindT t o.1 o.2 with
  | none => rw [e1] at q; exact q.elim
  | some ρ' =>
    rw [e1] at q
    exact ⟨F1, fp1, o.2, o.1, ρ', st1, ow.1, e1, fun σ' s' hσ => q F1 fp1 σ' H1 s' ex1 fun r hr => hσ r.1 (by simpa using List.all_eq_true.mp hio r hr)⟩
end
end MP
/-! MiniPy against the hand layer: a, b, .. = x, y, .. -/
namespace MP
open L2 PySem.Spec PySem PyProof.Rows

/-- values at hand, each owned to its depth, apart from one another -/
inductive OwnL (K : Fg) (F : AS) (H : Hp) : List Nat → List Val → List V → List AS → Prop
  | nil : OwnL K F H [] [] [] []
  | cons {k : Nat} {v : Val} {p : V} {f : AS} {ks : List Nat} {vs : List Val} {ps : List V} {fs : List AS} : Own K F H k v p f → OwnL K F H ks vs ps fs → (∀ a, f a → ∀ g ∈ fs, ¬ g a) → OwnL K F H (k :: ks) (v :: vs) (p :: ps) (f :: fs)
def tOL (K : Fg) (S : Stat) (Γ : List Nat) (b : Bool) (ks : List Nat) (E : XK) (r : MP.Env → Res (List Val × MP.Env)) : TA := fun σ H Q => ∃ F fp ρ, Stt K Γ F fp ρ σ H ∧ RSat (r ρ) (fun o => ∀ F' fp' H' ps fs, Stt K Γ F' fp' o.2 σ H' → Ext b F fp H F' fp' H' → (b = true → o.2 = ρ) →
  OwnL K F' H' ks o.1 ps fs → (∀ f ∈ fs, ∀ a, f a → (H a = none ∨ (b = false ∧ ∃ i, fp i a)) ∧ ∀ i, ¬ fp' i a) → Q ps H') (XWish S E fp H)
def JO (C : Ct) (Γ : List Nat) (b : Bool) (ks : List Nat) (es : List Expr) (ts : MP.Es) : Prop := ∀ {n R E X}, CxOk C.S R n C.N C.sc C.fn E X → PA X es (tOL X.K C.S Γ b ks E (evEs (C.S.gl n) ts))
section
variable {K : Fg} {S : Stat} {Γ Γ' Γ1 Γ2 : List Nat} {F F' : AS} {fp fp' : Nat → AS} {ρ : MP.Env} {σ : L2.St} {H H' : Hp} {b fz : Bool} {k : Nat} {E : XK} {C : Ct}
theorem OwnL.length {ks : List Nat} {vs : List Val} {ps : List V} {fs : List AS} (h : OwnL K F H ks vs ps fs) : vs.length = ks.length ∧ ps.length = ks.length ∧ fs.length = ks.length := by
  induction h with
  | nil => exact ⟨rfl, rfl, rfl⟩
  | cons _ _ _ ih => simp [ih.1, ih.2.1, ih.2.2]
theorem OwnL.mono {ks : List Nat} {vs : List Val} {ps : List V} {fs : List AS} (kp : Keeps F H H') (hF : ∀ a, F a → F' a) (h : OwnL K F H ks vs ps fs) : (∀ f ∈ fs, ∀ a, f a → H' a = H a ∧ ¬ F' a) → OwnL K F' H' ks vs ps fs := by
  induction h with
  | nil => exact fun _ => .nil
  | cons ow _ dj ih => exact fun hh => .cons (ow.mono kp hF (fun a z => (hh _ List.mem_cons_self a z).1) fun a z => (hh _ List.mem_cons_self a z).2) (ih fun f hf => hh f (List.mem_cons_of_mem _ hf)) dj
theorem OwnL.mus {ks : List Nat} {vs : List Val} {ps : List V} {fs : List AS} (h : OwnL K F H ks vs ps fs) : ∀ f ∈ fs, ∀ a, f a → IsMu H a ∧ ¬ F a := by
  induction h with
  | nil => exact fun f hf => by cases hf
  | cons ow _ _ ih =>
    intro f hf a z
    rcases List.mem_cons.mp hf with rfl | hf
    · exact ow.mu a z
    · exact ih f hf a z
theorem jo_nil : JO C Γ b [] [] .nil := fun cx => ⟨fun pos pins s σ H Q I q => pa_nil.run pos pins s σ H Q I (by
  obtain ⟨F, fp, ρ, st, q⟩ := q
  exact q F fp H [] [] st (Ext.refl b) (fun _ => rfl) .nil fun f hf => by cases hf)⟩
theorem jo_cons {ks : List Nat} {e : Expr} {es : List Expr} {t : MP.E} {ts : MP.Es} (hs : NoStar e) (h : JE C Γ b k e t) (hr : JO C Γ b ks es ts) : JO C Γ b (k :: ks) (e :: es) (.cons t ts) := by
  intro n R E X cx
  refine (pa_cons (h cx) (hr cx) (hs es X.env)).imp fun σ H Q q => ?_
  obtain ⟨F, fp, ρ, st, q⟩ := q
  have q : RSat ((evE (C.S.gl n) t ρ).bind fun x => (evEs (C.S.gl n) ts x.2).bind fun xs => .ok (x.1 :: xs.1, xs.2)) _ _ := q
  refine ⟨F, fp, ρ, st, ?_⟩
  rw [RSat.bind] at q
  refine q.mono (fun o _ q F1 fp1 fr H1 p st1 ex1 pu1 ow hf => ⟨F1, fp1, o.2, st1, ?_⟩) fun _ _ x => x
  rw [RSat.bind] at q
  refine q.mono (fun o2 _ q F2 fp2 H2 ps fs st2 ex2 pu2 ol hfs => ?_) fun _ _ x => x.ext ex1
  have stay : ∀ a, fr a → H2 a = H1 a := fun a z => ex2.same a (ow.mu a z).1.some (.inr (hf a z).2)
  have nF2 : ∀ a, fr a → ¬ F2 a := fun a z w => by
    rcases ex2.new a w with w | w | ⟨_, i, w⟩
    · exact (ow.mu a z).2 w
    · exact (ow.mu a z).1.some w
    · exact (hf a z).2 i w
  refine q F2 fp2 H2 _ (fr :: fs) st2 (ex1.trans ex2) (fun e => (pu2 e).trans (pu1 e)) (.cons (ow.mono (st1.keeps ex2) ex2.sub stay nF2) ol fun a z g hg w => ?_) fun f hfm a z => ?_
  · rcases (hfs g hg a w).1 with y | ⟨_, i, y⟩
    · exact (ow.mu a z).1.some y
    · exact (hf a z).2 i y
  · rcases List.mem_cons.mp hfm with rfl | hfm
    · refine ⟨(hf a z).1, fun i w => ?_⟩
      rcases ex2.fnew i a w with y | ⟨j, y⟩
      · exact (ow.mu a z).1.some y
      · exact (hf a z).2 j y
    · exact ⟨ex1.back (hfs f hfm a z).1, (hfs f hfm a z).2⟩
/-- what the slots are owned to afterwards -/
def setsΓ : List Nat → List Nat → List Nat → List Nat
  | Γ, i :: is, k :: ks => setsΓ (Γ.set i k) is ks
  | Γ, _, _ => Γ
def setsσ : L2.St → List Nat → List V → L2.St
  | σ, i :: is, p :: ps => setsσ (σ.set i (some p)) is ps
  | σ, _, _ => σ
def setsOk : List Nat → List Nat → List Nat → Bool
  | Γ, i :: is, k :: ks => (Γ.set i k).getD i 0 == k && setsOk (Γ.set i k) is ks
  | _, [], [] => true
  | _, _, _ => false
theorem sets_stt : ∀ {is ks : List Nat} {vs : List Val} {ps : List V} {fs : List AS} {Γ : List Nat} {fp : Nat → AS} {ρ ρ' : MP.Env} {σ : L2.St}, Stt K Γ F fp ρ σ H → OwnL K F H ks vs ps fs → setsOk Γ is ks = true → (∀ f ∈ fs, ∀ a, f a → ∀ i, ¬ fp i a) → puts ρ is vs = .ok ρ' →
    ∃ fp', Stt K (setsΓ Γ is ks) F fp' ρ' (setsσ σ is ps) H ∧ ∀ i a, fp' i a → (∃ j, fp j a) ∨ ∃ f ∈ fs, f a
  | [], ks, vs, ps, fs, Γ, fp, ρ, ρ', σ, st, ol, ok, hf, e => by
    cases ol with
    | nil =>
      cases e
      exact ⟨fp, st, fun i a z => .inl ⟨i, z⟩⟩
    | cons _ _ _ => simp [setsOk] at ok
  | i :: is, ks, vs, ps, fs, Γ, fp, ρ, ρ', σ, st, ol, ok, hf, e => by
    cases ol with
    | nil => simp [setsOk] at ok
    | cons ow ol dj =>
      rename_i k v p f ks vs ps fs
      simp only [setsOk, Bool.and_eq_true, beq_iff_eq] at ok
      have e : puts (put ρ i v) is vs = .ok ρ' := e
      have st1 := st.set (i := i) (k := k) (v := v) (p := p) (fr := f) (by rw [ok.1]; exact ow) fun a z j => hf f List.mem_cons_self a z j
      obtain ⟨fp', s', h'⟩ := sets_stt st1 ol ok.2 (fun g hg a z j w => by
        by_cases c : j = i ∧ i < ρ.length
        · rw [if_pos c] at w; exact dj a w g hg z
        · rw [if_neg c] at w; exact hf g (List.mem_cons_of_mem _ hg) a z j w) e
      refine ⟨fp', s', fun j a z => ?_⟩
      rcases h' j a z with ⟨l, w⟩ | ⟨g, hg, w⟩
      · by_cases c : l = i ∧ i < ρ.length
        · rw [if_pos c] at w; exact .inr ⟨f, List.mem_cons_self, w⟩
        · rw [if_neg c] at w; exact .inl ⟨l, w⟩
      · exact .inr ⟨g, List.mem_cons_of_mem _ hg, w⟩
theorem setsσ_io {is : List Nat} (h : ∀ i ∈ is, C.io.all (fun q => q.1 != i) = true) : ∀ {ps : List V} {σ : L2.St} {q : Nat × Nat}, q ∈ C.io → (setsσ σ is ps)[q.1]? = σ[q.1]? := by
  induction is with
  | nil => intro ps σ q hq; cases ps <;> rfl
  | cons i is ih =>
    intro ps σ q hq
    cases ps with
    | nil => rfl
    | cons p ps =>
      show (setsσ (σ.set i (some p)) is ps)[q.1]? = _
      rw [ih (fun j hj => h j (List.mem_cons_of_mem _ hj)) hq]
      exact noio (h i List.mem_cons_self) hq
/-- the stores' end, seen from the statement -/
theorem par_imp {X : Cx} {n : Nat} {is ks : List Nat} {ts : MP.Es} {D : Ends} (hio : is.all (fun i => C.io.all fun q => q.1 != i) = true) (ok : setsOk Γ is ks = true) (h : tS X.K C Γ (setsΓ Γ is ks) E (evS (C.S.gl n) (.par is ts)) D σ H) :
    tOL X.K C.S Γ false ks E (evEs (C.S.gl n) ts) σ H fun ps H1 => ps.length = ks.length ∧ ∀ H2, (∀ a, H1 a ≠ none → H2 a = H1 a) → D.nx (setsσ σ is ps) H2 := by
  obtain ⟨F, fp, ρ, st, q⟩ := h
  have q : RSat ((evEs (C.S.gl n) ts ρ).bind fun o => (puts o.2 is o.1).bind fun ρ => .ok (MP.Flow.next, ρ)) (Owes X.K C (setsΓ Γ is ks) D F fp σ H) (XWish C.S E fp H) := q
  refine ⟨F, fp, ρ, st, ?_⟩
  rw [RSat.bind] at q
  refine q.mono (fun o _ q F1 fp1 H1 ps fs st1 ex1 _ ol hf => ⟨ol.length.2.1, fun H2 al => ?_⟩) fun _ _ x => x
  have q : RSat ((puts o.2 is o.1).bind fun ρ => .ok (MP.Flow.next, ρ)) _ _ := q
  rw [RSat.bind] at q
  obtain ⟨st2, ex2⟩ := st1.alloc (b := false) al
  have mus := ol.mus
  have ol2 := ol.mono (keeps_same al) (fun _ z => z) fun f hfm a z => ⟨al a (mus f hfm a z).1.some, (mus f hfm a z).2⟩
  cases ep : puts o.2 is o.1 with
  | stuck => rw [ep] at q; exact q.elim
  | exc c vs => exact absurd ep (by
      clear q
      have : ∀ (is : List Nat) (ρ : MP.Env) (vs : List Val), NoX (puts ρ is vs) := by
        intro is
        induction is with
        | nil => intro ρ vs c us e; cases vs <;> cases e
        | cons i is ih => intro ρ vs c us e; cases vs with
          | nil => cases e
          | cons v vs => exact ih _ _ c us e
      exact this is o.2 o.1 c vs)
  | ok ρ' =>
    rw [ep] at q
    obtain ⟨fp', s', h'⟩ := sets_stt st2 ol2 ok (fun f hfm a z i => (hf f hfm a z).2 i) ep
    have ex12 := ex1.trans ex2
    refine q F1 fp' _ H2 s' ⟨ex12.sub, ex12.fz, ex12.same, ex12.new, fun i a z => ?_, fun h => by cases h⟩ fun r hr => setsσ_io (fun i hi => List.all_eq_true.mp hio i hi) hr
    rcases h' i a z with ⟨j, w⟩ | ⟨f, hfm, w⟩
    · exact ex12.fnew j a w
    · exact (hf f hfm a w).1.imp id fun w => w.2
theorem js_par2 {i j k l : Nat} {x y : PySem.Str} {a e : Expr} {ts : MP.Es} {px py pt : Pos} {kt k2 pt2} {pos : Pos} (hN1 : C.N[i]? = some x) (hN2 : C.N[j]? = some y) (hij : i ≠ j) (hx : C.sc.names.lookup x = some .local) (hy : C.sc.names.lookup y = some .local)
    (hio : [i, j].all (fun i => C.io.all fun q => q.1 != i) = true) (ok : setsOk Γ [i, j] [k, l] = true)
    (hw : ∀ env : PySem.Env, env.scope = C.sc → swappedStores [.Tuple [.Name x px, .Name y py] kt pt] (.Tuple [a, e] k2 pt2) env = pure (some [x, y]))
    (hs : ∀ env : PySem.Env, swapsWithSole [.Tuple [.Name x px, .Name y py] kt pt] (.Tuple [a, e] k2 pt2) pos.line env = pure false) (h : JO C Γ false [k, l] [a, e] ts) :
    JS C Γ (.Assign [.Tuple [.Name x px, .Name y py] kt pt] (.Tuple [a, e] k2 pt2) pos) (.par [i, j] ts) (setsΓ Γ [i, j] [k, l]) := by
  intro n R E X cx
  refine (ps_par cx.calm (by rw [cx.names]; exact cx.nd) (by rw [cx.names]; exact hN1) (by rw [cx.names]; exact hN2) hij (by rw [cx.scope]; exact hx) (by rw [cx.scope]; exact hy) (h cx) (hw X.env cx.scope) (hs X.env)).imp fun D σ H q => ?_
  obtain ⟨F, fp, ρ, st, q⟩ := par_imp hio ok q
  refine ⟨F, fp, ρ, st, q.mono (fun o _ q F1 fp1 H1 ps fs s1 ex pu ol hf => ?_) fun _ _ x => x⟩
  obtain ⟨l1, q⟩ := q F1 fp1 H1 ps fs s1 ex pu ol hf
  match ps, l1 with
  | [p, r], _ => exact ⟨p, r, rfl, q H1 fun _ _ => rfl⟩
theorem js_par3 {i j l k1 k2 k3 : Nat} {x y z : PySem.Str} {a e c : Expr} {ts : MP.Es} {px py pz pt : Pos} {kt kk pt2} {pos : Pos} (hN1 : C.N[i]? = some x) (hN2 : C.N[j]? = some y) (hN3 : C.N[l]? = some z) (hij : i ≠ j) (hil : i ≠ l) (hjl : j ≠ l)
    (hx : C.sc.names.lookup x = some .local) (hy : C.sc.names.lookup y = some .local) (hz : C.sc.names.lookup z = some .local) (hio : [i, j, l].all (fun i => C.io.all fun q => q.1 != i) = true) (ok : setsOk Γ [i, j, l] [k1, k2, k3] = true)
    (hw : ∀ env : PySem.Env, env.scope = C.sc → swappedStores [.Tuple [.Name x px, .Name y py, .Name z pz] kt pt] (.Tuple [a, e, c] kk pt2) env = pure (some [x, y, z]))
    (hs : ∀ env : PySem.Env, swapsWithSole [.Tuple [.Name x px, .Name y py, .Name z pz] kt pt] (.Tuple [a, e, c] kk pt2) pos.line env = pure false) (h : JO C Γ false [k1, k2, k3] [a, e, c] ts) :
    JS C Γ (.Assign [.Tuple [.Name x px, .Name y py, .Name z pz] kt pt] (.Tuple [a, e, c] kk pt2) pos) (.par [i, j, l] ts) (setsΓ Γ [i, j, l] [k1, k2, k3]) := by
  intro n R E X cx
  refine (ps_par3 cx.calm (by rw [cx.names]; exact cx.nd) (by rw [cx.names]; exact hN1) (by rw [cx.names]; exact hN2) (by rw [cx.names]; exact hN3) hij hil hjl (by rw [cx.scope]; exact hx) (by rw [cx.scope]; exact hy) (by rw [cx.scope]; exact hz) (h cx) (hw X.env cx.scope) (hs X.env)).imp fun D σ H q => ?_
  obtain ⟨F, fp, ρ, st, q⟩ := par_imp hio ok q
  refine ⟨F, fp, ρ, st, q.mono (fun o _ q F1 fp1 H1 ps fs s1 ex pu ol hf => ?_) fun _ _ x => x⟩
  obtain ⟨l1, q⟩ := q F1 fp1 H1 ps fs s1 ex pu ol hf
  match ps, l1 with
  | [p, r, t], _ => exact ⟨p, r, t, rfl, q H1 fun _ _ => rfl⟩
/-- the targets of a plain parallel store -/
def gNames : List Nat → L2.TGs
  | [] => gNil
  | i :: is => gCons (gName i) (gNames is)
inductive PNames (C : Ct) : List Expr → List Nat → Prop
  | nil : PNames C [] []
  | cons {x : PySem.Str} {pos : Pos} {i : Nat} {es : List Expr} {is : List Nat} : C.N[i]? = some x → StOk C x = true → (∀ env : PySem.Env, (assignEach (.Name x pos :: es) env).map (·.2) = assign (.Name x pos) env :: (assignEach es env).map (·.2)) → PNames C es is → PNames C (.Name x pos :: es) (i :: is)
theorem pgs_names {R : Rt} {n : Nat} {X : Cx} (cx : CxOk C.S R n C.N C.sc C.fn E X) {es : List Expr} {is : List Nat} (h : PNames C es is) : PGs X es (gNames is) := by
  induction h with
  | nil => exact pgs_nil
  | cons hN hx hs _ ih => exact pgs_cons (pg_name (by rw [cx.names]; exact cx.nd) (by rw [cx.names]; exact hN) (StOk.loc hx cx).1 (StOk.loc hx cx).2) ih (hs X.env)
theorem gNames_at : ∀ {is : List Nat} {ps : List V} {σ : L2.St} {H : Hp} {Q : L2.St → Hp → Prop}, ps.length = is.length → Q (setsσ σ is ps) H → gNames is ps σ H Q
  | [], [], _, _, _, _, q => ⟨rfl, q⟩
  | i :: is, p :: ps, _, _, _, l, q => ⟨p, ps, rfl, gNames_at (by simpa using l) q⟩
  | [], _ :: _, _, _, _, l, _ => by simp at l
  | _ :: _, [], _, _, _, l, _ => by simp at l
/-- .. where the stores are not swapped: by way of a tuple -/
theorem js_parG {is ks : List Nat} {tgs es : List Expr} {ts : MP.Es} {kt k2 : Nat} {pt pt2 pos : Pos} (hp : PNames C tgs is) (hlen : is.length = ks.length) (hz : ks.length ≤ 1000) (hio : is.all (fun i => C.io.all fun q => q.1 != i) = true) (ok : setsOk Γ is ks = true)
    (hn : ∀ env : PySem.Env, (assignEach tgs env).length = ks.length) (hst : ∀ env : PySem.Env, (assignEach tgs env).findIdx? (·.1) = none)
    (hs : ∀ env : PySem.Env, swapsWithSole [.Tuple tgs kt pt] (.Tuple es k2 pt2) pos.line env = pure false) (hw : ∀ env : PySem.Env, env.scope = C.sc → swappedStores [.Tuple tgs kt pt] (.Tuple es k2 pt2) env = pure none) (hm : ∀ env : PySem.Env, (assignEach [.Tuple tgs kt pt] env).map (·.2) = [assign (.Tuple tgs kt pt) env]) (h : JO C Γ false ks es ts) :
    JS C Γ (.Assign [.Tuple tgs kt pt] (.Tuple es k2 pt2) pos) (.par is ts) (setsΓ Γ is ks) := by
  intro n R E X cx
  refine (ps_asg (pe_tup (h cx)) (pg_tup cx.calm (pgs_names cx hp) (hn X.env) (hst X.env)) (hs X.env) (hw X.env cx.scope) (hm X.env)).imp fun D σ H q => ?_
  obtain ⟨F, fp, ρ, st, q⟩ := par_imp hio ok q
  refine ⟨F, fp, ρ, st, q.mono (fun o _ q F1 fp1 H1 ps fs s1 ex pu ol hf => ?_) fun _ _ x => x⟩
  obtain ⟨l1, q⟩ := q F1 fp1 H1 ps fs s1 ex pu ol hf
  refine ⟨by rw [l1]; exact len_line hz, fun p hn => ⟨p, ps, rfl, .inl (.inl upd_same), l1, gNames_at (by rw [l1, hlen]) (q _ (upd_same_of hn))⟩⟩
end
end MP
/-! MiniPy against the hand layer: repr, isinstance, methods that only look -/
namespace MP
open L2 PySem.Spec PySem PyProof.Rows

/-- repr's text of a value -/
def shownOf (v : Val) : List Nat := (dat v).shown.cps.toList
section
variable {K : Fg} {S : Stat} {Γ Γ' Γ1 Γ2 : List Nat} {F F' : AS} {fp fp' : Nat → AS} {ρ : MP.Env} {σ : L2.St} {H H' : Hp} {b fz : Bool} {k : Nat} {E : XK} {C : Ct}
def rRep (K : Fg) : List V → Hp → VK → Prop := fun xs H Q => ∃ p d, xs = [p] ∧ Dp K H p d ∧ d.showable = true ∧ d.hasDict = false ∧ d.depth ≤ 60 ∧ d.shown.length ≤ sizeLine ∧ Q (.str d.shown) H
theorem cr_repr {X : Cx} (hg : X.A.guards = some []) (hu : X.A.units + 65 < cLine) : CallR X (.builtin "repr") (rRep X.K) := by
  intro pins s σ H xs us Q I r h
  obtain ⟨p, d, rfl, hd, hs, hn, hdp, hz, q⟩ := h
  obtain ⟨u, rfl, ru⟩ := vals1 r
  obtain ⟨as, rr⟩ := Dp.reads I d p u hd ru
  have hsm : d.hasDict = true → sysModules ∉ as := fun z => by rw [hn] at z; cases z
  cases rr with
  | none => exact PySem.P.repr_of_none ⟨.str _, H, I.tok _, ⟨_, rfl⟩, q⟩
  | bool b => exact PySem.P.repr_of_bool ⟨.str _, H, I.tok _, ⟨_, rfl⟩, by simpa only [PyData.shown] using q⟩
  | int i t => exact PySem.P.repr_of_int (by simpa [PyData.showable] using hs) ⟨.str _, H, I.tok _, ⟨_, rfl⟩, by simpa only [PyData.shown] using q⟩
  | str x t => exact PySem.P.repr_of_str ⟨.str _, H, I.tok _, ⟨_, rfl⟩, by simpa only [PyData.shown] using q⟩ (by simpa only [PyData.shown] using hz)
  | list h1 h2 h3 h4 => exact repr_of_reads' (.list h1 h2 h3 h4) hs hsm hg (by omega) (fun _ _ e => e) (fun h' u tk hk => ⟨.str _, H, I.kept hk, ⟨_, rfl⟩, q⟩) hz
  | tuple h1 h2 h3 h4 => exact repr_of_reads' (.tuple h1 h2 h3 h4) hs hsm hg (by omega) (fun _ _ e => e) (fun h' u tk hk => ⟨.str _, H, I.kept hk, ⟨_, rfl⟩, q⟩) hz
  | dict h1 h2 h3 h4 h5 => simp [PyData.hasDict] at hn
theorem short_int {i : Int} (h1 : -1000000000000 < i) (h2 : i < 1000000000000) : PyData.intsShort 13 (.int i) = true :=
  PyProof.Rows.intsShort_of_noneOrInC (lo := -999999999999) (hi := 999999999999) (by omega) (by omega) (.int i) (by simp [PyProof.Rows.noneOrInC]; omega)
mutual
theorem dat_rep : ∀ {n : Nat} (v : Val), shp n v = true → ints12 v = true → (dat v).showable = true ∧ (dat v).hasDict = false ∧ PyData.intsShort 13 (dat v) = true ∧ (dat v).weight ≤ wgt v
  | _, .none, _, _ => ⟨rfl, rfl, rfl, by simp [dat, PyData.weight]⟩
  | _, .bool _, _, _ => ⟨rfl, rfl, rfl, by simp [dat, PyData.weight]⟩
  | _, .int i, _, h => by
    simp only [ints12, Bool.and_eq_true, decide_eq_true_eq] at h
    have hn : i.natAbs < 2 ^ 40 := by omega
    have hl : i = 0 ∨ i.natAbs.log2 < 40 := by
      by_cases z : i = 0
      · exact .inl z
      · exact .inr ((Nat.log2_lt (by omega)).mpr hn)
    refine ⟨?_, rfl, short_int h.1 h.2, ?_⟩
    · simp only [dat, PyData.showable, decide_eq_true_eq]
      rcases hl with rfl | hl
      · decide
      · omega
    · simp only [dat, PyData.weight, wgt]
      split
      · omega
      · rename_i hz
        rcases hl with rfl | hl
        · simp at hz
        · omega
  | _, .str s, _, _ => ⟨rfl, rfl, rfl, by simp [dat, PyData.weight, wgt, toStr]⟩
  | n + 1, .tup vs, h, h' => by
    obtain ⟨a, b, c, d⟩ := dats_rep vs (by simpa [shp] using h) (by simpa [ints12] using h')
    exact ⟨by simpa [dat, PyData.showable] using a, by simpa [dat, PyData.hasDict] using b, by simpa [dat, PyData.intsShort] using c, by simpa [dat, PyData.weight, wgt] using d⟩
  | n + 1, .lst vs, h, h' => by
    obtain ⟨a, b, c, d⟩ := dats_rep vs (by simpa [shp] using h) (by simpa [ints12] using h')
    exact ⟨by simpa [dat, PyData.showable] using a, by simpa [dat, PyData.hasDict] using b, by simpa [dat, PyData.intsShort] using c, by simpa [dat, PyData.weight, wgt] using d⟩
  | 0, .tup _, h, _ => by simp [shp] at h
  | 0, .lst _, h, _ => by simp [shp] at h
  | _, .dict _, _, _ => ⟨rfl, rfl, rfl, by simp [dat, PyData.weight]⟩
  | _, .dicT _, _, _ => ⟨rfl, rfl, rfl, by simp [dat, PyData.weight]⟩
  | _, .fn _, _, _ => ⟨rfl, rfl, rfl, by simp [dat, PyData.weight]⟩
  | _, .txt _, _, _ => ⟨rfl, rfl, rfl, by simp [dat, PyData.weight]⟩
theorem dats_rep : ∀ {n : Nat} (v : List Val), shps n v = true → ints12s v = true → PyData.showableAll (dats v) = true ∧ PyData.hasDictAll (dats v) = false ∧ PyData.intsShortAll 13 (dats v) = true ∧ PyData.weightAll (dats v) ≤ wgts v
  | _, [], _, _ => ⟨rfl, rfl, rfl, by simp [dats, PyData.weightAll]⟩
  | n, v :: vs, h, h' => by
    simp only [shps, Bool.and_eq_true] at h
    simp only [ints12s, Bool.and_eq_true] at h'
    obtain ⟨a, b, c, d⟩ := dat_rep v h.1 h'.1
    obtain ⟨a', b', c', d'⟩ := dats_rep vs h.2 h'.2
    refine ⟨by simp [dats, PyData.showableAll, a, a'], by simp [dats, PyData.hasDictAll, b, b'], by simp [dats, PyData.intsShortAll, c, c'], ?_⟩
    simp only [dats, PyData.weightAll, wgts]
    omega
end
def repV (rp : Val → List Nat) (v : Val) : Res Val := if repOk v then .ok (.txt (rp v)) else .stuck
theorem toStr_cps (x : PySem.Str) : toStr x.cps.toList = x := by
  show (⟨x.cps.toList.toArray⟩ : PySem.Str) = x
  simp
theorem p1_repr (K : Fg) : P1 K 1 (fun v H Q => rRep K [v] H Q) (repV shownOf) := by
  intro F H x v p Q hF hx e hq
  unfold repV at e
  split at e
  · rename_i h
    cases e
    unfold repOk at h
    simp only [Bool.and_eq_true, decide_eq_true_eq] at h
    obtain ⟨⟨h1, h2⟩, h3⟩ := h
    obtain ⟨a, b, c, d⟩ := dat_rep x h1 h2
    obtain ⟨dp, cl⟩ := hx.dp h1
    have hsz : (dat x).shown.length ≤ sizeLine := by
      have := PyData.shown_le 13 (by decide) (dat x) (PyData.leavesShort_of_canLay0 13 _ cl c)
      rw [sizeLine_eq]; omega
    refine ⟨p, dat x, rfl, dp, a, b, shp_depth x h1, hsz, ?_⟩
    have := q_imm (K := K) (F := F) (H := H) (k := 1) (v := .txt (shownOf x)) (z := .str (toStr (shownOf x))) (Q := Q) (.txt _) rfl hq
    unfold shownOf at this
    rw [toStr_cps] at this
    exact this
  · cases e
theorem je_repr {e : Expr} {t : MP.E} {p pos : Pos} (hb : Bn C "repr" (.builtin "repr")) (hrp : C.S.prog.rp = shownOf) (hs : NoStar e) (ha : JB C Γ b e t) : JE C Γ b 1 (.Call (.Name "repr" p) [e] [] pos) (.blt .repr (.cons t .nil)) := by
  intro n R E X cx
  refine (pe_callB (cr_repr cx.guards (by have := cx.u64; omega)) (hb.gl cx) (hb.mg cx) hb.v (pa_cons (ha cx) pa_nil (hs [] X.env)) hb.n hb.d (hs [] X.env) rfl).imp fun σ H Q q => ?_
  have e1 : evE (C.S.gl n) (.blt .repr (.cons t .nil)) = fun ρ => (evE (C.S.gl n) t ρ).bind fun x => (repV shownOf x.1).bind fun v => .ok (v, x.2) := by
    funext ρ
    simp only [evE, evEs]
    have : (C.S.gl n).rp = shownOf := hrp
    rw [this]
    unfold repV
    cases evE (C.S.gl n) t ρ with
    | ok x =>
      show (if repOk x.1 = true then Res.ok (Val.txt (shownOf x.1), x.2) else Res.stuck) = (if repOk x.1 = true then Res.ok (Val.txt (shownOf x.1)) else Res.stuck).bind fun v => .ok (v, x.2)
      split <;> rfl
    | exc _ _ => rfl
    | stuck => rfl
  rw [e1] at q
  exact tE_one (r := fun v H Q => rRep X.K [v] H Q) (p1_repr X.K) (fun x c vs e => by unfold repV at e; split at e <;> cases e) q
/-! ### isinstance -/
def tyName : Ty → String
  | .int => "int"
  | .bool => "bool"
  | .str => "str"
  | .tuple => "tuple"
  | .list => "list"
  | .dict => "dict"
def tyOfV : Val → String
  | .none => "NoneType"
  | .bool _ => "bool"
  | .int _ => "int"
  | .str _ => "str"
  | .txt _ => "str"
  | .tup _ => "tuple"
  | .lst _ => "list"
  | _ => "dict"
theorem B1.ty {v : Val} {p : V} (h : B1 K F H v p) (hd : ∀ kvs, v ≠ .dicT kvs) (hf : ∀ f, v ≠ .fn f) : TyX K H p (.type (tyOfV v)) := by
  cases v with
  | none => cases FR.nonS h; exact .base .non
  | bool b => cases FR.blS h; exact .base (.bl b)
  | int i => cases FR.intS h; exact .base (.int i)
  | str s => obtain ⟨rfl, _⟩ := FR.strS h; exact .base (.str _)
  | txt s => cases (show FR K F H (.txt s) p from h); exact .base (.str _)
  | tup vs => obtain ⟨a, ps, rfl, ha, _⟩ := FR.tupS h; exact ha.elim (fun z => .base (.tup z)) fun ⟨_, _, _, e, c, _⟩ => .kTuple e c
  | lst vs =>
    obtain ⟨a, ps, rfl, ha, _⟩ := h
    rcases ha with ha | ⟨o, ha⟩
    · exact .base (.lst ha)
    · exact .base (.frz ha)
  | dict kvs =>
    obtain ⟨a, ps, rfl, ha, _⟩ := h
    rcases ha with ha | ⟨o, ha⟩
    · exact .base (.dK ha)
    · exact .fDict ha
  | dicT kvs => exact absurd rfl (hd kvs)
  | fn f => exact absurd rfl (hf f)
theorem kit_pair (t : Ty) (v : Val) (hd : ∀ kvs, v ≠ .dicT kvs) (hf : ∀ f, v ≠ .fn f) : L2.kitB (tyOfV v) (tyName t) = some (isTy t v) := by
  cases v <;> first | exact absurd rfl (hd _) | exact absurd rfl (hf _) | (cases t <;> (simp only [tyOfV, tyName, isTy]; decide +kernel))
theorem p1_isi (t : Ty) (K : Fg) : P1 K 1 (fun v H Q => rIsi K [v, .ty (tyName t)] H Q) fun v => blt (.isinst [t]) [v] := by
  intro F H x v p Q hF hx e hq
  have key : (∀ kvs, x ≠ .dicT kvs) ∧ (∀ f, x ≠ .fn f) ∧ v = .bool (isTy t x) := by
    cases x <;> cases e <;> exact ⟨fun _ h => (by cases h), fun _ h => (by cases h), by simp [isTy]⟩
  obtain ⟨h1, h2, rfl⟩ := key
  exact ⟨p, .ty (tyName t), .type (tyOfV x), .type (tyName t), isTy t x, rfl, .ty _, hx.ty h1 h2, L2.kit_ty (kit_pair t x h1 h2), q_imm (.bl _) rfl hq⟩
theorem p1_isi2 (t u : Ty) (K : Fg) : P1 K 1 (fun v H Q => [V.ty (tyName t), V.ty (tyName u)].length ≤ sizeLine ∧ ∀ tp, H tp = none → rIsiT K [v, .ref tp] (upd H tp (.tup [.ty (tyName t), .ty (tyName u)])) Q) fun v => blt (.isinst [t, u]) [v] := by
  intro F H x v p Q hF hx e hq
  refine ⟨by rw [sizeLine_eq]; show 2 ≤ 16777216; decide, fun tp hn => ?_⟩
  have key : (∀ kvs, x ≠ .dicT kvs) ∧ (∀ f, x ≠ .fn f) ∧ v = .bool (isTy t x || isTy u x) := by
    cases x <;> cases e <;> exact ⟨fun _ h => (by cases h), fun _ h => (by cases h), by simp [isTy]⟩
  obtain ⟨h1, h2, rfl⟩ := key
  have hx2 : B1 K F (upd H tp (.tup [.ty (tyName t), .ty (tyName u)])) x p := hx.mono (keeps_upd hn) (fun _ z => z) (upd_same_of hn)
  have k2 : PySem.W.kitAny K (.type (tyOfV x)) [.type (tyName t), .type (tyName u)] = some (isTy t x || isTy u x) :=
    L2.kitAny_cons (L2.kit_ty (kit_pair t x h1 h2)) (fun z => by
      rw [z, Bool.false_or]
      exact L2.kitAny_cons (L2.kit_ty (kit_pair u x h1 h2)) (fun z => by rw [z]; exact L2.kitAny_nil) fun z => z) fun z => by rw [z]; rfl
  refine ⟨p, tp, [.ty (tyName t), .ty (tyName u)], .type (tyOfV x), [.type (tyName t), .type (tyName u)], _, rfl, upd_same, .cons (.ty _) (.cons (.ty _) .nil), hx2.ty h1 h2, k2, ?_⟩
  exact hq _ (fun _ => False) _ (upd_same_of hn) (.imm (.bl _) rfl 1) fun _ z => z.elim
theorem je_isi {t : Ty} {ty : PySem.Str} {e : Expr} {te : MP.E} {p p2 pos : Pos} (hb : Bn C "isinstance" (.builtin "isinstance")) (ht : Bn C ty (.type (tyName t))) (hs : NoStar e) (ha : JB C Γ b e te) :
    JE C Γ b 1 (.Call (.Name "isinstance" p) [e, .Name ty p2] [] pos) (.blt (.isinst [t]) (.cons te .nil)) :=
  je_prim1 (f := fun v => blt (.isinst [t]) [v]) (r := fun X v H Q => rIsi X.K [v, .ty (tyName t)] H Q) (fun G => evE_blt1 (by intro h; cases h))
    (fun {n R E X} cx tl hl => pe_callB call_isi (hb.gl cx) (hb.mg cx) hb.v (pa_cons hl (pa_cons (pe_bltn (v := .ty (tyName t)) (ht.gl cx) (ht.mg cx) ht.v rfl ht.n ht.d) pa_nil rfl) (hs [.Name ty p2] X.env)) hb.n hb.d (hs [.Name ty p2] X.env) rfl) (fun X => p1_isi t X.K) (fun v => nox_blt _ _) ha
theorem je_isi2 {t u : Ty} {ty uy : PySem.Str} {e : Expr} {te : MP.E} {x1 : Nat} {p p2 p3 p4 pos : Pos} (hb : Bn C "isinstance" (.builtin "isinstance")) (ht : Bn C ty (.type (tyName t))) (hu : Bn C uy (.type (tyName u))) (hs : NoStar e) (ha : JB C Γ b e te) :
    JE C Γ b 1 (.Call (.Name "isinstance" p) [e, .Tuple [.Name ty p2, .Name uy p3] x1 p4] [] pos) (.blt (.isinst [t, u]) (.cons te .nil)) :=
  je_prim1 (f := fun v => blt (.isinst [t, u]) [v]) (r := fun X v H Q => [V.ty (tyName t), V.ty (tyName u)].length ≤ sizeLine ∧ ∀ tp, H tp = none → rIsiT X.K [v, .ref tp] (upd H tp (.tup [.ty (tyName t), .ty (tyName u)])) Q) (fun G => evE_blt1 (by intro h; cases h))
    (fun {n R E X} cx tl hl => (pe_callB call_isiT (hb.gl cx) (hb.mg cx) hb.v (pa_cons hl (pa_cons (pe_tup (pa_cons (pe_bltn (v := .ty (tyName t)) (ht.gl cx) (ht.mg cx) ht.v rfl ht.n ht.d) (pa_cons (pe_bltn (v := .ty (tyName u)) (hu.gl cx) (hu.mg cx) hu.v rfl hu.n hu.d) pa_nil rfl) rfl)) pa_nil rfl)
      (hs [.Tuple [.Name ty p2, .Name uy p3] x1 p4] X.env)) hb.n hb.d (hs [.Tuple [.Name ty p2, .Name uy p3] x1 p4] X.env) rfl))
    (fun X => p1_isi2 t u X.K) (fun v => nox_blt _ _) ha
end
end MP
/-! MiniPy against the hand layer: methods of texts -/
namespace MP
open L2 PySem.Spec PySem PyProof.Rows

section
variable {K : Fg} {S : Stat} {Γ Γ' Γ1 Γ2 : List Nat} {F F' : AS} {fp fp' : Nat → AS} {ρ : MP.Env} {σ : L2.St} {H H' : Hp} {b fz : Bool} {k : Nat} {E : XK} {C : Ct}
theorem isStr_of {v : Val} (h : isStr v = true) : ∃ s, v = .str s := by
  cases v <;> first | exact ⟨_, rfl⟩ | cases h
theorem nox_seqOf (v : Val) : NoX (seqOf v) := by intro c vs h; cases v <;> cases h
theorem nox_mth (m : Mth) (o : Val) (vs : List Val) : NoX (mth m o vs) := by
  unfold mth
  split <;> repeat' (with_reducible first
    | exact nox_ok _
    | exact nox_stuck
    | exact nox_orStuck _
    | exact nox_items _
    | exact nox_seqOf _
    | refine nox_bind ?_ fun _ => ?_
    | refine nox_dite ?_ ?_)
/-- a text's method of one argument -/
theorem je_m1 {m : Mth} {id : String} {name : PySem.Str} {apos pos : Pos} {o e : Expr} {to te : MP.E} {r : Cx → V → List V → Hp → VK → Prop} (slot : Slot "str" name id) (ty : typeOf (.builtin id) = pure (.type "method_descriptor")) (rule : ∀ X : Cx, MtR X id (r X))
    (hr : ∀ (X : Cx) (F : AS) (H : Hp) (s : List Nat) (y v : Val) (q : V) (Q : VK), (∀ a, F a → H a ≠ none) → cpOk s = true → B1 X.K F H y q → mth m (.str s) [y] = .ok v → (∀ H' fr z, (∀ a, H a ≠ none → H' a = H a) → Own X.K F H' 1 v z fr → (∀ a, fr a → H a = none) → Q z H') → r X (.str (toStr s)) [q] H Q)
    (hs : NoStar e) (hbase : ∀ env : PySem.Env, attributeBase o name env (eval o env) = eval o env) (hline : (apos.endLine == pos.line) = true) (ho : JB C Γ b o to) (he : JB C Γ b e te) :
    JE C Γ b 1 (.Call (.Attribute o name apos) [e] [] pos) (.mth m to (.cons te .nil)) := by
  intro n R E X cx
  refine (pe_m1 slot ty (rule X) (ho cx) (he cx) (hs [] X.env) (hbase X.env) hline).imp fun σ H Q q => ?_
  obtain ⟨F, fp, ρ, st, q⟩ := q
  have e0 : evE (C.S.gl n) (.mth m to (.cons te .nil)) = fun ρ => (evE (C.S.gl n) to ρ).bind fun x => if isStr x.1 = true then (evE (C.S.gl n) te x.2).bind fun y => (mth m x.1 [y.1]).bind fun v => .ok (v, y.2) else .stuck := by
    funext ρ
    simp only [evE, evEs]
    cases evE (C.S.gl n) to ρ with
    | ok x =>
      show (if isStr x.1 = true then _ else _) = (if isStr x.1 = true then _ else _)
      split
      · cases evE (C.S.gl n) te x.2 <;> rfl
      · rfl
    | exc _ _ => rfl
    | stuck => rfl
  rw [e0] at q
  refine ⟨F, fp, ρ, st, ?_⟩
  rw [RSat.bind] at q
  refine q.mono (fun ox _ q F1 fp1 H1 p st1 ex1 pu1 bx => ?_) fun _ _ x => x
  cases hx : isStr ox.1 with
  | false => simp only [hx] at q; exact q.elim
  | true =>
    obtain ⟨s, es⟩ := isStr_of hx
    simp only [hx, if_true] at q
    rw [es] at bx q
    obtain ⟨rfl, cs⟩ := B1.of_str bx
    refine ⟨⟨_, rfl⟩, F1, fp1, ox.2, st1, ?_⟩
    rw [RSat.bind] at q
    refine q.mono (fun oy _ q F2 fp2 H2 p2 st2 ex2 pu2 b2 => ?_) fun _ _ x => x.ext ex1
    rw [RSat.bind] at q
    cases em : mth m (.str s) [oy.1] with
    | stuck => rw [em] at q; exact q.elim
    | exc c vs => exact absurd em (nox_mth _ _ _ c vs)
    | ok v =>
      rw [em] at q
      exact hr X F2 H2 s oy.1 v p2 Q st2.tr cs b2 em (prim_fin st2 (ex1.trans ex2) (fun e => (pu2 e).trans (pu1 e)) q)
/-! ### join -/
theorem joinWith_str (s : List Nat) : ∀ ss : List (List Nat), Txt.join (toStr s) (ss.map toStr) = toStr (joinWith s ss) := by
  intro ss
  rw [TL.join_eq]
  induction ss with
  | nil => rfl
  | cons x ss ih =>
    cases ss with
    | nil => rfl
    | cons y ss =>
      show toStr x ++ toStr s ++ Str.join (toStr s) ((y :: ss).map toStr) = _
      rw [ih, toStr_app, toStr_app]; rfl
theorem cpOk_join {s : List Nat} (hs : s.all (· < 0x110000) = true) : ∀ {ss : List (List Nat)}, (∀ x ∈ ss, cpOk x = true) → (joinWith s ss).all (· < 0x110000) = true
  | [], _ => rfl
  | [x], h => (cpOk_iff.mp (h x List.mem_cons_self)).1
  | x :: y :: ss, h => by
    show (x ++ s ++ joinWith s (y :: ss)).all _ = true
    rw [List.all_append, List.all_append, (cpOk_iff.mp (h x List.mem_cons_self)).1, hs, cpOk_join hs fun z hz => h z (List.mem_cons_of_mem _ hz)]
    rfl
theorem join_le (s : List Nat) : ∀ ss : List (List Nat), (joinWith s ss).length ≤ (ss.map (·.length)).sum + ss.length * s.length
  | [] => by simp [joinWith]
  | [x] => by simp [joinWith]
  | x :: y :: ss => by
    have ih := join_le s (y :: ss)
    show (x ++ s ++ joinWith s (y :: ss)).length ≤ _
    rw [List.length_append, List.length_append, List.map_cons, List.sum_cons, List.length_cons (a := x), Nat.succ_mul]
    omega
theorem sum_toStr (ss : List (List Nat)) : ((ss.map toStr).map (·.length)).sum = (ss.map (·.length)).sum := by
  rw [List.map_map]
  exact congrArg List.sum (List.map_congr_left fun x _ => toStr_len x)
theorem je_join {apos pos : Pos} {o e : Expr} {to te : MP.E} (hs : NoStar e) (hbase : ∀ env : PySem.Env, attributeBase o "join" env (eval o env) = eval o env) (hline : (apos.endLine == pos.line) = true) (ho : JB C Γ b o to) (he : JB C Γ b e te) :
    JE C Γ b 1 (.Call (.Attribute o "join" apos) [e] [] pos) (.mth .join to (.cons te .nil)) :=
  je_m1 (r := fun X x xs H Q => ∃ a p, ∃ ys : List PySem.Str, x = .str a ∧ xs = [.ref p] ∧ (SqL X.K H p (ys.map V.str) ∨ SqT X.K H p (ys.map V.str)) ∧ (ys.map (·.length)).sum + ys.length * a.length ≤ 16777216 ∧ Q (.str (Txt.join a ys)) H)
    F.slot_str_join F.type_str_join (fun X => mt_join) (fun X F H s y v q Q hF cs by_ em hq => by
      obtain ⟨vs, e1, em⟩ := bind_ok (show ((seqOf y).bind fun vs => (orStuck (allStrs vs)).bind fun ss => if (ss.map (·.length)).sum + ss.length * s.length ≤ big then Res.ok (Val.str (joinWith s ss)) else .stuck) = .ok v from em)
      obtain ⟨ss, e2, em⟩ := bind_ok em
      have e2 := orStuck_ok e2
      split at em
      · rename_i hb
        cases em
        have key : ∀ (ps : List V) (rs : FRs X.K F H vs ps), ps = (ss.map toStr).map V.str ∧ Q (.str (Txt.join (toStr s) (ss.map toStr))) H := fun ps rs => by
          obtain ⟨h1, h2⟩ := strs_of e2 rs
          refine ⟨h1, ?_⟩
          rw [joinWith_str]
          exact q_imm (.str (cpOk_iff.mpr ⟨cpOk_join (cpOk_iff.mp cs).1 h2, Nat.le_trans (join_le s ss) hb⟩)) rfl hq
        have hb2 : ((ss.map toStr).map (·.length)).sum + (ss.map toStr).length * (toStr s).length ≤ 16777216 := by
          rw [sum_toStr, List.length_map, toStr_len]
          unfold big at hb; omega
        cases y <;> cases e1
        · obtain ⟨a, ps, rfl, ha, rs⟩ := B1.of_tup by_
          obtain ⟨rfl, q2⟩ := key ps rs
          exact ⟨_, a, _, rfl, rfl, .inr ha.sq, hb2, q2⟩
        · obtain ⟨a, ps, rfl, ha, rs⟩ := by_
          obtain ⟨rfl, q2⟩ := key ps rs
          exact ⟨_, a, _, rfl, rfl, .inl (.inl ha), hb2, q2⟩
      · cases em) hs hbase hline ho he
/-! ### index, find -/
theorem findStr_spec (y : List Nat) : ∀ (s : List Nat) (i j : Nat), findStr y i s = some j → ∃ m, j = i + m ∧ m ≤ s.length ∧ y.isPrefixOf (s.drop m) = true ∧ ∀ k, k < m → y.isPrefixOf (s.drop k) = false
  | [], i, j, h => by
    unfold findStr at h
    split at h
    · cases h
      rename_i he
      exact ⟨0, rfl, Nat.le_refl _, by cases y <;> simp_all, fun k hk => by omega⟩
    · cases h
  | c :: s, i, j, h => by
    unfold findStr at h
    split at h
    · cases h
      exact ⟨0, rfl, Nat.zero_le _, by assumption, fun k hk => by omega⟩
    · rename_i hp
      obtain ⟨m, rfl, hm, h1, h2⟩ := findStr_spec y s (i + 1) j h
      refine ⟨m + 1, by omega, by simp; exact hm, by simpa using h1, fun k hk => ?_⟩
      cases k with
      | zero => exact Bool.eq_false_iff.mpr hp
      | succ k => simpa using h2 k (by omega)
theorem at_pre (s t : List Nat) (i : Nat) : StrLaws.At (toStr s) (toStr t) (toStr s).length i ↔ i + t.length ≤ s.length ∧ t.isPrefixOf (s.drop i) = true := by
  unfold StrLaws.At
  rw [toStr_len, toStr_len, PySem.StrLaws.subAt_eq, toStr_len, isPre]
  have e : ((toStr s).cps.toList) = s := tl_toStr s
  have e2 : ((toStr t).cps.toList) = t := tl_toStr t
  rw [e, e2]
theorem pre_len {t l : List Nat} (h : t.isPrefixOf l = true) : t.length ≤ l.length := by
  rw [List.isPrefixOf_iff_prefix] at h
  exact h.length_le
theorem find_at {s t : List Nat} {j : Nat} (h : findStr t 0 s = some j) : Txt.find (toStr s) (toStr t) = (j : Int) := by
  obtain ⟨m, e, hm, h1, h2⟩ := findStr_spec t s 0 j h
  rw [Nat.zero_add] at e
  subst e
  have ha : StrLaws.At (toStr s) (toStr t) (toStr s).length j := (at_pre s t j).mpr ⟨by have := pre_len h1; rw [List.length_drop] at this; omega, h1⟩
  rcases PyProof.Rows.find_whole (toStr s) (toStr t) with ⟨_, no⟩ | ⟨i, e, hi, hmin⟩
  · exact absurd ha (no j)
  · rw [e]
    have h3 := (at_pre s t i).mp hi
    have : i = j := by
      by_cases a : i < j
      · have := h2 i a; rw [h3.2] at this; cases this
      · by_cases c : j < i
        · exact absurd ha (hmin j c)
        · omega
    rw [this]
theorem je_sindex {apos pos : Pos} {o e : Expr} {to te : MP.E} (hs : NoStar e) (hbase : ∀ env : PySem.Env, attributeBase o "index" env (eval o env) = eval o env) (hline : (apos.endLine == pos.line) = true) (ho : JB C Γ b o to) (he : JB C Γ b e te) :
    JE C Γ b 1 (.Call (.Attribute o "index" apos) [e] [] pos) (.mth .index to (.cons te .nil)) :=
  je_m1 (r := fun X x xs H Q => ∃ a b i rest, x = .str a ∧ xs = [.str b] ∧ Builtin.Str.occurrences a b 0 a.length 1 = i :: rest ∧ Q (.int (i : Nat)) H)
    F.slot_str_index F.type_str_index (fun X => mt_sindex) (fun X F H s y v q Q hF cs by_ em hq => by
      cases y <;> first | (cases em; done) | skip
      rename_i t
      obtain ⟨j, e1, em⟩ := bind_ok (show ((orStuck (findStr t 0 s)).bind fun j => Res.ok (.int (j : Nat))) = .ok v from em)
      cases em
      obtain ⟨rfl, _⟩ := B1.of_str by_
      have hfd := find_at (orStuck_ok e1)
      cases ho2 : Builtin.Str.occurrences (toStr s) (toStr t) 0 (toStr s).length 1 with
      | nil =>
        unfold Txt.find at hfd
        rw [ho2] at hfd
        exact absurd hfd (by simp)
      | cons i rest =>
        unfold Txt.find at hfd
        rw [ho2] at hfd
        have hij : i = j := Int.ofNat.inj hfd
        subst hij
        exact ⟨_, _, i, rest, rfl, rfl, ho2, q_imm (.int _) rfl hq⟩) hs hbase hline ho he
end
end MP
/-! MiniPy against the hand layer: the built-in functions' rules -/
namespace MP
open L2 PySem.Spec PySem PyProof.Rows

section
variable {K : Fg} {S : Stat} {Γ Γ' Γ1 Γ2 : List Nat} {F F' : AS} {fp fp' : Nat → AS} {ρ : MP.Env} {σ : L2.St} {H H' : Hp} {b fz : Bool} {k : Nat} {E : XK} {C : Ct}
theorem je_len {e : Expr} {t : MP.E} {p pos : Pos} (hb : Bn C "len" (.builtin "len")) (hs : NoStar e) (ha : JB C Γ b e t) : JE C Γ b 1 (.Call (.Name "len" p) [e] [] pos) (.blt .len (.cons t .nil)) :=
  je_call1B (r := fun X => rLen X.K) hb (fun _ => cr_len) (fun X => p1_len) (fun v => nox_blt _ _) (by intro h; cases h) hs ha
theorem je_abs {e : Expr} {t : MP.E} {p pos : Pos} (hb : Bn C "abs" (.builtin "abs")) (hs : NoStar e) (ha : JB C Γ b e t) : JE C Γ b 1 (.Call (.Name "abs" p) [e] [] pos) (.blt .abs (.cons t .nil)) :=
  je_call1B (r := fun X xs H Q => ∃ i, xs = [V.int i] ∧ Q (.int (if i < 0 then -i else i)) H) hb (fun _ => call_abs) (fun X => p1_abs) (fun v => nox_blt _ _) (by intro h; cases h) hs ha
theorem je_toint {e : Expr} {t : MP.E} {p pos : Pos} (hb : Bn C "int" (.type "int")) (hs : NoStar e) (ha : JB C Γ b e t) : JE C Γ b 1 (.Call (.Name "int" p) [e] [] pos) (.blt .int (.cons t .nil)) :=
  je_call1T (r := fun X xs H Q => (∃ i, xs = [V.int i] ∧ Q (.int i) H) ∨ ∃ k, xs = [V.bl k] ∧ Q (.int (if k then 1 else 0)) H) hb (fun _ => call_int1) (fun X => p1_int) (fun v => nox_blt _ _) (by intro h; cases h) hs ha
theorem je_sum {e : Expr} {t : MP.E} {p pos : Pos} (hb : Bn C "sum" (.builtin "sum")) (hs : NoStar e) (ha : JB C Γ b e t) : JE C Γ b 1 (.Call (.Name "sum" p) [e] [] pos) (.blt .sum (.cons t .nil)) :=
  je_call1B (r := fun X => rSum X.K) hb (fun cx => cr_sum cx.calm) (fun X => p1_sum) (fun v => nox_blt _ _) (by intro h; cases h) hs ha
theorem je_any {e : Expr} {t : MP.E} {p pos : Pos} (hb : Bn C "any" (.builtin "any")) (hs : NoStar e) (ha : JB C Γ b e t) : JE C Γ b 1 (.Call (.Name "any" p) [e] [] pos) (.blt .any (.cons t .nil)) :=
  je_call1B (r := fun X => rAny X.K) hb (fun cx => cr_any cx.calm) (fun X => p1_any) (fun v => nox_blt _ _) (by intro h; cases h) hs ha
theorem je_all {e : Expr} {t : MP.E} {p pos : Pos} (hb : Bn C "all" (.builtin "all")) (hs : NoStar e) (ha : JB C Γ b e t) : JE C Γ b 1 (.Call (.Name "all" p) [e] [] pos) (.blt .all (.cons t .nil)) :=
  je_call1B (r := fun X => rAll X.K) hb (fun cx => cr_all cx.calm) (fun X => p1_all) (fun v => nox_blt _ _) (by intro h; cases h) hs ha
theorem je_min {e : Expr} {t : MP.E} {p pos : Pos} (hb : Bn C "min" (.builtin "min")) (hs : NoStar e) (ha : JB C Γ b e t) : JE C Γ b 1 (.Call (.Name "min" p) [e] [] pos) (.blt .min (.cons t .nil)) :=
  je_call1B (r := fun X => rMin X.K) hb (fun cx => cr_min cx.calm) (fun X => p1_min) (fun v => nox_blt _ _) (by intro h; cases h) hs ha
theorem je_max {e : Expr} {t : MP.E} {p pos : Pos} (hb : Bn C "max" (.builtin "max")) (hs : NoStar e) (ha : JB C Γ b e t) : JE C Γ b 1 (.Call (.Name "max" p) [e] [] pos) (.blt .max (.cons t .nil)) :=
  je_call1B (r := fun X => rMax X.K) hb (fun cx => cr_max cx.calm) (fun X => p1_max) (fun v => nox_blt _ _) (by intro h; cases h) hs ha
theorem je_tolist {e : Expr} {t : MP.E} {p pos : Pos} (hb : Bn C "list" (.type "list")) (hs : NoStar e) (ha : JB C Γ b e t) : JE C Γ b 1 (.Call (.Name "list" p) [e] [] pos) (.blt .list (.cons t .nil)) :=
  je_call1T (r := fun X xs H Q => ∃ p ys, xs = [V.ref p] ∧ (SqL X.K H p ys ∨ SqT X.K H p ys) ∧ ∀ l, H l = none → Q (.ref l) (upd H l (.lst ys))) hb (fun _ => call_list_of) (fun X => p1_list) (fun v => nox_blt _ _) (by intro h; cases h) hs ha
theorem je_totup {e : Expr} {t : MP.E} {p pos : Pos} (hb : Bn C "tuple" (.type "tuple")) (hs : NoStar e) (ha : JB C Γ b e t) : JE C Γ b k (.Call (.Name "tuple" p) [e] [] pos) (.blt .tuple (.cons t .nil)) :=
  je_call1T (r := fun X xs H Q => ∃ p ys, xs = [V.ref p] ∧ ((SqL X.K H p ys ∧ ∀ l, H l = none → Q (.ref l) (upd H l (.tup ys))) ∨ (SqT X.K H p ys ∧ Q (.ref p) H))) hb (fun _ => call_tuple_of) (fun X => p1_tuple) (fun v => nox_blt _ _) (by intro h; cases h) hs ha
end
end MP
/-! MiniPy against the hand layer: dict comprehensions, empty dicts -/
namespace MP
open L2 PySem.Spec PySem PyProof.Rows

section
variable {K : Fg} {S : Stat} {Γ Γ' Γ1 Γ2 : List Nat} {F F' : AS} {fp fp' : Nat → AS} {ρ : MP.Env} {σ : L2.St} {H H' : Hp} {b fz : Bool} {k : Nat} {E : XK} {C : Ct}
theorem own_newD {kvs : List (Val × Val)} {kps : List (Key × V)} {p : Addr} (h : FRk K F H kvs kps) (n : H p = none) (hF : ∀ a, F a → H a ≠ none) : Own K F (upd H p (.dK kps)) 1 (.dict kvs) (.ref p) (fun b => b = p) :=
  ⟨p, kps, rfl, fun f => hF p f n, upd_same, h.mono (keeps_upd n) fun _ z => z, fun _ => Iff.rfl⟩
theorem q_newD {kvs : List (Val × Val)} {kps : List (Key × V)} {Q : VK} (h : FRk K F H kvs kps) (hF : ∀ a, F a → H a ≠ none)
    (q : ∀ H' fr z, (∀ a, H a ≠ none → H' a = H a) → Own K F H' 1 (.dict kvs) z fr → (∀ a, fr a → H a = none) → Q z H') : ∀ p, H p = none → Q (.ref p) (upd H p (.dK kps)) :=
  fun p n => q _ _ _ (upd_same_of n) (own_newD h n hF) fun a e => by rw [e]; exact n
theorem own_newDT {kvs : List (Val × Val)} {kps : List (List Key × V)} {p : Addr} (h : FRt K F H kvs kps) (n : H p = none) (hF : ∀ a, F a → H a ≠ none) : Own K F (upd H p (.dT kps)) 1 (.dicT kvs) (.ref p) (fun b => b = p) :=
  ⟨p, kps, rfl, fun f => hF p f n, upd_same, h.mono (keeps_upd n) fun _ z => z, fun _ => Iff.rfl⟩
theorem q_newDT {kvs : List (Val × Val)} {kps : List (List Key × V)} {Q : VK} (h : FRt K F H kvs kps) (hF : ∀ a, F a → H a ≠ none)
    (q : ∀ H' fr z, (∀ a, H a ≠ none → H' a = H a) → Own K F H' 1 (.dicT kvs) z fr → (∀ a, fr a → H a = none) → Q z H') : ∀ p, H p = none → Q (.ref p) (upd H p (.dT kps)) :=
  fun p n => q _ _ _ (upd_same_of n) (own_newDT h n hF) fun a e => by rw [e]; exact n
theorem je_newD {pos : Pos} : JE C Γ b 1 (.Dict [] [] pos) (.blt .newDict .nil) := by
  intro n R E X cx
  refine pe_dnewK.imp fun σ H Q q => ?_
  obtain ⟨F, fp, ρ, st, q⟩ := q
  exact q_newD .nil st.tr (prim_fin (b := b) st (.refl _) (fun _ => rfl) q)
theorem je_newDT {pos : Pos} : JE C Γ b 1 (.Dict [] [] pos) (.blt .newDicT .nil) := by
  intro n R E X cx
  refine pe_dnewT.imp fun σ H Q q => ?_
  obtain ⟨F, fp, ρ, st, q⟩ := q
  exact q_newDT .nil st.tr (prim_fin (b := b) st (.refl _) (fun _ => rfl) q)
/-- what grows, apart from all that the slots know, may change -/
theorem Stt.asideO {D : Addr} {u o : HO} (s : Stt K Γ F fp ρ σ H) (hD : H D = some u) (hu : ∀ ps, u ≠ .tup ps) (nF : ¬ F D) (nf : ∀ i, ¬ fp i D) : Stt K Γ F fp ρ σ (upd H D o) ∧ Keeps F H (upd H D o) := by
  have kp : Keeps F H (upd H D o) := ⟨fun a us r => by rw [upd_ne (fun e => by subst e; rw [hD] at r; exact hu _ (Option.some.inj r))]; exact r, fun a u f r => by
    have : a ≠ D := fun e => by subst e; exact nF f
    unfold Rd at r ⊢
    rw [upd_ne this]; exact r⟩
  refine ⟨⟨fun i v e => ?_, s.out, s.dj, fun a f => ?_, s.len⟩, kp⟩
  · obtain ⟨p, e1, ow⟩ := s.rep i v e
    exact ⟨p, e1, ow.mono kp (fun _ z => z) (fun a z => upd_ne fun e => by subst e; exact nf i z) fun a z => (s.mu z).2⟩
  · rw [upd_ne (fun e => by subst e; exact nF f)]; exact s.tr a f
/-- how far a dict comprehension has come -/
structure DcAt (K : Fg) (Γ : List Nat) (own : List Nat) (pb : Bool) (σ : L2.St) (F1 : AS) (fp1 : Nat → AS) (H1 : Hp) (ρ1 : MP.Env) (D : Addr) (acc : List (Val × Val)) (ρ : MP.Env) (H : Hp) (F : AS) (fp : Nat → AS) (kps : List (Key × V)) : Prop where
  st : Stt K Γ F fp (MP.wipe ρ own) (L2.wipe σ own) H
  ex : Ext pb F1 fp1 H1 F fp H
  pu : pb = true → ∀ j, j ∉ own → ρ[j]? = ρ1[j]?
  len : ρ.length = ρ1.length
  hD : H D = some (.dK kps)
  nF : ¬ F D
  nf : ∀ i, ¬ fp i D
  it : FRk K F H acc kps
theorem DcAt.step {own : List Nat} {pb : Bool} {F1 F2 : AS} {fp1 fp2 : Nat → AS} {H1 H2 : Hp} {ρ1 ρ2 : MP.Env} {σ2 : L2.St} {D : Addr} {acc : List (Val × Val)} {kps : List (Key × V)} (a : DcAt K Γ own pb σ F1 fp1 H1 ρ1 D acc ρ H F fp kps)
    (st2 : Stt K Γ F2 fp2 ρ2 σ2 H2) (h0 : ∀ i ∈ own, Γ.getD i 0 = 0) (ex2 : Ext pb F fp H F2 fp2 H2) (hσ : L2.wipe σ2 own = L2.wipe σ own) (pu : pb = true → ∀ j, j ∉ own → ρ2[j]? = ρ[j]?) (hl : ρ2.length = ρ.length) : DcAt K Γ own pb σ F1 fp1 H1 ρ1 D acc ρ2 H2 F2 fp2 kps := by
  have hDn : H D ≠ none := by rw [a.hD]; simp
  exact {
    st := by rw [← hσ]; exact st2.wipe h0
    ex := a.ex.trans ex2
    pu := fun e j hj => (pu e j hj).trans (a.pu e j hj)
    len := hl.trans a.len
    hD := by rw [ex2.same D hDn (.inr a.nf)]; exact a.hD
    nF := fun f => by
      rcases ex2.new D f with f | f | ⟨_, j, f⟩
      · exact a.nF f
      · exact hDn f
      · exact a.nf j f
    nf := fun i z => by
      rcases ex2.fnew i D z with f | ⟨j, f⟩
      · exact hDn f
      · exact a.nf j f
    it := a.it.mono (a.st.keeps ex2) ex2.sub }
/-- one more entry -/
theorem DcAt.put {own : List Nat} {pb : Bool} {F1 : AS} {fp1 : Nat → AS} {H1 : Hp} {ρ1 : MP.Env} {D : Addr} {acc : List (Val × Val)} {kps : List (Key × V)} {kk : Key} {v : Val} {p : V} (a : DcAt K Γ own pb σ F1 fp1 H1 ρ1 D acc ρ H F fp kps) (hD1 : H1 D = none) (ok : kvOk kk = true) (fv : FR K F H v p) :
    DcAt K Γ own pb σ F1 fp1 H1 ρ1 D (dput acc (kval kk) v) ρ (upd H D (.dK (putK kps kk p))) F fp (putK kps kk p) := by
  obtain ⟨st5, kp5⟩ := a.st.asideO (o := .dK (putK kps kk p)) a.hD (fun _ e => by cases e) a.nF a.nf
  exact { st := st5, ex := a.ex.aside hD1, pu := a.pu, len := a.len, hD := upd_same, nF := a.nF, nf := a.nf, it := (a.it.put ok fv).mono kp5 fun _ z => z }
/-- {ke: ve for tg in iter if ..} -/
theorem dc_imp {own : List Nat} {tk tv tc : MP.E} {t : MP.T} {ti : MP.It} {pb : Bool} {n : Nat} {X : Cx} {σ : L2.St} {H : Hp} {Q : VK} {scope : Scope} (hpb : b = true → pb = true) (hfz : fz = true ∨ pb = true)
    (h0 : ∀ i ∈ own, Γ.getD i 0 = 0) (hto : ∀ j, t.has j = true → j ∈ own) (h : tE X.K C.S Γ b 1 E (evE (C.S.gl n) (.dc tk tv t ti tc own)) σ H Q) :
    tDc (tI X.K C.S Γ b fz E (evI (C.S.gl n) ti)) (tG X.K (C.bl scope) Γ t) (tT X.K C.S Γ pb (fun _ _ _ => False) (evT (C.S.gl n) tc)) (tE X.K C.S Γ pb 0 (fun _ _ _ => False) (evE (C.S.gl n) tk)) (tE X.K C.S Γ pb 0 (fun _ _ _ => False) (evE (C.S.gl n) tv)) own σ H Q := by
  obtain ⟨F, fp, ρ, st, q⟩ := h
  let step : Val → List (Val × Val) → MP.Env → Res (List (Val × Val) × MP.Env) := fun x acc ρ => (orStuck (bindT t x (MP.wipe ρ own))).bind fun ρ => (evE (C.S.gl n) tc ρ).bind fun b => (truthy b.1).bind fun c =>
    if c then (evE (C.S.gl n) tk b.2).bind fun k => (evE (C.S.gl n) tv k.2).bind fun v => dsnoc acc k.1 v.1 v.2 else .ok (acc, b.2)
  have q : RSat ((evI (C.S.gl n) ti ρ).bind fun o => ((dcGo step o.1 [] o.2).noexc).bind fun r => Res.ok (Val.dict r.1, MP.back o.2 r.2 own)) _ _ := q
  refine ⟨F, fp, ρ, st, ?_⟩
  rw [RSat.bind] at q
  refine q.mono (fun o _ q F1 fp1 H1 J st1 ex1 pu1 wk D hD => ?_) fun _ _ x => x
  obtain ⟨xs, ρ1⟩ := o
  rw [RSat.bind] at q
  cases e0 : (dcGo step xs [] ρ1).noexc with
  | stuck => simp only [e0] at q; exact q.elim
  | exc c us =>
    exfalso
    cases e00 : dcGo step xs [] ρ1 <;> rw [e00] at e0 <;> cases e0
  | ok r =>
    obtain ⟨vs, ρ'⟩ := r
    have e1 := noexc_ok e0
    simp only [e0] at q
    have wk : WalksX fz X.K F1 H1 xs J := wk
    let Wq : Nat → Hp → Prop := fun i H => ∃ acc ρ F fp kps, DcAt X.K Γ own pb σ F1 fp1 H1 ρ1 D acc ρ H F fp kps ∧ dcGo step (xs.drop i) acc ρ = .ok (vs, ρ')
    have hD1 : ∀ i, ¬ fp1 i D := fun i z => (st1.mu z).1.some hD
    obtain ⟨stN, exN⟩ := (st1.wipe h0).alloc (b := pb) (H' := upd H1 D (.dK [])) (upd_same_of hD)
    have start : DcAt X.K Γ own pb σ F1 fp1 H1 ρ1 D [] ρ1 (upd H1 D (.dK [])) F1 fp1 [] := {
      st := stN
      ex := exN
      pu := fun _ _ _ => rfl
      len := rfl
      hD := upd_same
      nF := fun f => st1.tr D f hD
      nf := hD1
      it := .nil }
    refine ⟨fun i m H => m = xs.length - i ∧ i ≤ xs.length ∧ Wq i H, ⟨xs.length, by simp, Nat.zero_le _, [], ρ1, F1, fp1, [], start, by simpa using e1⟩, ?_⟩
    rintro i m H2 ⟨rfl, hi, acc, ρ2, F2, fp2, kps, a, eg⟩
    have wki : (xs.length = i → J.stop i H2) ∧ (∀ v, xs[i]? = some v → J.go i H2 ∧ ∀ x H3, J.yld i H2 x H3 → (∀ a, H2 a ≠ none → H3 a = H2 a) ∧ FR X.K F2 H3 v x) := by
      unfold WalksX at wk
      cases hz : fz with
      | true => rw [hz, if_pos rfl] at wk; exact wk i F2 H2 a.ex.sub (st1.keeps a.ex)
      | false =>
        rw [hz] at wk
        have wk : WalksB X.K F1 H1 xs J := wk
        have hp : pb = true := hfz.resolve_left (by rw [hz]; simp)
        exact wk i F2 H2 a.ex.sub fun x nx => a.ex.same x nx (.inl hp)
    obtain ⟨stop, go⟩ := wki
    by_cases hlt : i < xs.length
    · obtain ⟨hgo, hy⟩ := go xs[i] (by simp [hlt])
      refine .inr ⟨hgo, Wq (i + 1), fun H' w => ⟨xs.length - (i + 1), by omega, rfl, hlt, w⟩, fun x H3 yl => ?_⟩
      obtain ⟨al3, fr3⟩ := hy x H3 yl
      obtain ⟨st3, ex3⟩ := a.st.alloc (b := pb) al3
      rw [List.drop_eq_getElem_cons hlt] at eg
      obtain ⟨o1, es, eg⟩ := bind_ok (show ((step xs[i] acc ρ2).bind fun o => dcGo step (xs.drop (i + 1)) o.1 o.2) = .ok (vs, ρ') from eg)
      obtain ⟨ρ3, eb, es⟩ := bind_ok es
      have eb := orStuck_ok eb
      obtain ⟨bl1, bl2⟩ := bindT_len eb
      rw [wipe_len] at bl1
      obtain ⟨o2, ec, es⟩ := bind_ok es
      obtain ⟨c, et, es⟩ := bind_ok es
      refine ⟨F2, fp2, _, xs[i], ρ3, st3, fr3, eb, fun σ3 st4 hσ => ?_⟩
      have lσ : σ3.length = σ.length := by have := st4.len; have := st3.len; rw [L2.wipe_length] at *; rw [wipe_len] at *; omega
      have hσ3 : L2.wipe σ3 own = L2.wipe σ own := wipe_back lσ fun j hj => by
        rw [hσ j (by cases hh : t.has j with | true => exact absurd (hto j hh) hj | false => rfl), wipeL_at, if_neg (fun q => hj q.1)]
      refine ⟨hσ3, ?_⟩
      have pu3 : pb = true → ∀ j, j ∉ own → ρ3[j]? = ρ2[j]? := fun _ j hj => by
        rw [bl2 j (by cases hh : t.has j with | true => exact absurd (hto j hh) hj | false => rfl), wipe_at, if_neg (fun q => hj q.1)]
      have a4 := a.step st4 h0 ex3 hσ3 pu3 bl1
      refine ⟨F2, fp2, ρ3, st4, ?_⟩
      have ev : evT (C.S.gl n) tc ρ3 = .ok (c, o2.2) := by
        unfold evT
        rw [ec]
        show (truthy o2.1).bind _ = _
        rw [et]; rfl
      rw [ev]
      intro F5 fp5 H5 st5 ex5 pu5
      have le5 : o2.2.length = ρ3.length := st5.len.trans st4.len.symm
      have a5 := a4.step st5 h0 ex5 hσ3 (fun e j _ => by rw [show o2.2 = ρ3 from pu5 e]) le5
      cases c with
      | false =>
        cases es
        show if (false = true) then _ else _
        rw [if_neg (by simp)]
        exact ⟨acc, o2.2, F5, fp5, kps, a5, eg⟩
      | true =>
        show if (true = true) then _ else _
        rw [if_pos rfl]
        obtain ⟨ok, ek, es⟩ := bind_ok (show ((evE (C.S.gl n) tk o2.2).bind fun k => (evE (C.S.gl n) tv k.2).bind fun v => dsnoc acc k.1 v.1 v.2) = .ok o1 from es)
        obtain ⟨ow, ew, es⟩ := bind_ok es
        unfold dsnoc at es
        split at es
        · rename_i hk
          rw [Bool.and_eq_true, decide_eq_true_eq] at hk
          cases es
          refine ⟨F5, fp5, o2.2, st5, ?_⟩
          rw [ek]
          intro F6 fp6 fr6 H6 p6 st6 ex6 pu6 ow6 hf6
          have le6 : ok.2.length = o2.2.length := st6.len.trans st5.len.symm
          have a6 := a5.step st6 h0 ex6 hσ3 (fun e j _ => by rw [show ok.2 = o2.2 from pu6 e]) le6
          refine ⟨F6, fp6, ok.2, st6, ?_⟩
          rw [ew]
          intro F7 fp7 fr7 H7 p7 st7 ex7 pu7 ow7 hf7
          have le7 : ow.2.length = ok.2.length := st7.len.trans st6.len.symm
          have a7 := a6.step st7 h0 ex7 hσ3 (fun e j _ => by rw [show ow.2 = ok.2 from pu7 e]) le7
          obtain ⟨kk, ekv, ekp, okk⟩ := key_flat hk.1 ow6.1.b1
          subst ekp
          refine ⟨kps, kk, rfl, a7.hD, ?_, ?_⟩
          · rw [← a7.it.length]; exact Nat.lt_of_lt_of_le hk.2 big_line
          · refine ⟨dput acc ok.1 ow.1, ow.2, F7, fp7, putK kps kk p7, ?_, eg⟩
            rw [← ekv]
            exact a7.put hD okk ow7.1
        · cases es
    · have e : i = xs.length := by omega
      subst e
      rw [List.drop_length] at eg
      cases eg
      refine .inl ⟨stop rfl, ?_⟩
      have stb := st1.unwipe a.st (st1.keeps a.ex) a.ex.sub h0 a.len
      have exb : Ext b F fp H F2 fp2 H2 := ex1.trans (a.ex.to hpb)
      refine q F2 fp2 (fun x => x = D) H2 (.ref D) stb exb (fun e => ?_) ⟨D, kps, rfl, a.nF, a.hD, a.it, fun x => Iff.rfl⟩ fun x z => ?_
      · have e2 : ρ1 = ρ := pu1 e
        show MP.back ρ1 _ own = ρ
        rw [← e2]
        apply List.ext_getElem?
        intro j
        rw [back_at _ _ _ _ a.len]
        by_cases hj : j ∈ own
        · rw [if_pos hj]
        · rw [if_neg hj]; exact a.pu (hpb e) j hj
      · rw [z]
        exact ⟨ex1.back (.inl hD), a.nf⟩
theorem je_dc {ke ve tg iter : Expr} {ifs : List Expr} {scope : Scope} {own : List (PySem.Str × Nat)} {pos : Pos} {tk tv tc : MP.E} {t : MP.T} {ti : MP.It} {pb : Bool} (hpb : b = true → pb = true) (hfz : fz = true ∨ pb = true) (ok : blkC C.N C.sc scope own = true)
    (h0 : (own.all fun p => Γ.getD p.2 0 == 0) = true) (hto : ∀ j, t.has j = true → j ∈ own.map (·.2)) (hi : JI C Γ b fz tg iter ti) (hg : JG (C.bl scope) Γ tg t) (hc : JTs (C.bl scope) Γ pb ifs tc) (hk : JE (C.bl scope) Γ pb 0 ke tk) (he : JE (C.bl scope) Γ pb 0 ve tv)
    (hs : ∀ (env : PySem.Env) x, foldedSetIterable iter env x = pure x) : JE C Γ b 1 (.DictComp ke ve [⟨tg, iter, ifs, 0⟩] scope pos) (.dc tk tv t ti tc (own.map (·.2))) := by
  intro n R E X cx
  refine (pe_dc (g := tG X.K (C.bl scope) Γ t) (tt := tT X.K C.S Γ pb (fun _ _ _ => False) (evT (C.S.gl n) tc)) (tk := tE X.K C.S Γ pb 0 (fun _ _ _ => False) (evE (C.S.gl n) tk)) (tv := tE X.K C.S Γ pb 0 (fun _ _ _ => False) (evE (C.S.gl n) tv)) cx.calm (by rw [cx.names]; exact cx.nd) (hi cx) (by rw [cx.names, cx.scope]; exact blkOk_by ok) (fun s H A cl fp => hg (cx.bl s H A cl fp)) (fun s H A cl fp => hc (cx.bl s H A cl fp)) (fun s H A cl fp => hk (cx.bl s H A cl fp)) (fun s H A cl fp => he (cx.bl s H A cl fp)) (hs X.env)).imp fun σ H Q q => ?_
  exact dc_imp hpb hfz (fun i hi => by
    obtain ⟨p, hp, rfl⟩ := List.mem_map.mp hi
    exact eq_of_beq (List.all_eq_true.mp h0 p hp)) hto q
end
section
variable {X : Cx}
theorem sw_trueD {kx vx : Expr} {gs : List Comprehension} {scope : Scope} {pos py : Pos} {y : PySem.Str} {l : Nat} {env : PySem.Env} (hk : env.scope.kind = .function) (hy : env.scope.names.lookup y = some .local) (hl : (py.line == pos.line) = true)
    (ha : (scope.names.any fun (n, k) => n == y && (k == .local || k == .cell)) = false) : swapsWith (.DictComp kx vx gs scope pos) (some (.Name y py)) l env = pure true := by
  have ky : env.kindOf y = some .local := hy
  have hb : env.blockKind = .function := by unfold PySem.Env.blockKind; rw [hk]; rfl
  unfold swapsWith
  simp only [hb, ky, ha, Expr.pos, hl]
  rfl
theorem ps_setDc {i : Nat} {y : PySem.Str} {py : Pos} {kx vx tg iter : Expr} {ifs : List Expr} {scope : Scope} {own : List (PySem.Str × Nat)} {pos spos : Pos} {wi : TI} {g : TG} {tt : TT} {tk tv : TE} (hc : X.calm = true) (hN : X.N.Nodup) (hy : X.N[i]? = some y) (hyl : X.env.scope.names.lookup y = some .local)
    (hsw : swapsWith (.DictComp kx vx [⟨tg, iter, ifs, 0⟩] scope pos) (some (.Name y py)) spos.line X.env = pure true) (hi : PI X tg iter wi) (ok : BlkOk X.N X.env.scope scope own)
    (hg : ∀ (s : Shared) (H : Hp) (C : Addr) (cl : List (PySem.Str × Addr)) (fp : List Addr), PG (X.blk s H scope (compEnvC scope cl C X.env) fp) tg g) (ht : ∀ (s : Shared) (H : Hp) (C : Addr) (cl : List (PySem.Str × Addr)) (fp : List Addr), PTs (X.blk s H scope (compEnvC scope cl C X.env) fp) ifs tt)
    (hk : ∀ (s : Shared) (H : Hp) (C : Addr) (cl : List (PySem.Str × Addr)) (fp : List Addr), PE (X.blk s H scope (compEnvC scope cl C X.env) fp) kx tk)
    (he : ∀ (s : Shared) (H : Hp) (C : Addr) (cl : List (PySem.Str × Addr)) (fp : List Addr), PE (X.blk s H scope (compEnvC scope cl C X.env) fp) vx tv) (hs : ∀ x, foldedSetIterable iter X.env x = pure x) :
    PS X (.Assign [.Name y py] (.DictComp kx vx [⟨tg, iter, ifs, 0⟩] scope pos) spos) (tAsg (tDc wi g tt tk tv (own.map (·.2))) (gName i)) := by
  refine ⟨fun pins s σ H D I h => ?_⟩
  rw [exec_Assign_Name_used _ _ _ _ hsw]
  refine wpAny_bind (wpAny_standAt (wpAny_bind ?_))
  show wpAny _ X.A (do let _ ← comprehension (.DictComp kx vx [⟨tg, iter, ifs, 0⟩] scope pos) scope X.env (firstIterPos [⟨tg, iter, ifs, 0⟩] pos) newDict false (eval iter X.env) (some (assign (.Name y py) X.env))) _ _ s
  have h : tDc wi g tt tk tv (own.map (·.2)) σ H (fun x H1 => gName i x σ H1 D.nx) := h
  refine wpAny_bind (thn (dc_core (Qf := fun _ s' => SP X pins D .next s') hc hN I hi ok hg ht hk he hs h fun L C s' m H' I' q hn f => ?_) fun _ s' hq => wpAny_pure (wpAny_pure hq))
  show wpAny _ _ (assign (.Name y py) X.env (.ref L)) _ _ _
  refine wpAny_assign_Name (store_ok2 (v := V.ref L) I' hN hy (.inl hyl) rfl (fun s2 I2 ⟨a, sb, ha⟩ => ?_) (.inr hyl))
  obtain ⟨f0, f1, f2, f3, f4, f5⟩ := f
  have haC : C ≠ a := by
    rcases ha with z | z
    · rw [z]; exact f1
    · exact fun e => f4 y a z e.symm
  refine ⟨m, hn.sameBut sb haC, fun h3 sb3 => ?_⟩
  exact ⟨_, H', I2.turned (t' := s2.toks) (fun b o hb e => (sb3.2 b hb).trans e) f0 f1 f3 f4 f5, q⟩
end
section
variable {S : Stat} {Γ : List Nat} {b fz : Bool} {C : Ct}
theorem js_setDc {i : Nat} {y : PySem.Str} {py spos : Pos} {ke ve tg iter : Expr} {ifs : List Expr} {scope : Scope} {own : List (PySem.Str × Nat)} {pos : Pos} {tk tv tc : MP.E} {t : MP.T} {ti : MP.It} {pb : Bool} (hN : C.N[i]? = some y) (hy : C.sc.names.lookup y = some .local) (hkd : C.sc.kind = .function)
    (hk1 : (Γ.set i 1).getD i 0 = 1) (hio : C.io.all (fun q => q.1 != i) = true) (hl : (py.line == pos.line) = true) (ha : (scope.names.any fun (n, k) => n == y && (k == .local || k == .cell)) = false)
    (hpb : b = true → pb = true) (hfz : fz = true ∨ pb = true) (ok : blkC C.N C.sc scope own = true)
    (h0 : (own.all fun p => Γ.getD p.2 0 == 0) = true) (hto : ∀ j, t.has j = true → j ∈ own.map (·.2)) (hi : JI C Γ b fz tg iter ti) (hg : JG (C.bl scope) Γ tg t) (hc : JTs (C.bl scope) Γ pb ifs tc) (hk : JE (C.bl scope) Γ pb 0 ke tk) (he : JE (C.bl scope) Γ pb 0 ve tv)
    (hs : ∀ (env : PySem.Env) x, foldedSetIterable iter env x = pure x) : JS C Γ (.Assign [.Name y py] (.DictComp ke ve [⟨tg, iter, ifs, 0⟩] scope pos) spos) (.set i (.dc tk tv t ti tc (own.map (·.2)))) (Γ.set i 1) := by
  intro n R E X cx
  refine (ps_setDc (g := tG X.K (C.bl scope) Γ t) (tt := tT X.K C.S Γ pb (fun _ _ _ => False) (evT (C.S.gl n) tc)) (tk := tE X.K C.S Γ pb 0 (fun _ _ _ => False) (evE (C.S.gl n) tk)) (tv := tE X.K C.S Γ pb 0 (fun _ _ _ => False) (evE (C.S.gl n) tv)) cx.calm (by rw [cx.names]; exact cx.nd) (by rw [cx.names]; exact hN) (by rw [cx.scope]; exact hy)
    (sw_trueD (by rw [cx.scope]; exact hkd) (by rw [cx.scope]; exact hy) hl ha) (hi cx) (by rw [cx.names, cx.scope]; exact blkOk_by ok) (fun s H A cl fp => hg (cx.bl s H A cl fp)) (fun s H A cl fp => hc (cx.bl s H A cl fp)) (fun s H A cl fp => hk (cx.bl s H A cl fp)) (fun s H A cl fp => he (cx.bl s H A cl fp)) (hs X.env)).imp fun D σ H q => ?_
  refine dc_imp hpb hfz (fun i hi => by
    obtain ⟨p, hp, rfl⟩ := List.mem_map.mp hi
    exact eq_of_beq (List.all_eq_true.mp h0 p hp)) hto (Q := fun x H1 => D.nx (σ.set i (some x)) H1) ?_
  refine tE_S (f := fun x => .ok (.next, put x.2 i x.1)) (Γ' := Γ.set i 1) (C := C) (D := D) q fun F fp ρ F1 fp1 H1 o p fr st st1 ex1 ow hf q => ?_
  exact q F1 _ _ H1 (st1.set (by rw [hk1]; exact ow) fun a z => (hf a z).2) (ext_set ex1 fun a z => (hf a z).1) fun q hq => noio hio hq
end
end MP
/-! MiniPy against the hand layer: sets of ints from lists -/
namespace L2
open PySem PySem.Spec PyProof.Rows
section
variable {P : Program} {w : World} {A : Around} {E : Value → Shared → Prop} {s : Shared}
set_option maxHeartbeats 3200000 in
theorem call_set_lstI {l : Addr} {items : Array Value} (ns : List Int) {Q : Value → Shared → Prop} (hh : A.handled = none) (hl : s.heap.IsList l items) (hit : IntsAre items.toList ns) (hb : ns.length + 1 < scanBound)
    (h : ∀ (h' : Heap) (tk c : Nat), SetR w h' s.heap.objs.size (fun j => decide (j ∈ ns)) c → c ≤ ns.length → (∀ b o, s.heap.get? b = some o → h'.get? b = some o) → Q (.ref s.heap.objs.size) { s with heap := h', toks := tk }) :
    wpAny (model P w) A (call (.type "set") [.ref l]) Q E s := by
  have hisz : items.size = ns.length := by
    have q := IntsAre.length hit
    rw [Array.length_toList] at q
    exact q
  obtain ⟨c, tl, hmro⟩ := F.called_set.mro
  have hmade := F.called_set.made
  have hsub := F.called_set.sub
  refine wpAny_call (codeAny_of_tree ?_)
  show wpAny _ _ (callAny (.type "set") _) _ _ _
  refine wpAny_pure ⟨Code.quiet_builtin _ (by decide +kernel), codeAny_builtin F.entry_type_call ?_⟩
  rw [Around.under_plain (weight_type_call_type "set" [.ref l] []) rfl]
  have h1 := F.called_set.notType
  have h2 := F.called_set.canCreate
  have hct := F.typeCall_set_1 (.ref l)
  repeat (any_goals (first | assumption | wp_step))

  refine codeAny_mono (code_set_led1 (.ref l) (E := E) (Q₁ := fun obj s₁ => obj = .ref s.heap.objs.size ∧ s₁ = { s with heap := s.heap.push { cls := .type "set", dict := none, data := .set #[] 0 (.fresh 0 0 (!w.params.followText "set-order")) } }) ⟨rfl, rfl⟩) fun r s₁ hr => ?_
  cases r with
  | error e => exact hr
  | ok fl =>
    cases fl with
    | ret obj =>
      obtain ⟨rfl, rfl⟩ := hr
      have hS : (s.heap.push { cls := .type "set", dict := none, data := .set #[] 0 (.fresh 0 0 (!w.params.followText "set-order")) }).get? s.heap.objs.size = some { cls := .type "set", dict := none, data := .set #[] 0 (.fresh 0 0 (!w.params.followText "set-order")) } := Heap.get?_push_size _ rfl
      have hT : Shared.TypeIs { s with heap := s.heap.push { cls := .type "set", dict := none, data := .set #[] 0 (.fresh 0 0 (!w.params.followText "set-order")) } } (.ref s.heap.objs.size) "set" := ⟨_, hS, rfl⟩
      have hli := F.called_set.init.lookup
      have hbi := F.called_set.init.bind (.ref s.heap.objs.size)
      repeat (any_goals (first | assumption | wp_step))

      refine codeAny_mono (codeAny_call_builtin (R := wants (fun r s₂ => r = .none ∧ ∃ h' tk c, s₂ = { s with heap := h', toks := tk } ∧ SetR w h' s.heap.objs.size (fun j => decide (j ∈ ns)) c ∧ c ≤ ns.length ∧
          (∀ b o, s.heap.get? b = some o → h'.get? b = some o)) E) F.called_set.init.plain F.entry_set_init (check_set_init_1 hT ?_)) fun r₂ s₂ hr₂ => ?_
      · obtain ⟨ol, hol, hcl, nl, hdl⟩ := hl
        obtain ⟨ocls, odict, odata, oslots⟩ := ol
        simp only at hcl hdl
        subst hcl; subst hdl
        have hol' : (s.heap.push { cls := .type "set", dict := none, data := .set #[] 0 (.fresh 0 0 (!w.params.followText "set-order")) }).get? l = some { cls := .type "list", dict := odict, data := .seq items nl, slots := oslots } := Heap.get?_push_of_some _ hol
        have hsls := F.sub_list_set
        have hslf := F.sub_list_frozenset
        have hne : (Value.type "list" == Value.type "dict") = false := by decide
        have hl1 : (s.heap.push { cls := .type "set", dict := none, data := .set #[] 0 (.fresh 0 0 (!w.params.followText "set-order")) }).IsList l items := ⟨_, hol', rfl, nl, rfl⟩
        unfold Builtin.«set.__init__» noKeywords Builtin.Frozenset.updateFrom
        generalize hPI : pyIter = PI
        wp_walk
        subst hPI

        refine wpAny_pyIter_list hl1 ?_
        refine wpAny_bind (wpAny_runValue ?_)
        have hlS : l < s.heap.objs.size := Heap.lt_size hol
        have hh3 : A.in1.in1.in1.handled = none := by simp [hh]
        have hz1 : (s.heap.push { cls := .type "set", dict := none, data := .set #[] 0 (.fresh 0 0 (!w.params.followText "set-order")) }).objs.size = s.heap.objs.size + 1 := Heap.size_push ..
        have hneI : l ≠ (s.heap.push { cls := .type "set", dict := none, data := .set #[] 0 (.fresh 0 0 (!w.params.followText "set-order")) }).objs.size := by
          rw [Heap.size_push]; exact Nat.ne_of_lt (Nat.lt_succ_of_lt hlS)
        have hSf : s.heap.objs.size ∉ [(s.heap.push { cls := .type "set", dict := none, data := .set #[] 0 (.fresh 0 0 (!w.params.followText "set-order")) }).objs.size, l] := by
          rw [Heap.size_push]; simp only [List.mem_cons, List.mem_singleton, List.not_mem_nil, or_false, not_or]
          exact ⟨Nat.ne_of_lt (Nat.lt_succ_self _), Nat.ne_of_gt hlS⟩
        have hval : ∀ (i : Nat) (v : Value), items[i]? = some v → ∃ k t, ns[i]? = some k ∧ v = .int k t := fun i v hv => by
          have hi : i < ns.length := by rw [← hisz]; exact (Array.getElem?_eq_some_iff.mp hv).1
          obtain ⟨t, e⟩ := PyProof.Rows.IntsAre.int_at hit i v (by rw [Array.getElem?_toList]; exact hv)
          refine ⟨ns[i], t, List.getElem?_eq_getElem hi, ?_⟩
          rw [e, List.getD_eq_getElem?_getD, List.getElem?_eq_getElem hi] <;> rfl
        refine set_update_ints ((Walks.list hh3 _ l hneI items).toS) s.heap.objs.size
          hSf ns hisz hb hval (items.size - 0) 0 _ (by omega) (Nat.zero_le _)
          ⟨⟨_, Heap.get?_push_size _ rfl, rfl, rfl⟩, (hl1.push _)⟩ ?hS0 ?hR
        case hS0 =>
          have hget : ((s.heap.push { cls := .type "set", dict := none, data := .set #[] 0 (.fresh 0 0 (!w.params.followText "set-order")) }).push { cls := .type "list_iterator", data := .fields #[.ref l, .int 0 0] }).get? s.heap.objs.size
              = some { cls := .type "set", dict := none, data := .set #[] 0 (.fresh 0 0 (!w.params.followText "set-order")) } := Heap.get?_push_of_some _ hS
          exact ⟨0, Nat.le_refl 0, setR_new_at hget⟩
        case hR =>
          intro s' c' hm hc' hS'
          obtain ⟨h', g2, d', tk', os'⟩ := s'
          have eg : g2 = s.gens := hm.gens
          have ed : d' = s.drawn := hm.drawn
          have eo : os' = s.os := hm.os
          subst eg; subst ed; subst eo
          show wpAny _ _ _ _ _ _
          refine wpAny_pure ?_
          show wpAny _ _ (ret Value.none) _ _ _
          rw [hisz] at hc'
          refine wpAny_pure ⟨rfl, h', tk', c', rfl, hS', hc', fun b o e => ?_⟩
          have hb0 : b < s.heap.objs.size := Heap.lt_size e
          have hb1 : b ≠ s.heap.objs.size := Nat.ne_of_lt hb0
          have hb2 : b ≠ (s.heap.push { cls := .type "set", dict := none, data := .set #[] 0 (.fresh 0 0 (!w.params.followText "set-order")) }).objs.size := by
            rw [Heap.size_push]; exact Nat.ne_of_lt (Nat.lt_succ_of_lt hb0)
          exact hm.heap b o (by simp only [List.mem_cons, List.mem_singleton, List.not_mem_nil, or_false, not_or]; exact ⟨hb1, hb2⟩) (Heap.get?_push_of_some _ (Heap.get?_push_of_some _ e))

      · cases r₂ with
        | error e => exact hr₂
        | ok fl₂ =>
          cases fl₂ with
          | ret r =>
            obtain ⟨rfl, h', tk, c', rfl, hS', hc', hk'⟩ := hr₂
            repeat (any_goals (first | assumption | wp_step))
            exact h _ _ _ hS' hc' hk'
          | _ => exact hr₂.elim
    | _ => exact hr.elim

end
end L2
namespace MP
open L2 PySem.Spec PySem PyProof.Rows
section
variable {X : Cx}
theorem setR_card {w : World} {h : Heap} {a : Addr} {ns : List Int} {c : Nat} (R : SetR w h a (fun j => decide (j ∈ ns)) c) (l : List Int) (nd : l.Nodup) (hm : ∀ k, k ∈ l ↔ k ∈ ns) : c = l.length := by
  obtain ⟨o, es, ep, t, ho, hex, hd, g, nd2, hm2, hb, hf, hn, hr, hl⟩ := R
  have pm : (es.toList.map L2.keyOf).Perm l := (List.perm_ext_iff_of_nodup nd2 nd).mpr fun k => by
    rw [← hm2 k, hm k, decide_eq_true_eq]
  rw [← pm.length_eq, List.length_map, Array.length_toList]; exact hn.symm
/-- set(xs), a list of ints -/
def rSetL (X : Cx) : List V → Hp → VK → Prop := fun xs H Q => ∃ (l : Addr) (ns : List Int), xs = [V.ref l] ∧ SqL X.K H l (ns.map V.int) ∧ ns.length ≤ 4000 ∧ ∀ p c, H p = none → (∀ l : List Int, l.Nodup → (∀ k, k ∈ l ↔ k ∈ ns) → c = l.length) → Q (.ref p) (upd H p (SetO X.w p (fun j => decide (j ∈ ns)) c))
theorem cr_setL (hc : X.calm = true) : CallR X (.type "set") (rSetL X) := by
  intro pins s σ H xs us Q I r h
  obtain ⟨l, ns, rfl, hq, hlen, q⟩ := h
  rw [Vals.ref1 r]
  obtain ⟨its, rv, pl, hz⟩ := I.list hq
  refine call_set_lstI ns (I.ok.hd hc) pl.isList (by simpa using rv.ints) (by unfold scanBound; omega) fun h' tk c R hcl hk => ?_
  exact ⟨.ref s.heap.objs.size, upd H s.heap.objs.size (SetO X.w s.heap.objs.size (fun j => decide (j ∈ ns)) c), I.laid (t' := tk) hk (Nat.le_refl _) (setO_new R), rfl, q _ c (I.hok.fresh (Nat.le_refl _)) fun l nd hm => setR_card R l nd hm⟩
end
end MP
/-! MiniPy against the hand layer: list(range), least and greatest of two or three, text of an integer, x += n -/
namespace MP
open L2 PySem.Spec PySem PyProof.Rows

section
variable {K : Fg} {S : Stat} {Γ Γ' Γ1 Γ2 : List Nat} {F F' : AS} {fp fp' : Nat → AS} {ρ : MP.Env} {σ : L2.St} {H H' : Hp} {b fz : Bool} {k : Nat} {E : XK} {C : Ct}
theorem frs_rg : ∀ (a : Int) (n : Nat), FRs K F H (rngL a n) ((List.range n).map fun (i : Nat) => V.int (a + (i : Nat))) := fun a n => by
  unfold rngL
  generalize List.range n = l
  induction l with
  | nil => exact .nil
  | cons i l ih => exact .cons (.int _) ih
theorem rng_ok {a b : Int} (ha : lim a = true) (hb : lim b = true) (hl : (b - a).toNat ≤ big) : RgOk a b := by
  have h1 := lim_of ha
  have h2 := lim_of hb
  unfold big at hl
  exact ⟨h1.1, h1.2, h2.1, h2.2, by omega⟩
def rLR1 (x : V) (H : Hp) (Q : VK) : Prop := ∃ n, x = .int n ∧ RgOk 0 n ∧ ∀ q, H q = none → Q (.ref q) (upd H q (.lst (rgV 0 n)))
theorem p1_listRange : P1 K 1 rLR1 fun v => blt .listRange [v] := by
  intro F H x v p Q hF hx e hq
  cases x <;> first | (cases e; done) | skip
  rename_i n
  simp only [blt, range] at e
  split at e
  · rename_i hl
    simp only [Res.bind] at e
    split at e
    · rename_i hz
      cases e
      cases B1.of_int hx
      refine ⟨n, rfl, rng_ok (by decide) hl (by simpa [rngL] using hz), ?_⟩
      have fr : FRs K F H (rngL 0 n.toNat) (rgV 0 n) := by
        unfold rgV
        rw [Int.sub_zero]
        exact frs_rg 0 n.toNat
      exact q_newL fr hF hq
    · cases e
  · cases e
theorem je_listRange {e : Expr} {t : MP.E} {p p2 q pos : Pos} (hb : Bn C "list" (.type "list")) (hb2 : Bn C "range" (.type "range")) (hs : NoStar e) (ha : JB C Γ b e t) : JE C Γ b 1 (.Call (.Name "list" p) [.Call (.Name "range" p2) [e] [] q] [] pos) (.blt .listRange (.cons t .nil)) :=
  je_prim1 (f := fun v => blt .listRange [v]) (r := fun X v H Q => rLR1 v H Q) (fun G => evE_blt1 (by intro h; cases h))
    (fun {n R E X} cx tl hl => pe_listRg cx.calm (hb.gl cx) (hb.mg cx) (prg_1 (hb2.gl cx) (hb2.mg cx) hl (hs [] X.env)) rfl) (fun X => p1_listRange) (fun v => nox_blt _ _) ha
/-- a built-in function over values -/
theorem je_callA {x : PySem.Str} {id : String} {bl : Blt} {e : Expr} {es : List Expr} {ts : MP.Es} {ss : List (Option Nat)} {p pos : Pos} {r : Cx → List V → Hp → VK → Prop} (hb : Bn C x (.builtin id)) (hc : ∀ {n R E X}, CxOk C.S R n C.N C.sc C.fn E X → CallR X (.builtin id) (r X))
    (hev : ∀ G ρ, evE G (.blt bl ts) ρ = (evEs G ts ρ).bind fun x => (blt bl x.1).bind fun v => .ok (v, x.2))
    (hp : ∀ (X : Cx) (F : AS) (H : Hp) (σ : L2.St) (vs : List Val) (ps : List V) (v : Val) (Q : VK), Arg X.K F H σ ss vs ps → blt bl vs = .ok v → (∀ H' fr z, (∀ a, H a ≠ none → H' a = H a) → Own X.K F H' k v z fr → (∀ a, fr a → H a = none) → Q z H') → r X ps H Q)
    (hs : NoStar e) (hpl : ∀ (env : PySem.Env) (p : Pos), (backTo p (starEach es env)).any (·.1) = false) (h : JA C Γ b ss (e :: es) ts) : JE C Γ b k (.Call (.Name x p) (e :: es) [] pos) (.blt bl ts) := by
  intro n R E X cx
  refine (pe_callB (hc cx) (hb.gl cx) (hb.mg cx) hb.v (h cx) hb.n hb.d (hs es X.env) (hpl X.env pos)).imp fun σ H Q q => ?_
  obtain ⟨F, fp, ρ, st, q⟩ := q
  rw [hev, RSat.bind] at q
  refine ⟨F, fp, ρ, st, q.mono (fun o _ q F1 fp1 H1 ps st1 ex1 pu1 ar => ?_) fun _ _ x => x⟩
  rw [RSat.bind] at q
  cases e1 : blt bl o.1 with
  | exc c vs => exact absurd e1 (nox_blt _ _ c vs)
  | stuck => rw [e1] at q; exact q.elim
  | ok v =>
    rw [e1] at q
    exact hp X F1 H1 σ o.1 ps v Q ar e1 (prim_fin st1 ex1 pu1 q)
theorem arg2 {vs : List Val} {ps : List V} (ar : Arg K F H σ [none, none] vs ps) : ∃ v1 v2 p1 p2, vs = [v1, v2] ∧ ps = [p1, p2] ∧ FR K F H v1 p1 ∧ FR K F H v2 p2 := by
  cases ar with
  | val f r =>
    cases r with
    | val g r =>
      cases r
      exact ⟨_, _, _, _, rfl, rfl, f, g⟩
theorem arg3 {vs : List Val} {ps : List V} (ar : Arg K F H σ [none, none, none] vs ps) : ∃ v1 v2 v3 p1 p2 p3, vs = [v1, v2, v3] ∧ ps = [p1, p2, p3] ∧ FR K F H v1 p1 ∧ FR K F H v2 p2 ∧ FR K F H v3 p3 := by
  cases ar with
  | val f r =>
    cases r with
    | val g r =>
      cases r with
      | val h r =>
        cases r
        exact ⟨_, _, _, _, _, _, rfl, rfl, f, g, h⟩
theorem je_min2 {a1 a2 : Expr} {ts : MP.Es} {p pos : Pos} (hb : Bn C "min" (.builtin "min")) (hs : NoStar a1) (hs2 : NoStar a2) (h : JA C Γ b [none, none] [a1, a2] ts) : JE C Γ b k (.Call (.Name "min" p) [a1, a2] [] pos) (.blt .min ts) :=
  je_callA hb (fun cx => call_min2 cx.calm) (fun _ _ => rfl) (fun X F H σ vs ps v Q ar e hq => by
    obtain ⟨v1, v2, p1, p2, rfl, rfl, f1, f2⟩ := arg2 ar
    cases v1 <;> cases v2 <;> first | (cases e; done) | skip
    cases FR.intS f1
    cases FR.intS f2
    cases e
    exact ⟨_, _, rfl, q_imm (.int _) rfl hq⟩) hs (fun env p => by rw [hs2 [] env]; rfl) h
theorem je_max2 {a1 a2 : Expr} {ts : MP.Es} {p pos : Pos} (hb : Bn C "max" (.builtin "max")) (hs : NoStar a1) (hs2 : NoStar a2) (h : JA C Γ b [none, none] [a1, a2] ts) : JE C Γ b k (.Call (.Name "max" p) [a1, a2] [] pos) (.blt .max ts) :=
  je_callA hb (fun cx => call_max2 cx.calm) (fun _ _ => rfl) (fun X F H σ vs ps v Q ar e hq => by
    obtain ⟨v1, v2, p1, p2, rfl, rfl, f1, f2⟩ := arg2 ar
    cases v1 <;> cases v2 <;> first | (cases e; done) | skip
    cases FR.intS f1
    cases FR.intS f2
    cases e
    exact ⟨_, _, rfl, q_imm (.int _) rfl hq⟩) hs (fun env p => by rw [hs2 [] env]; rfl) h
theorem nuMin_int (a b : Int) : nuMin2 (.int a) (.int b) = some (.int (min a b)) := by
  show (some (decide (b < a))).map (fun c => if c = true then V.int b else V.int a) = _
  by_cases h : b < a
  · rw [decide_eq_true h, show min a b = b by omega]; rfl
  · rw [decide_eq_false h, show min a b = a by omega]; rfl
theorem nuMax_int (a b : Int) : nuMax2 (.int a) (.int b) = some (.int (max a b)) := by
  show (some (decide (a < b))).map (fun c => if c = true then V.int b else V.int a) = _
  by_cases h : a < b
  · rw [decide_eq_true h, show max a b = b by omega]; rfl
  · rw [decide_eq_false h, show max a b = a by omega]; rfl
theorem je_min3 {a1 a2 a3 : Expr} {ts : MP.Es} {p pos : Pos} (hb : Bn C "min" (.builtin "min")) (hs : NoStar a1) (hs2 : NoStar a2) (hs3 : NoStar a3) (h : JA C Γ b [none, none, none] [a1, a2, a3] ts) : JE C Γ b k (.Call (.Name "min" p) [a1, a2, a3] [] pos) (.blt .min ts) :=
  je_callA hb (fun cx => call_min3Nu cx.calm) (fun _ _ => rfl) (fun X F H σ vs ps v Q ar e hq => by
    obtain ⟨v1, v2, v3, p1, p2, p3, rfl, rfl, f1, f2, f3⟩ := arg3 ar
    cases v1 <;> cases v2 <;> cases v3 <;> first | (cases e; done) | skip
    cases FR.intS f1
    cases FR.intS f2
    cases FR.intS f3
    cases e
    refine ⟨_, _, _, _, rfl, ?_, q_imm (.int _) rfl hq⟩
    unfold nuMin3
    rw [nuMin_int]
    exact nuMin_int _ _) hs (fun env p => by rw [hs2 [a3] env, hs3 [] env]; rfl) h
theorem je_max3 {a1 a2 a3 : Expr} {ts : MP.Es} {p pos : Pos} (hb : Bn C "max" (.builtin "max")) (hs : NoStar a1) (hs2 : NoStar a2) (hs3 : NoStar a3) (h : JA C Γ b [none, none, none] [a1, a2, a3] ts) : JE C Γ b k (.Call (.Name "max" p) [a1, a2, a3] [] pos) (.blt .max ts) :=
  je_callA hb (fun cx => call_max3Nu cx.calm) (fun _ _ => rfl) (fun X F H σ vs ps v Q ar e hq => by
    obtain ⟨v1, v2, v3, p1, p2, p3, rfl, rfl, f1, f2, f3⟩ := arg3 ar
    cases v1 <;> cases v2 <;> cases v3 <;> first | (cases e; done) | skip
    cases FR.intS f1
    cases FR.intS f2
    cases FR.intS f3
    cases e
    refine ⟨_, _, _, _, rfl, ?_, q_imm (.int _) rfl hq⟩
    unfold nuMax3
    rw [nuMax_int]
    exact nuMax_int _ _) hs (fun env p => by rw [hs2 [a3] env, hs3 [] env]; rfl) h
/-! ### x += n -/
theorem js_aug {i : Nat} {x : PySem.Str} {e : Expr} {t : MP.E} {p' pos : Pos} {o : Bin} {op : Operator} (hop : (o = .add ∧ op = .Add) ∨ (o = .sub ∧ op = .Sub)) (hN : C.N[i]? = some x) (hx : StOk C x = true) (hk : Γ.getD i 0 = 0) (hk2 : (Γ.set i 0).getD i 0 = 0) (hio : C.io.all (fun q => q.1 != i) = true) (h : JE C Γ b 0 e t) :
    JS C Γ (.AugAssign (.Name x p') op e pos) (.aug i o t) (Γ.set i 0) := by
  intro n R E X cx
  have ho : PIp X op (ipI fun a b => if o = .add then a + b else a - b) := by
    rcases hop with ⟨rfl, rfl⟩ | ⟨rfl, rfl⟩
    · exact ip_add
    · exact ip_sub
  refine (ps_aug (by rw [cx.names]; exact cx.nd) (by rw [cx.names]; exact hN) (StOk.loc hx cx).1 (h cx) ho (StOk.loc hx cx).2).imp fun D σ H q => ?_
  obtain ⟨F, fp, ρ, st, q⟩ := q
  have q : RSat ((MP.get ρ i).bind fun x => (evE (C.S.gl n) t ρ).bind fun y => (augR o x y.1).bind fun v => Res.ok (MP.Flow.next, put y.2 i v)) _ _ := q
  cases e1 : MP.get ρ i with
  | stuck => rw [e1] at q; exact q.elim
  | exc c vs => rw [e1] at q; unfold MP.get at e1; split at e1 <;> cases e1
  | ok v =>
    rw [e1] at q
    have hr : ρ[i]? = some (some v) := by
      unfold MP.get at e1
      split at e1
      · cases e1; assumption
      · cases e1
    obtain ⟨p, hp, ow⟩ := st.rep i v hr
    rw [hk] at ow
    refine ⟨p, hp, F, fp, ρ, st, ?_⟩
    have q : RSat ((evE (C.S.gl n) t ρ).bind fun y => (augR o v y.1).bind fun v => Res.ok (MP.Flow.next, put y.2 i v)) _ _ := q
    rw [RSat.bind] at q
    refine q.mono (fun o2 _ q F1 fp1 fr H1 py st1 ex1 pu1 ow1 hf => ?_) fun _ _ x => x
    rw [RSat.bind] at q
    obtain ⟨y, ρ2⟩ := o2
    have key : ∃ a c, v = .int a ∧ y = .int c ∧ augR o v y = .ok (.int (if o = .add then a + c else a - c)) := by
      rcases hop with ⟨rfl, rfl⟩ | ⟨rfl, rfl⟩ <;> cases v <;> first | exact False.elim q | skip
      all_goals cases y <;> first | exact False.elim q | exact ⟨_, _, rfl, rfl, rfl⟩
    obtain ⟨a, c, rfl, rfl, ea⟩ := key
    rw [ea] at q
    cases FR.intS ow.1
    cases FR.intS ow1.1
    exact ⟨a, c, rfl, rfl, q F1 _ _ H1 (st1.set (k := 0) (p := .int (if o = .add then a + c else a - c)) (fr := fun _ => False) (by rw [hk2]; exact ⟨.int _, fun _ z => z⟩) fun _ z => z.elim) (ext_set ex1 fun a z => z.elim) fun q hq => noio hio hq⟩
/-! ### the text of an integer -/
theorem str_small : ∀ n : Nat, n < 1000 → (Str.ofString (toString ((n : Nat) : Int)) == toStr (intText n)) = true ∧ cpOk (intText n) = true := by decide +kernel
theorem p1_str : P1 K k (fun v H Q => (fun xs H (Q : VK) => ∃ i, xs = [V.int i] ∧ i.natAbs.log2 < 1920 ∧ Q (.str (toString i)) H) [v] H Q) fun v => blt .str [v] := by
  intro F H x v p Q hF hx e hq
  cases x <;> first | (cases e; done) | skip
  rename_i i
  simp only [blt] at e
  split at e
  · rename_i hi
    cases e
    cases B1.of_int hx
    obtain ⟨n, rfl⟩ : ∃ n : Nat, i = (n : Int) := ⟨i.toNat, by omega⟩
    obtain ⟨h1, h2⟩ := str_small n (by omega)
    refine ⟨_, rfl, ?_, ?_⟩
    · have : ((n : Nat) : Int).natAbs = n := rfl
      rw [this]
      rcases Nat.eq_zero_or_pos n with z | z
      · subst z; decide
      · exact Nat.lt_trans ((Nat.log2_lt (by omega)).mpr (Nat.lt_trans (show n < 2 ^ 10 by omega) (by decide))) (show 11 < 1920 by decide)
    · show Q (.str (Str.ofString (toString ((n : Nat) : Int)))) H
      rw [eq_of_beq h1]
      exact q_imm (.str h2) rfl hq
  · cases e
theorem je_str1 {e : Expr} {t : MP.E} {p pos : Pos} (hb : Bn C "str" (.type "str")) (hs : NoStar e) (ha : JB C Γ b e t) : JE C Γ b k (.Call (.Name "str" p) [e] [] pos) (.blt .str (.cons t .nil)) :=
  je_call1T (r := fun X xs H Q => ∃ i, xs = [V.int i] ∧ i.natAbs.log2 < 1920 ∧ Q (.str (toString i)) H) hb (fun _ => call_str_int) (fun X => p1_str) (fun v => nox_blt _ _) (by intro h; cases h) hs ha
end
end MP
/-! MiniPy against the hand layer: methods of lists -/
namespace MP
open L2 PySem.Spec PySem PyProof.Rows

section
variable {K : Fg} {S : Stat} {Γ Γ' Γ1 Γ2 : List Nat} {F F' : AS} {fp fp' : Nat → AS} {ρ : MP.Env} {σ : L2.St} {H H' : Hp} {b fz : Bool} {k : Nat} {E : XK} {C : Ct}
theorem evE_mtl1 {G : MP.Gl} {m : Mth} {to te : MP.E} : evE G (.mtl m to (.cons te .nil)) = fun ρ => (evE G to ρ).bind fun x => if isLst x.1 = true then (evE G te x.2).bind fun y => (mth m x.1 [y.1]).bind fun v => .ok (v, y.2) else .stuck := by
  funext ρ
  simp only [evE, evEs]
  cases evE G to ρ with
  | ok x =>
    show (if isLst x.1 = true then _ else _) = (if isLst x.1 = true then _ else _)
    split
    · cases evE G te x.2 <;> rfl
    · rfl
  | exc _ _ => rfl
  | stuck => rfl
/-- a method of a list, one argument, nothing changed -/
theorem je_l1 {m : Mth} {id : String} {name : PySem.Str} {apos pos : Pos} {o e : Expr} {to te : MP.E} {r : Cx → V → List V → Hp → VK → Prop} (slot : Slot "list" name id) (ty : typeOf (.builtin id) = pure (.type "method_descriptor"))
    (rule : ∀ {n R E X}, CxOk C.S R n C.N C.sc C.fn E X → MtR X id (r X))
    (hr : ∀ (X : Cx) (F : AS) (H : Hp) (vs : List Val) (y v : Val) (p q : V) (Q : VK), (∀ a, F a → H a ≠ none) → B1 X.K F H (.lst vs) p → B1 X.K F H y q → mth m (.lst vs) [y] = .ok v → (∀ H' fr z, (∀ a, H a ≠ none → H' a = H a) → Own X.K F H' 1 v z fr → (∀ a, fr a → H a = none) → Q z H') → r X p [q] H Q)
    (hs : NoStar e) (hbase : ∀ env : PySem.Env, attributeBase o name env (eval o env) = eval o env)
    (hfew : ∀ env : PySem.Env, ((backTo pos (starEach [e] env)).all (fun x => !x.1) && (backToKw pos (keywordEach [] env)).all (fun x => x.1.isSome)
      && decide ([e].length + ([] : List Keyword).length + (if ([] : List Keyword).isEmpty then 0 else 1) < 30)) = true)
    (hline : (apos.endLine == pos.line) = true) (ho : JB C Γ b o to) (he : JB C Γ true e te) :
    JE C Γ b 1 (.Call (.Attribute o name apos) [e] [] pos) (.mtl m to (.cons te .nil)) := by
  intro n R E X cx
  refine (pe_bm F.plainAttrs_list slot ty (rule cx) (ho cx) (pa_cons (he cx) pa_nil (hs [] X.env)) (hbase X.env) (hfew X.env) hline (hs [] X.env) rfl).imp fun σ H Q q => ?_
  obtain ⟨F, fp, ρ, st, q⟩ := q
  rw [evE_mtl1] at q
  refine ⟨F, fp, ρ, st, ?_⟩
  rw [RSat.bind] at q
  refine q.mono (fun ox _ q F1 fp1 H1 p st1 ex1 pu1 bx => ?_) fun _ _ x => x
  cases hx : isLst ox.1 with
  | false => simp only [hx] at q; exact q.elim
  | true =>
    obtain ⟨vs, es⟩ := isLst_of hx
    simp only [hx, if_true] at q
    rw [es] at bx q
    obtain ⟨a, ps, rfl, ha, rs⟩ := _root_.id bx
    refine ⟨.inl ⟨rfl, ps, .inl ha⟩, F1, fp1, ox.2, st1, ?_⟩
    rw [RSat.bind] at q
    refine q.mono (fun oy _ q F2 fp2 H2 p2 st2 ex2 pu2 b2 => ?_) fun _ _ x => x.ext ex1
    rw [RSat.bind] at q
    have al : ∀ a, H1 a ≠ none → H2 a = H1 a := fun a n => ex2.same a n (.inl rfl)
    have bx2 : B1 X.K F2 H2 (.lst vs) (.ref a) := ⟨a, ps, rfl, rd_same al ha, rs.mono (keeps_same al) ex2.sub⟩
    cases em : mth m (.lst vs) [oy.1] with
    | stuck => rw [em] at q; exact q.elim
    | exc c vs => exact absurd em (nox_mth _ _ _ c vs)
    | ok v =>
      rw [em] at q
      exact hr X F2 H2 vs oy.1 v (.ref a) p2 Q st2.tr bx2 b2 em (prim_fin st2 (ex1.trans (ex2.to fun _ => rfl)) (fun e => (pu2 rfl).trans (pu1 e)) q)
theorem findIdx_spec {p : Val → Bool} : ∀ {vs : List Val} {j : Nat}, vs.findIdx? p = some j → ∃ v, vs[j]? = some v ∧ p v = true ∧ ∀ m u, m < j → vs[m]? = some u → p u = false
  | [], _, e => by simp at e
  | v :: vs, j, e => by
    rw [List.findIdx?_cons] at e
    cases hp : p v with
    | true =>
      rw [hp] at e
      cases e
      exact ⟨v, rfl, hp, fun m u hm => by omega⟩
    | false =>
      rw [hp] at e
      obtain ⟨i, e1, rfl⟩ := Option.map_eq_some_iff.mp e
      obtain ⟨w, a, c, d⟩ := findIdx_spec e1
      refine ⟨w, a, c, fun m u hm hu => ?_⟩
      cases m with
      | zero => cases hu; exact hp
      | succ m => exact d m u (by omega) hu
theorem je_lindex {apos pos : Pos} {o e : Expr} {to te : MP.E} (hs : NoStar e) (hbase : ∀ env : PySem.Env, attributeBase o "index" env (eval o env) = eval o env)
    (hfew : ∀ env : PySem.Env, ((backTo pos (starEach [e] env)).all (fun x => !x.1) && (backToKw pos (keywordEach [] env)).all (fun x => x.1.isSome)
      && decide ([e].length + ([] : List Keyword).length + (if ([] : List Keyword).isEmpty then 0 else 1) < 30)) = true)
    (hline : (apos.endLine == pos.line) = true) (ho : JB C Γ b o to) (he : JB C Γ true e te) :
    JE C Γ b 1 (.Call (.Attribute o "index" apos) [e] [] pos) (.mtl .index to (.cons te .nil)) :=
  je_l1 (r := fun X => rIndexD X.K) F.slot_list_index F.type_list_index (fun cx => mt_indexD cx.u64) (fun X F H vs y v p q Q hF bx by_ em hq => by
    obtain ⟨a, ps, rfl, ha, rs⟩ := bx
    simp only [mth] at em
    split at em
    · rename_i h
      rw [Bool.and_eq_true] at h
      obtain ⟨j, e1, em⟩ := bind_ok em
      cases em
      obtain ⟨w, hw, pw, hno⟩ := findIdx_spec (orStuck_ok e1)
      obtain ⟨s1, s2⟩ := shps_60 h.2 rs
      obtain ⟨d1, d2⟩ := by_.shaped h.1
      have sh : ∀ u, u ∈ vs → shp 60 u = true := fun u hu => shps_mem h.2 hu
      refine ⟨a, q, dat y, dats vs, j, dat w, rfl, rfl, .lst (.inl ha) s2, d1, s1, d2, by rw [dats_map, List.getElem?_map, hw]; rfl, ?_, fun m z' hm hz => ?_, q_imm (.int _) rfl hq⟩
      · rw [← veq_dat w y (sh w (List.mem_of_getElem? hw)) h.1]; exact pw
      · rw [dats_map, List.getElem?_map] at hz
        obtain ⟨u, eu, rfl⟩ := Option.map_eq_some_iff.mp hz
        rw [← veq_dat u y (sh u (List.mem_of_getElem? eu)) h.1]
        exact hno m u hm eu
    · cases em) hs hbase hfew hline ho he
/-! ### a.append(x), a.extend(b), a.pop(..) -/
theorem jm_append {ss : List (Option Nat)} {i : Nat} {x : PySem.Str} {p apos cpos : Pos} {e : Expr} {es : List Expr} {ts : MP.Es} (hN : C.N[i]? = some x) (hv : Vis C.sc x) (h1 : Γ.getD i 0 = 1) (hn : ∀ s ∈ ss, s = none) (hs : NoStar e)
    (hbase : ∀ env : PySem.Env, attributeBase (.Name x p) "append" env (eval (.Name x p) env) = eval (.Name x p) env)
    (hfew : ∀ env : PySem.Env, ((backTo cpos (starEach (e :: es) env)).all (fun x => !x.1) && (backToKw cpos (keywordEach [] env)).all (fun x => x.1.isSome)
      && decide ((e :: es).length + ([] : List Keyword).length + (if ([] : List Keyword).isEmpty then 0 else 1) < 30)) = true)
    (hline : (apos.endLine == cpos.line) = true) (hplain : ∀ env : PySem.Env, (backTo cpos (starEach es env)).any (·.1) = false) (ha : JA C Γ false ss (e :: es) ts) (hd : (x == ("__debug__" : PySem.Str)) = false := by decide +kernel) (hcd : (x == ("__classdict__" : PySem.Str)) = false := by decide +kernel) :
    JE C Γ false 0 (.Call (.Attribute (.Name x p) "append" apos) (e :: es) [] cpos) (.mtc .append i ts) :=
  je_mut (r := fun _ => rAppend) F.plainAttrs_list F.slot_list_append F.type_list_append (fun X => mt_append) (fun X => pm_append X.K) hN hv h1 hn hs hbase hfew hline hplain ha hd hcd
theorem jm_extend {ss : List (Option Nat)} {i : Nat} {x : PySem.Str} {p apos cpos : Pos} {e : Expr} {es : List Expr} {ts : MP.Es} (hN : C.N[i]? = some x) (hv : Vis C.sc x) (h1 : Γ.getD i 0 = 1) (hn : ∀ s ∈ ss, s = none) (hs : NoStar e)
    (hbase : ∀ env : PySem.Env, attributeBase (.Name x p) "extend" env (eval (.Name x p) env) = eval (.Name x p) env)
    (hfew : ∀ env : PySem.Env, ((backTo cpos (starEach (e :: es) env)).all (fun x => !x.1) && (backToKw cpos (keywordEach [] env)).all (fun x => x.1.isSome)
      && decide ((e :: es).length + ([] : List Keyword).length + (if ([] : List Keyword).isEmpty then 0 else 1) < 30)) = true)
    (hline : (apos.endLine == cpos.line) = true) (hplain : ∀ env : PySem.Env, (backTo cpos (starEach es env)).any (·.1) = false) (ha : JA C Γ false ss (e :: es) ts) (hd : (x == ("__debug__" : PySem.Str)) = false := by decide +kernel) (hcd : (x == ("__classdict__" : PySem.Str)) = false := by decide +kernel) :
    JE C Γ false 0 (.Call (.Attribute (.Name x p) "extend" apos) (e :: es) [] cpos) (.mtc .extend i ts) :=
  je_mut (r := fun X => rExtR X.K) F.plainAttrs_list F.slot_list_extend F.type_list_extend (fun X => mt_extR) (fun X => pm_extend X.K) hN hv h1 hn hs hbase hfew hline hplain ha hd hcd
theorem jm_pop {ss : List (Option Nat)} {i : Nat} {x : PySem.Str} {p apos cpos : Pos} {e : Expr} {es : List Expr} {ts : MP.Es} (hN : C.N[i]? = some x) (hv : Vis C.sc x) (h1 : Γ.getD i 0 = 1) (hn : ∀ s ∈ ss, s = none) (hs : NoStar e)
    (hbase : ∀ env : PySem.Env, attributeBase (.Name x p) "pop" env (eval (.Name x p) env) = eval (.Name x p) env)
    (hfew : ∀ env : PySem.Env, ((backTo cpos (starEach (e :: es) env)).all (fun x => !x.1) && (backToKw cpos (keywordEach [] env)).all (fun x => x.1.isSome)
      && decide ((e :: es).length + ([] : List Keyword).length + (if ([] : List Keyword).isEmpty then 0 else 1) < 30)) = true)
    (hline : (apos.endLine == cpos.line) = true) (hplain : ∀ env : PySem.Env, (backTo cpos (starEach es env)).any (·.1) = false) (ha : JA C Γ false ss (e :: es) ts) (hd : (x == ("__debug__" : PySem.Str)) = false := by decide +kernel) (hcd : (x == ("__classdict__" : PySem.Str)) = false := by decide +kernel) :
    JE C Γ false 0 (.Call (.Attribute (.Name x p) "pop" apos) (e :: es) [] cpos) (.mtc .pop i ts) :=
  je_mut (r := fun X x vs H Q => rPop x vs H Q ∨ rPopAt x vs H Q) F.plainAttrs_list F.slot_list_pop F.type_list_pop (fun X => MtR.or mt_pop mt_popAt) (fun X => pm_pop X.K) hN hv h1 hn hs hbase hfew hline hplain ha hd hcd
theorem jm_pop0 {i : Nat} {x : PySem.Str} {p apos cpos : Pos} (hN : C.N[i]? = some x) (hv : Vis C.sc x) (h1 : Γ.getD i 0 = 1)
    (hbase : ∀ env : PySem.Env, attributeBase (.Name x p) "pop" env (eval (.Name x p) env) = eval (.Name x p) env)
    (hline : (apos.endLine == cpos.line) = true) (hd : (x == ("__debug__" : PySem.Str)) = false := by decide +kernel) (hcd : (x == ("__classdict__" : PySem.Str)) = false := by decide +kernel) :
    JE C Γ false 0 (.Call (.Attribute (.Name x p) "pop" apos) [] [] cpos) (.mtc .pop i .nil) :=
  je_mut0 (r := fun X x vs H Q => rPop x vs H Q ∨ rPopAt x vs H Q) F.plainAttrs_list F.slot_list_pop F.type_list_pop (fun X => MtR.or mt_pop mt_popAt) (fun X => pm_pop X.K) hN hv h1 hbase hline hd hcd
end
end MP
/-! MiniPy against the hand layer: sorted -/
namespace MP
open L2 PySem.Spec PySem PyProof.Rows

/-! ### the plain side -/
theorem allInts_map : ∀ (ns : List Int), allInts (ns.map Val.int) = some ns
  | [] => rfl
  | n :: ns => by rw [List.map_cons, allInts, allInts_map ns]; rfl
theorem allInts_of : ∀ {vs : List Val} {ns : List Int}, allInts vs = some ns → vs = ns.map Val.int
  | [], ns, e => by cases e; rfl
  | v :: vs, ns, e => by
    cases v <;> simp only [allInts] at e <;> first | (cases e; done) | skip
    cases e1 : allInts vs with
    | none => rw [e1] at e; cases e
    | some ms => rw [e1] at e; cases e; rw [List.map_cons, allInts_of e1]
theorem allStrs_of : ∀ {vs : List Val} {ns : List (List Nat)}, allStrs vs = some ns → vs = ns.map Val.str
  | [], ns, e => by cases e; rfl
  | v :: vs, ns, e => by
    cases v <;> simp only [allStrs] at e <;> first | (cases e; done) | skip
    cases e1 : allStrs vs with
    | none => rw [e1] at e; cases e
    | some ms => rw [e1] at e; cases e; rw [List.map_cons, allStrs_of e1]
theorem sort_ints (ns : List Int) : (ns.map Val.int).mergeSort le' = (ns.mergeSort leI).map Val.int :=
  (List.map_mergeSort fun a _ b _ => by
    show leI a b = !decide (b < a)
    unfold leI
    by_cases h : a ≤ b
    · rw [decide_eq_true h, decide_eq_false (by omega)]; rfl
    · rw [decide_eq_false h, decide_eq_true (by omega)]; rfl).symm
theorem sortI_pw (ns : List Int) : (ns.mergeSort leI).Pairwise (· ≤ ·) := by
  have h := List.pairwise_mergeSort (le := leI) (fun a b c h1 h2 => by unfold leI at *; rw [decide_eq_true_eq] at *; omega) (fun a b => by unfold leI; simp only [Bool.or_eq_true, decide_eq_true_eq]; omega) ns
  exact h.imp fun h => of_decide_eq_true h
theorem sortI_eq {ns ys : List Int} (hp : ys.Perm ns) (hs : ys.Pairwise (· ≤ ·)) : ns.mergeSort leI = ys :=
  List.Perm.eq_of_pairwise (le := (· ≤ ·)) (fun a b _ _ h1 h2 => Int.le_antisymm h1 h2) (sortI_pw ns) hs ((List.mergeSort_perm _ _).trans hp.symm)
theorem sort_strs (ns : List (List Nat)) : (ns.map Val.str).mergeSort le' = (ns.mergeSort leS).map Val.str :=
  (List.map_mergeSort (r := leS) (s := le') (f := Val.str) fun a _ b _ => rfl).symm
theorem leS_iff (a b : List Nat) : leS a b = true ↔ a ≤ b := by
  unfold leS
  rw [Bool.not_eq_true', decide_eq_false_iff_not]
  exact Iff.rfl
theorem sortS_pw (ns : List (List Nat)) : (ns.mergeSort leS).Pairwise (· ≤ ·) := by
  have h := List.pairwise_mergeSort (le := leS) (fun a b c h1 h2 => by rw [leS_iff] at *; exact List.le_trans h1 h2) (fun a b => by rw [Bool.or_eq_true, leS_iff, leS_iff]; exact List.le_total a b) ns
  exact h.imp fun h => (leS_iff _ _).mp h
theorem sortS_eq {ns ys : List (List Nat)} (hp : ys.Perm ns) (hs : ys.Pairwise (· ≤ ·)) : ns.mergeSort leS = ys :=
  List.Perm.eq_of_pairwise (le := (· ≤ ·)) (fun a b _ _ h1 h2 => List.le_antisymm h1 h2) (sortS_pw ns) hs ((List.mergeSort_perm _ _).trans hp.symm)
theorem ltCps_eq : ∀ (a b : List Nat), ltCps a b = decide (a < b)
  | [], [] => by simp [ltCps]
  | [], _ :: _ => by simp [ltCps]
  | _ :: _, [] => by simp [ltCps]
  | a :: r, b :: t => by
    rw [ltCps, ltCps_eq r t]
    have : (a :: r < b :: t) ↔ (a < b ∨ a = b ∧ r < t) := List.cons_lt_cons_iff
    rw [decide_eq_decide.mpr this, Bool.decide_or, Bool.decide_and]
    congr 1
theorem rising_pw : ∀ (p : PySem.Str) (l : List PySem.Str), risingS p l = true → ((p :: l).map fun s => s.cps.toList).Pairwise (· ≤ ·) := by
  have link : ∀ (p : PySem.Str) (l : List PySem.Str), risingS p l = true → ∀ q : List Nat, q ≤ p.cps.toList → (q :: (p :: l).map fun s => s.cps.toList).Pairwise (· ≤ ·) := by
    intro p l
    induction l generalizing p with
    | nil => intro _ q hq; simp [hq]
    | cons x r ih =>
      intro h q hq
      simp only [risingS, Bool.and_eq_true, Bool.not_eq_true'] at h
      have hpx : p.cps.toList ≤ x.cps.toList := by
        have h1 := h.1
        have : ¬ (x.cps.toList < p.cps.toList) := by
          intro z
          have : ltCps x.cps.toList p.cps.toList = true := by
            rw [ltCps_eq]; exact decide_eq_true z
          rw [h1] at this; cases this
        exact this
      have h2 := ih x h.2 p.cps.toList hpx
      refine List.pairwise_cons.mpr ⟨fun y hy => ?_, h2⟩
      rcases List.mem_cons.mp hy with rfl | hy
      · exact hq
      · exact List.le_trans hq ((List.pairwise_cons.mp h2).1 y hy)
  intro p l h
  cases l with
  | nil => simp
  | cons x r =>
    simp only [risingS, Bool.and_eq_true, Bool.not_eq_true'] at h
    refine link x r h.2 p.cps.toList ?_
    intro z
    have h1 := h.1
    have : ltCps x.cps.toList p.cps.toList = true := by
      rw [ltCps_eq]; exact decide_eq_true z
    rw [h1] at this; cases this
theorem sorted_pw {l : List PySem.Str} (h : sortedS l = true) : (l.map fun s => s.cps.toList).Pairwise (· ≤ ·) := by
  cases l with
  | nil => exact List.Pairwise.nil
  | cons p l => exact rising_pw p l h
theorem contains_int (k : Int) : ∀ ns : List Int, contains (.int k) (ns.map Val.int) = decide (k ∈ ns)
  | [] => by simp [contains]
  | n :: ns => by
    have ih := contains_int k ns
    unfold contains at ih ⊢
    rw [List.map_cons, List.any_cons, ih]
    show ((n == k) || _) = _
    by_cases h : n = k
    · subst h; simp
    · have : ¬ k = n := fun e => h e.symm
      simp [h, this]
theorem dedup_int (ns : List Int) : dedup (ns.map Val.int) = (dedupI ns).map Val.int := by
  have key : ∀ (ns acc : List Int), (ns.map Val.int).foldl (fun acc v => if contains v acc then acc else acc ++ [v]) (acc.map Val.int) = (ns.foldl (fun acc n => if n ∈ acc then acc else acc ++ [n]) acc).map Val.int := by
    intro ns
    induction ns with
    | nil => intro acc; rfl
    | cons n ns ih =>
      intro acc
      rw [List.map_cons, List.foldl_cons, List.foldl_cons, contains_int]
      by_cases h : n ∈ acc
      · rw [decide_eq_true h, if_pos rfl, if_pos h]; exact ih acc
      · rw [decide_eq_false h, if_neg (by simp), if_neg h, ← ih (acc ++ [n]), List.map_append]; rfl
  exact key ns []
theorem dedupI_spec (ns : List Int) : (dedupI ns).Nodup ∧ ∀ k, k ∈ dedupI ns ↔ k ∈ ns := by
  have key : ∀ (ns acc : List Int), acc.Nodup → (ns.foldl (fun acc n => if n ∈ acc then acc else acc ++ [n]) acc).Nodup ∧ ∀ k, k ∈ ns.foldl (fun acc n => if n ∈ acc then acc else acc ++ [n]) acc ↔ k ∈ acc ∨ k ∈ ns := by
    intro ns
    induction ns with
    | nil => intro acc h; exact ⟨h, fun k => by simp⟩
    | cons n ns ih =>
      intro acc h
      rw [List.foldl_cons]
      by_cases hm : n ∈ acc
      · rw [if_pos hm]
        obtain ⟨a, b⟩ := ih acc h
        refine ⟨a, fun k => ?_⟩
        rw [b k, List.mem_cons]
        constructor
        · rintro (h | h)
          · exact .inl h
          · exact .inr (.inr h)
        · rintro (h | rfl | h)
          · exact .inl h
          · exact .inl hm
          · exact .inr h
      · rw [if_neg hm]
        obtain ⟨a, b⟩ := ih (acc ++ [n]) (by
          rw [List.nodup_append]
          refine ⟨h, by simp, fun x hx y hy => ?_⟩
          rw [List.mem_singleton] at hy
          subst hy
          exact fun e => hm (e ▸ hx))
        refine ⟨a, fun k => ?_⟩
        rw [b k, List.mem_append, List.mem_singleton, List.mem_cons, or_assoc]
  have := key ns [] List.nodup_nil
  exact ⟨this.1, fun k => by rw [dedupI, this.2 k]; simp⟩
end MP
/-! MiniPy against the hand layer: sorted(d), sorted(set(xs)), len(set(xs)) -/
namespace MP
open L2 PySem.Spec PySem PyProof.Rows

section
variable {K : Fg} {S : Stat} {Γ Γ' Γ1 Γ2 : List Nat} {F F' : AS} {fp fp' : Nat → AS} {ρ : MP.Env} {σ : L2.St} {H H' : Hp} {b fz : Bool} {k : Nat} {E : XK} {C : Ct}
theorem frs_ints (ns : List Int) : FRs K F H (ns.map Val.int) (ns.map V.int) := by
  induction ns with
  | nil => exact .nil
  | cons n ns ih => exact .cons (.int n) ih
theorem frs_strs : ∀ {ns : List (List Nat)}, (∀ s ∈ ns, cpOk s = true) → FRs K F H (ns.map Val.str) ((ns.map toStr).map V.str)
  | [], _ => .nil
  | n :: ns, h => .cons (.str (h n List.mem_cons_self)) (frs_strs fun s hs => h s (List.mem_cons_of_mem _ hs))
/-- a dict's keys, all ints or all texts -/
theorem keys_ints : ∀ {kvs : List (Val × Val)} {kps : List (Key × V)} {ns : List Int}, FRk K F H kvs kps → kvs.map (·.1) = ns.map Val.int → kps.map (·.1) = ns.map Sum.inl
  | _, _, [], .nil, _ => rfl
  | _, _, _ :: _, .nil, e => by cases e
  | _, _, [], .cons _ _ _, e => by cases e
  | _, _, n :: ns, .cons (k := j) ok f t, e => by
    rw [List.map_cons, List.map_cons, List.cons.injEq] at e
    rw [List.map_cons, List.map_cons, keys_ints t e.2]
    cases j with
    | inl i => have := e.1; cases this; rfl
    | inr s => have := e.1; cases this
theorem keys_strs : ∀ {kvs : List (Val × Val)} {kps : List (Key × V)} {ns : List (List Nat)}, FRk K F H kvs kps → kvs.map (·.1) = ns.map Val.str → kps.map (·.1) = (ns.map toStr).map Sum.inr ∧ ∀ s ∈ ns, cpOk s = true
  | _, _, [], .nil, _ => ⟨rfl, fun _ h => by cases h⟩
  | _, _, _ :: _, .nil, e => by cases e
  | _, _, [], .cons _ _ _, e => by cases e
  | _, _, n :: ns, .cons (k := j) ok f t, e => by
    rw [List.map_cons, List.map_cons, List.cons.injEq] at e
    obtain ⟨h1, h2⟩ := keys_strs t e.2
    cases j with
    | inl i => have := e.1; cases this
    | inr s =>
      have e1 : s.cps.toList = n := Val.str.inj e.1
      have e2 : s = toStr n := by rw [← e1]; rfl
      refine ⟨by rw [List.map_cons, List.map_cons, List.map_cons, h1, e2], fun x hx => ?_⟩
      rcases List.mem_cons.mp hx with rfl | hx
      · have : cpOk s.cps.toList = true := ok
        rw [e1] at this; exact this
      · exact h2 x hx
theorem flat_keys : ∀ {kvs : List (Val × Val)} {kps : List (Key × V)}, FRk K F H kvs kps → ∀ v ∈ kvs.map (·.1), keyA v = true
  | _, _, .nil, v, h => by cases h
  | _, _, .cons (k := j) ok f t, v, h => by
    rw [List.map_cons] at h
    rcases List.mem_cons.mp h with rfl | h
    · cases j <;> rfl
    · exact flat_keys t v h
theorem alike_keys {vs : List Val} (h1 : ∀ v ∈ vs, keyA v = true) (h2 : allAlike vs = true) : (∃ ns : List Int, vs = ns.map Val.int) ∨ ∃ ns : List (List Nat), vs = ns.map Val.str := by
  cases vs with
  | nil => exact .inl ⟨[], rfl⟩
  | cons v vs =>
    have hal : ∀ w ∈ v :: vs, alike v w = true := fun w hw => List.all_eq_true.mp (List.all_eq_true.mp h2 v List.mem_cons_self) w hw
    have hv := h1 v List.mem_cons_self
    cases v <;> simp only [keyA] at hv <;> first | (cases hv; done) | skip
    · rename_i i
      have key : ∀ l : List Val, (∀ w ∈ l, alike (.int i) w = true) → ∃ ns : List Int, l = ns.map Val.int := by
        intro l
        induction l with
        | nil => intro _; exact ⟨[], rfl⟩
        | cons w l ih =>
          intro h
          obtain ⟨ns, rfl⟩ := ih fun x hx => h x (List.mem_cons_of_mem _ hx)
          have hw := h w List.mem_cons_self
          cases w <;> simp only [alike] at hw <;> first | (cases hw; done) | skip
          exact ⟨_ :: ns, rfl⟩
      exact .inl (key _ hal)
    · rename_i i
      have key : ∀ l : List Val, (∀ w ∈ l, alike (.str i) w = true) → ∃ ns : List (List Nat), l = ns.map Val.str := by
        intro l
        induction l with
        | nil => intro _; exact ⟨[], rfl⟩
        | cons w l ih =>
          intro h
          obtain ⟨ns, rfl⟩ := ih fun x hx => h x (List.mem_cons_of_mem _ hx)
          have hw := h w List.mem_cons_self
          cases w <;> simp only [alike] at hw <;> first | (cases hw; done) | skip
          exact ⟨_ :: ns, rfl⟩
      exact .inr (key _ hal)
def rSrtDS : List V → Hp → VK → Prop := fun xs H Q => ∃ (a : Addr) (kvs : List (Key × V)) (ks : List PySem.Str), xs = [.ref a] ∧ Rd H a (.dK kvs) ∧ kvs.map (·.1) = ks.map Sum.inr ∧ ks.length < 64 ∧
    ∀ ys p, ys.Perm ks → sortedS ys = true → H p = none → Q (.ref p) (upd H p (.lst (ys.map V.str)))
def rSrtDI : List V → Hp → VK → Prop := fun xs H Q => ∃ (a : Addr) (kvs : List (Key × V)) (ks : List Int), xs = [.ref a] ∧ Rd H a (.dK kvs) ∧ kvs.map (·.1) = ks.map Sum.inl ∧ ks.length < 64 ∧
    ∀ (ys : List Int) (p : Addr), ys.Perm ks → ys.Pairwise (· ≤ ·) → H p = none → Q (.ref p) (upd H p (.lst (ys.map V.int)))
def rSrtA (K : Fg) : List V → Hp → VK → Prop := fun xs H Q => rSrt K xs H Q ∨ rSrtDI xs H Q ∨ rSrtDS xs H Q
theorem cr_srtA {X : Cx} (hc : X.calm = true) (hu : X.A.units + 65 < cLine) : CallR X (.builtin "sorted") (rSrtA X.K) := by
  intro pins s σ H xs us Q I r h
  rcases h with h | h | h
  · exact cr_srt hu pins s σ H xs us Q I r h
  · exact call_sortedDI hc pins s σ H xs us Q I r h
  · exact call_sortedD hc pins s σ H xs us Q I r h
theorem p1_sorted : P1 K 1 (fun v H Q => rSrtA K [v] H Q) fun v => blt .sorted [v] := by
  intro F H x v p Q hF hx e hq
  cases x <;> first | (cases e; done) | skip
  · rename_i vs
    exact .inl (p1_sortedL F H (.lst vs) v p Q hF hx e hq)
  · rename_i kvs
    have e : (if kvs.length < 64 then (sorted (kvs.map (·.1))).bind fun r => Res.ok (.lst r) else .stuck) = .ok v := e
    split at e
    · rename_i h64
      obtain ⟨r, e1, e⟩ := bind_ok e
      cases e
      unfold sorted at e1
      split at e1
      · rename_i h
        cases e1
        simp only [Bool.and_eq_true] at h
        obtain ⟨a, kps, rfl, hd, rk⟩ := hx
        rcases alike_keys (flat_keys rk) h.1.1 with ⟨ns, en⟩ | ⟨ns, en⟩
        · rw [en] at hq
          rw [sort_ints] at hq
          refine .inr (.inl ⟨a, kps, ns, rfl, hd, keys_ints rk en, ?_, fun ys p' hp hs => ?_⟩)
          · have := congrArg List.length en
            simp only [List.length_map] at this
            omega
          · rw [← sortI_eq hp hs]
            exact q_newL (frs_ints _) hF hq p'
        · rw [en] at hq
          rw [sort_strs] at hq
          obtain ⟨h1, h2⟩ := keys_strs rk en
          refine .inr (.inr ⟨a, kps, ns.map toStr, rfl, hd, h1, ?_, fun ys p' hp hs => ?_⟩)
          · have := congrArg List.length en
            simp only [List.length_map] at this ⊢
            omega
          · have hp2 : (ys.map fun s => s.cps.toList).Perm ns := by
              have := hp.map fun s : PySem.Str => s.cps.toList
              rw [List.map_map] at this
              have e3 : ns.map ((fun s : PySem.Str => s.cps.toList) ∘ toStr) = ns := by
                exact (List.map_congr_left (g := id) fun x _ => tl_toStr x).trans (List.map_id _)
              rw [e3] at this; exact this
            have e4 := sortS_eq hp2 (sorted_pw hs)
            have e5 : ys = (ys.map fun s => s.cps.toList).map toStr := by
              rw [List.map_map]; exact (List.map_id ys).symm
            rw [e5, ← e4]
            exact q_newL (frs_strs fun s hs => h2 s ((List.mergeSort_perm _ _).mem_iff.mp hs)) hF hq p'
      · cases e1
    · cases e
theorem je_sorted {e : Expr} {t : MP.E} {p pos : Pos} (hb : Bn C "sorted" (.builtin "sorted")) (hs : NoStar e) (ha : JB C Γ b e t) : JE C Γ b 1 (.Call (.Name "sorted" p) [e] [] pos) (.blt .sorted (.cons t .nil)) :=
  je_call1B (r := fun X => rSrtA X.K) hb (fun cx => cr_srtA cx.calm (by have := cx.u64; omega)) (fun X => p1_sorted) (fun v => nox_blt _ _) (by intro h; cases h) hs ha
/-- sorted(set(xs)), a list of ints -/
theorem p1_sortedSet {X : Cx} : P1 X.K 1 (fun v H Q => rSetL X [v] H fun x H1 => rSortedSet X.w [x] H1 Q) fun v => blt .sortedSet [v] := by
  intro F H x v p Q hF hx e hq
  cases x <;> first | (cases e; done) | skip
  rename_i vs
  have e : ((orStuck (allInts vs)).bind fun ns => if ns.length ≤ 4000 ∧ (dedupI ns).length < 64 then Res.ok (.lst (((dedupI ns).mergeSort leI).map .int)) else .stuck) = .ok v := e
  obtain ⟨ns, e1, e⟩ := bind_ok e
  split at e
  · rename_i hc
    cases e
    obtain ⟨a, ps, rfl, ha, rs⟩ := hx
    have e2 := ints_of (orStuck_ok e1) rs
    subst e2
    obtain ⟨nd, hm⟩ := dedupI_spec ns
    refine ⟨a, ns, rfl, .inl ha, hc.1, fun p1 c hn hcard => ⟨p1, _, c, rfl, upd_same, by rw [hcard _ nd hm]; exact hc.2, fun ys p2 hpw hmem hlen hn2 => ?_⟩⟩
    have ndy : ys.Nodup := hpw.imp fun h => Int.ne_of_lt h
    have pm : ys.Perm (dedupI ns) := (List.perm_ext_iff_of_nodup ndy nd).mpr fun k => by rw [hmem k, decide_eq_true_eq, hm k]
    rw [sortI_eq pm (hpw.imp fun h => Int.le_of_lt h)] at hq
    refine q_newL (frs_ints ys) (fun b f => by rw [upd_same_of hn b (hF b f)]; exact hF b f) (fun H' fr z al ow hf => hq H' fr z (fun b nb => by rw [al b (by rw [upd_same_of hn b nb]; exact nb)]; exact upd_same_of hn b nb) ow fun b fb => ?_) p2 hn2
    have := hf b fb
    by_cases hb : b = p1
    · subst hb; exact hn
    · rw [upd_ne hb] at this; exact this
  · cases e
theorem je_sortedSet {e : Expr} {t : MP.E} {p p2 q pos : Pos} (hb : Bn C "sorted" (.builtin "sorted")) (hb2 : Bn C "set" (.type "set")) (hs : NoStar e) (ha : JB C Γ b e t) : JE C Γ b 1 (.Call (.Name "sorted" p) [.Call (.Name "set" p2) [e] [] q] [] pos) (.blt .sortedSet (.cons t .nil)) :=
  je_prim1 (f := fun v => blt .sortedSet [v]) (r := fun X v H Q => rSetL X [v] H fun x H1 => rSortedSet X.w [x] H1 Q) (fun G => evE_blt1 (by intro h; cases h))
    (fun {n R E X} cx tl hl => pe_callB (cr_sortedSet cx.calm) (hb.gl cx) (hb.mg cx) hb.v (pa_cons (pe_callTy (cr_setL cx.calm) (hb2.gl cx) (hb2.mg cx) hb2.v (pa_cons hl pa_nil (hs [] X.env)) hb2.n hb2.d (hs [] X.env) rfl) pa_nil rfl) hb.n hb.d rfl rfl) (fun X => p1_sortedSet) (fun v => nox_blt _ _) ha
/-- len(set(xs)), a list of ints -/
theorem firstMet_dedup (ns : List Int) : ∀ i, i ≤ ns.length → PyProof.Rows.firstMet (fun i => ns.getD i 0) i = dedupI (ns.take i)
  | 0, _ => rfl
  | i + 1, hi => by
    have hlt : i < ns.length := hi
    have e1 : ns.getD i 0 = ns[i] := by
      rw [List.getD_eq_getElem?_getD, List.getElem?_eq_getElem hlt] <;> rfl
    have e2 : ns.take (i + 1) = ns.take i ++ [ns[i]] := by
      rw [List.take_add_one, List.getElem?_eq_getElem hlt] <;> rfl
    rw [PyProof.Rows.firstMet_succ, firstMet_dedup ns i (Nat.le_of_lt hlt), e2]
    unfold dedupI
    rw [List.foldl_append]
    show (if (dedupI (ns.take i)).any (· == ns.getD i 0) then dedupI (ns.take i) else dedupI (ns.take i) ++ [ns.getD i 0]) = if ns[i] ∈ dedupI (ns.take i) then dedupI (ns.take i) else dedupI (ns.take i) ++ [ns[i]]
    rw [e1]
    by_cases h : ns[i] ∈ dedupI (ns.take i)
    · have hany : ((dedupI (ns.take i)).any fun x => x == ns[i]) = true := List.any_eq_true.mpr ⟨_, h, beq_self_eq_true _⟩
      rw [if_pos h, if_pos hany]
    · rw [if_neg h, if_neg fun z => h ?_]
      obtain ⟨y, hy, ey⟩ := List.any_eq_true.mp z
      have := eq_of_beq ey
      subst this; exact hy
end
end MP
/-! MiniPy against the hand layer: a program's defs, the head's facts, the law's end -/
namespace MP
open L2 PySem.Spec PySem PyProof.Rows

/-! ### the written part without the script -/
def cutK (K : Fg) (a : Addr) : Fg := K.filter fun q => q.1 != a
theorem cut_lookup (a b : Addr) : ∀ K : Fg, (cutK K a).lookup b = if b = a then none else K.lookup b
  | [] => by simp [cutK]
  | (c, o) :: K => by
    have ih := cut_lookup a b K
    unfold cutK at ih ⊢
    rw [List.filter_cons]
    by_cases hc : c = a
    · have e1 : ((c, o).1 != a) = false := by simp [hc]
      rw [e1]
      simp only [Bool.false_eq_true, if_false]
      rw [ih]
      by_cases hb : b = a
      · rw [if_pos hb, if_pos hb]
      · rw [if_neg hb, if_neg hb, List.lookup_cons]
        have : (b == c) = false := by simp [hc, hb]
        rw [this]
    · have e1 : ((c, o).1 != a) = true := by simp [hc]
      rw [e1, if_pos rfl, List.lookup_cons, List.lookup_cons, ih]
      by_cases hb : b = c
      · subst hb
        rw [if_neg hc]; simp [hc]
      · have : (b == c) = false := by simp [hb]
        rw [this]
theorem cut_in {K : Fg} {a : Addr} {h : Heap} (X : K.In h) : (cutK K a).In h := fun b o e => by
  rw [cut_lookup] at e
  split at e
  · cases e
  · exact X b o e
theorem cut_keep {K : Fg} {a b : Addr} {h : Heap} {vs : Array Value} {o o2 : Obj} (X : K.In h) (ha : h.get? a = some { cls := .type "list", data := .seq vs }) (e : K.lookup b = some o) (hd : ∀ vs n, o.data ≠ .seq vs n) : (cutK K a).lookup b = some o := by
  rw [cut_lookup, if_neg]
  · exact e
  · intro q
    subst q
    have := X _ _ e
    rw [ha] at this
    cases this
    exact hd _ _ rfl
theorem codeIn_ref {K : Fg} {c : Addr} {q : PySem.Str} : PySem.W.codeIn K (.ref c) q = (match K.lookup c with
    | some ⟨_, _, .fields vs, _⟩ => (match vs.toList with
      | _ :: .str n _ :: _ => n == q
      | _ => false)
    | _ => false) := rfl
theorem keepIn_ref {K : Fg} {c : Addr} : PySem.W.keepIn K (.ref c) = (match K.lookup c with
      | some ⟨_, _, .func _, _⟩ => true
      | some ⟨_, _, .cls _, _⟩ => PySem.W.specialIn K (.ref c) "__call__" == some (some (.builtin "type.__call__"))
      | _ => false) := rfl
theorem FunD.cut {K : Fg} {a f : Addr} {h : Heap} {vs : Array Value} {x q : PySem.Str} {params : Arguments} {body : List Stmt} {scope : Scope} {fd : FuncData} (X : K.In h) (ha : h.get? a = some { cls := .type "list", data := .seq vs }) (F : FunD K x q params body scope [] [] f fd) : FunD (cutK K a) x q params body scope [] [] f fd := by
  obtain ⟨oc, od, dV, kV, doc, pm, an, cdv, ct, osl, e, lk, hcd, hD, hK⟩ := F.ex
  have lk2 : (cutK K a).lookup f = some ⟨oc, od, .func fd, osl⟩ := cut_keep (o2 := ⟨oc, od, .func fd, osl⟩) X ha lk (fun _ _ z => by cases z)
  refine ⟨⟨oc, od, dV, kV, doc, pm, an, cdv, ct, osl, e, lk2, ?_, ?_, .inl rfl⟩, ?_⟩
  · cases cdv with
    | ref c =>
      rw [codeIn_ref] at hcd ⊢
      cases hc : K.lookup c with
      | none => rw [hc] at hcd; cases hcd
      | some o =>
        rw [hc] at hcd
        obtain ⟨o1, o2, dt, o4⟩ := o
        cases dt with
        | fields us =>
          rw [cut_keep (o2 := ⟨o1, o2, .fields us, o4⟩) X ha hc (fun _ _ z => by cases z)]
          exact hcd
        | _ => cases hcd
    | _ => cases hcd
  · rcases hD with h | ⟨h, _⟩
    · exact .inl h
    · exact absurd rfl h
  · rw [keepIn_ref, lk2]
/-! ### a def of the program -/
structure DefP where
  name : PySem.Str
  ps : List PySem.Str
  N : List PySem.Str
  args : Arguments
  body : List Stmt
  scope : Scope
  d : MP.Def
def DefP.dd (p : DefP) : He.DefD := ⟨(p.name, none), p.name, p.name, p.args, p.body, p.scope, [], []⟩
structure DefGood (S : Stat) (f : Nat) (fi : FInfo) (p : DefP) : Prop where
  name : fi.name = p.name
  sc : FnScope p.N p.ps p.scope
  ok : DefOk S f fi p.d p.N
  np : p.ps.length = fi.np
  bind : ∀ (kV doc pm : Value) (an : Option Addr) (cdv ct : Value) (us : List Value), us.length = p.ps.length → bindArgs (PySem.W.fnOf p.name p.name p.args p.body p.scope .none kV doc pm an cdv ct) ⟨us, []⟩ = pure (p.ps.zip us)
  body : ∃ Γe, JSs ⟨S, p.N, p.scope, fun _ => true, fi.io, fi.ret, []⟩ (modes fi.np fi.io ++ List.replicate (p.N.length - fi.np) 0) p.body p.d.body Γe ∧ fi.io.all (fun q => Γe.getD q.1 0 == q.2) = true
inductive Goods (S : Stat) : Nat → List FInfo → List DefP → Prop
  | nil {n : Nat} : Goods S n [] []
  | cons {n : Nat} {fi : FInfo} {p : DefP} {fis : List FInfo} {ps : List DefP} : DefGood S n fi p → Goods S (n + 1) fis ps → Goods S n (fi :: fis) (p :: ps)
theorem Goods.at {S : Stat} : ∀ {n : Nat} {fis : List FInfo} {ps : List DefP}, Goods S n fis ps → ∀ {f : Nat} {fi : FInfo}, fis[f]? = some fi → ∃ p, ps[f]? = some p ∧ DefGood S (n + f) fi p
  | _, _, _, .nil, f, fi, e => by simp at e
  | _, _, _, .cons h t, 0, fi, e => by simp at e; subst e; exact ⟨_, rfl, h⟩
  | n, _, _, .cons h t, f + 1, fi, e => by
    obtain ⟨p, e1, g⟩ := t.at (f := f) (by simpa using e)
    exact ⟨p, by simpa using e1, by have : n + 1 + f = n + (f + 1) := by omega
                                    rw [← this]; exact g⟩
/-! ### what the head tells -/
inductive ConK where
  | int (x : PySem.Str) (i : Int)
  | str (x : PySem.Str) (s : List Nat)
  | tup (x : PySem.Str) (ss : List (List Nat))
def ConK.name : ConK → PySem.Str
  | .int x _ => x
  | .str x _ => x
  | .tup x _ => x
def ConK.fa : ConK → He.Fa
  | .int x i => .int x i
  | .str x s => .str x (toStr s)
  | .tup x _ => .glo x
def ConK.val : ConK → Val
  | .int _ i => .int i
  | .str _ s => .str s
  | .tup _ ss => .tup (ss.map .str)
def ConK.ok : ConK → Bool
  | .int _ _ => true
  | .str _ s => cpOk s
  | .tup _ ss => ss.all cpOk && decide (3 ≤ ss.length)
/-- the tuple of texts stands as it was written -/
def strsAre : List Value → List (List Nat) → Bool
  | [], [] => true
  | .str z _ :: us, s :: ss => decide (z = toStr s) && strsAre us ss
  | _, _ => false
def tupFact (K : Fg) (x : PySem.Str) (ss : List (List Nat)) : Bool := match K.lookup (He.ga K x) with
  | some ⟨.type T, _, .seq its _, _⟩ => decide (T = "tuple") && decide (its.size ≤ sizeLine) && strsAre its.toList ss
  | _ => false
def ConK.more (K : Fg) : ConK → Bool
  | .tup x ss => tupFact K x ss
  | _ => true
def moreOf (cs : List ConK) (K : Fg) : Bool := cs.all (ConK.more K)
/-- the head's hook with the tuples looked at -/
def hookX (n : Nat) (fa : List He.Fa) (fn : List He.DefD) (cs : List ConK) : PySem.W.Hook where
  α := He.AlD × Bool
  obs := fun s => (He.obsDG n fa fn s.heap.get?, moreOf cs (He.frG s.heap.get? (He.asD s.heap.get? n)))
  val := fun _ => (He.valD fn, true)
  says := fun _ h => ∃ K : Fg, PySem.W.Frag.In K h ∧ He.SaysD fa fn K ∧ moreOf cs K = true
  of := fun _ _ e => ⟨_, He.frG_in, congrArg Prod.fst e, congrArg Prod.snd e⟩
  keeps := fun _ _ _ ⟨K, hK, c⟩ k => ⟨K, PySem.W.Frag.In.keeps hK k, c⟩
def obsX (n : Nat) (fa : List He.Fa) (fn : List He.DefD) (cs : List ConK) (g : Addr → Option Obj) : He.AlD × Bool := (He.obsDG n fa fn g, moreOf cs (He.frG g (He.asD g n)))
theorem obsX_eq {n : Nat} {fa : List He.Fa} {fn : List He.DefD} {cs : List ConK} {g : Addr → Option Obj} {s : Shared} (h : ∀ a, g a = s.heap.get? a) : obsX n fa fn cs g = (hookX n fa fn cs).obs s := by
  have e : g = s.heap.get? := funext h
  rw [e] <;> rfl
theorem strs_vals : ∀ {us : List Value} {ss : List (List Nat)}, strsAre us ss = true → Vals ((ss.map toStr).map V.str) us
  | [], [], _ => .nil
  | [], _ :: _, e => by cases e
  | u :: us, [], e => by cases u <;> cases e
  | u :: us, s :: ss, e => by
    cases u <;> first | (cases e; done) | skip
    rename_i z t
    have e : (decide (z = toStr s) && strsAre us ss) = true := e
    rw [Bool.and_eq_true, decide_eq_true_eq] at e
    exact .cons ⟨t, by rw [e.1]⟩ (strs_vals e.2)
theorem cut_keepT {K : Fg} {a b : Addr} {h : Heap} {vs : Array Value} {o : Obj} (X : K.In h) (ha : h.get? a = some { cls := .type "list", data := .seq vs }) (e : K.lookup b = some o) (hd : o.cls ≠ .type "list") : (cutK K a).lookup b = some o := by
  rw [cut_lookup, if_neg]
  · exact e
  · intro q
    subst q
    have := X _ _ e
    rw [ha] at this
    cases this
    exact hd rfl
def faOf (ds : List DefP) (cs : List ConK) (free : List PySem.Str) : List He.Fa := ds.map (fun p => He.Fa.glo p.name) ++ (cs.map ConK.fa ++ free.map He.Fa.free)
theorem fa_ok {fa : List He.Fa} {fn : List He.DefD} {K : Fg} (c : He.SaysD fa fn K) {f : He.Fa} (h : f ∈ fa) : f.ok K = true := by
  obtain ⟨i, hi, e⟩ := List.getElem_of_mem h
  exact c.fact i (by rw [List.getElem?_eq_getElem hi, e])
open Classical in
noncomputable def rtOf (K : Fg) (ds : List DefP) : Rt where
  fa := fun f => match ds[f]? with
    | some p => He.ga K p.name
    | none => 0
  fd := fun f => match ds[f]? with
    | some p => if h : ∃ fd, FunD K p.name p.name p.args p.body p.scope [] [] (He.ga K p.name) fd then h.choose else default
    | none => default
  ps := fun f => match ds[f]? with
    | some p => p.ps
    | none => []
section
variable {K : Fg} {S : Stat} {ds : List DefP} {cs : List ConK} {h : Heap} {mg : PySem.Str → Option Value} {a : Addr} {vs : Array Value}
theorem con_val {k : ConK} (hk : k.ok = true) (X : K.In h) (G : h.Ns mainGlobals mg) (ha : h.get? a = some { cls := .type "list", data := .seq vs }) (c : k.fa.ok K = true) (hm : k.more K = true) : ∃ u p, mg k.name = some u ∧ RelV p u ∧ ∀ F H, FR (cutK K a) F H k.val p := by
  cases k with
  | int x i =>
    obtain ⟨t, e⟩ := He.int_ok X G c
    exact ⟨_, .int i, e, ⟨t, rfl⟩, fun _ _ => .int i⟩
  | str x s =>
    obtain ⟨t, e⟩ := He.str_ok X G c
    exact ⟨_, .str (toStr s), e, ⟨t, rfl⟩, fun _ _ => .str hk⟩
  | tup x ss =>
    have e := He.glo_ok X G c
    have hk : (ss.all cpOk && decide (3 ≤ ss.length)) = true := hk
    rw [Bool.and_eq_true, decide_eq_true_eq] at hk
    refine ⟨_, .ref (He.ga K x), e, rfl, fun F H => ?_⟩
    have hm : tupFact K x ss = true := hm
    unfold tupFact at hm
    split at hm
    · rename_i T dc its nn sl lk
      rw [Bool.and_eq_true, Bool.and_eq_true, decide_eq_true_eq, decide_eq_true_eq] at hm
      obtain ⟨⟨hT, hz⟩, hs⟩ := hm
      subst hT
      refine .tup (.inr ⟨_, its, nn, cut_keepT X ha lk (fun z => by injection z with z; exact absurd z (by decide)), rfl, rfl, hz, strs_vals hs, by rw [List.length_map, List.length_map]; exact hk.2, fun p hp => ?_⟩) (frs_strs fun s hs => List.all_eq_true.mp hk.1 s hs)
      obtain ⟨s, _, rfl⟩ := List.mem_map.mp hp
      exact ⟨s, rfl⟩
    · cases hm
/-- what is found behind the top, without the script -/
theorem found_gl (X : K.In h) (G : h.Ns mainGlobals mg) (ha : h.get? a = some { cls := .type "list", data := .seq vs }) (c : He.SaysD (faOf ds cs S.free) (ds.map DefP.dd) K) (hmo : moreOf cs K = true)
    (hg : Goods S 0 S.fns ds) (hc1 : S.cons = cs.map ConK.name) (hc2 : cs.all ConK.ok = true) (hc3 : ∀ (j : Nat) (k : ConK), cs[j]? = some k → S.prog.con j = k.val) :
    GlOk (cutK K a) mg S (rtOf K ds) ∧ ∀ (f : Nat) (fi : FInfo) (p : DefP), ds[f]? = some p → DefGood S f fi p → FunD (cutK K a) p.name p.name p.args p.body p.scope [] [] ((rtOf K ds).fa f) ((rtOf K ds).fd f) ∧ (rtOf K ds).ps f = p.ps ∧ mg p.name = some (.ref ((rtOf K ds).fa f)) := by
  have key : ∀ (f : Nat) (fi : FInfo) (p : DefP), ds[f]? = some p → DefGood S f fi p → FunD (cutK K a) p.name p.name p.args p.body p.scope [] [] ((rtOf K ds).fa f) ((rtOf K ds).fd f) ∧ (rtOf K ds).ps f = p.ps ∧ mg p.name = some (.ref ((rtOf K ds).fa f)) := fun f fi p e g => by
    have e1 : (rtOf K ds).fa f = He.ga K p.name := by simp only [rtOf, e]
    have hex : ∃ fd, FunD K p.name p.name p.args p.body p.scope [] [] (He.ga K p.name) fd := c.def_ f (d := p.dd) (by rw [List.getElem?_map, e]; rfl)
    have e2 : (rtOf K ds).fd f = hex.choose := by
      simp only [rtOf, e]
      rw [dif_pos hex]
    refine ⟨?_, by simp only [rtOf, e], ?_⟩
    · rw [e1, e2]
      exact FunD.cut X ha hex.choose_spec
    · rw [e1]
      refine He.glo_ok X G (fa_ok c ?_)
      exact List.mem_append.mpr (.inl (List.mem_map.mpr ⟨p, List.mem_of_getElem? e, rfl⟩))
  refine ⟨⟨fun f fi e => ?_, fun j x e => ?_, fun x hx => ?_⟩, key⟩
  · obtain ⟨p, ep, g⟩ := hg.at e
    rw [Nat.zero_add] at g
    obtain ⟨F, hps, hm⟩ := key f fi p ep g
    refine ⟨by rw [g.name]; exact hm, F.kp, ?_, by rw [hps]; exact g.np⟩
    rw [hps]
    exact F.bindsN g.bind
  · rw [hc1, List.getElem?_map] at e
    obtain ⟨k, ek, rfl⟩ := Option.map_eq_some_iff.mp e
    have hk := List.all_eq_true.mp hc2 k (List.mem_of_getElem? ek)
    obtain ⟨u, p, e1, e2, e3⟩ := con_val (a := a) (vs := vs) hk X G ha (fa_ok c (List.mem_append.mpr (.inr (List.mem_append.mpr (.inl (List.mem_map.mpr ⟨k, List.mem_of_getElem? ek, rfl⟩)))))) (List.all_eq_true.mp hmo k (List.mem_of_getElem? ek))
    exact ⟨u, p, e1, e2, fun F H => by rw [hc3 j k ek]; exact e3 F H⟩
  · exact He.free_ok X G (fa_ok c (List.mem_append.mpr (.inr (List.mem_append.mpr (.inr (List.mem_map.mpr ⟨x, hx, rfl⟩))))))
/-- every def keeps its promise -/
theorem found_fn {P : Program} {w : World} {base : Heap} (X : K.In h) (G : h.Ns mainGlobals mg) (ha : h.get? a = some { cls := .type "list", data := .seq vs }) (c : He.SaysD (faOf ds cs S.free) (ds.map DefP.dd) K) (hmo : moreOf cs K = true)
    (hg : Goods S 0 S.fns ds) (hc1 : S.cons = cs.map ConK.name) (hc2 : cs.all ConK.ok = true) (hc3 : ∀ (j : Nat) (k : ConK), cs[j]? = some k → S.prog.con j = k.val) :
    ∀ (n f : Nat) (fi : FInfo), S.fns[f]? = some fi → FnG P w (cutK K a) mg base S (rtOf K ds) n f fi := by
  obtain ⟨gl, key⟩ := found_gl X G ha c hmo hg hc1 hc2 hc3
  intro n
  induction n with
  | zero => exact fun f fi _ => fnG_zero
  | succ n ih =>
    intro f fi e
    obtain ⟨p, ep, g⟩ := hg.at e
    rw [Nat.zero_add] at g
    obtain ⟨F, hps, hm⟩ := key f fi p ep g
    obtain ⟨oc, od, dV, kV, doc, pm, an, cdv, ct, osl, e1, lk, hcd, _, _⟩ := F.ex
    obtain ⟨Γe, hb, hz⟩ := g.body
    exact fnG_of (N := p.N) (d := p.d) (by rw [lk, e1]) e1 hcd (by rw [hps]; exact g.sc) g.ok gl (by rw [hps]; exact g.np) ih hb rfl hz
end
theorem toCX_false {P : Program} {w : World} {H : Hp} {s s' : Shared} {e : Value} (h : L2.CX P w [] H s (fun _ _ _ => False) e s') : False := by
  obtain ⟨_, _, _, _, _, _, _, _, _, _, _, _, q⟩ := h
  exact q
/-- THE END: the law's program, run by the interpreter, says True -/
theorem mp_law {l : PySem.W.OpenLaw} {q : Program} {loose : List PySem.Str} {XP : (PySem.Str → Option Value) → Heap → Prop} {YP : World → Heap → Prop} {d : DefRec} {S : Stat} {ds : List DefP} {cs : List ConK} {k f ret : Nat} {pl : DefP}
    (hn : l.most = some 63) (hdf : d.params.defaults = []) (hr : Room k callerA) (hgd : callerA.guards = some []) (hY : ∀ (w : World) (h : Heap), YP w h → ∃ K, PySem.W.Frag.In K h ∧ He.SaysD (faOf ds cs S.free) (ds.map DefP.dd) K ∧ moreOf cs K = true)
    (hg : Goods S 0 S.fns ds) (hc1 : S.cons = cs.map ConK.name) (hc2 : cs.all ConK.ok = true) (hc3 : ∀ (j : Nat) (k : ConK), cs[j]? = some k → S.prog.con j = k.val)
    (hf : S.fns[f]? = some ⟨d.name, 1, [], ret⟩) (hret : ret ≤ 1) (hp : ds[f]? = some pl)
    (run : ∀ ns : List Int, ns.length ≤ 63 → ∃ outs, callN S.prog k f [.lst (ns.map Val.int)] = .ok (.bool true, outs)) :
    PySem.W.WalkO q loose XP YP l.row.toRowW d [] (fun f vs => PySem.call f vs) := by
  refine Att.attach_call hn hdf fun w s₀ s₁ mg mb fa o pm cd doc a vs ns G Y ho hd hcd hmg ha hi hlen hgen => ?_
  obtain ⟨K, KX, c, hmo⟩ := hY w _ Y
  have hns := G.T.g
  have hb := G.T.b
  have hbb := G.T.builtins
  have hlim := G.T.nolimit
  have rv := vals_ints hi
  have hl : ns.length ≤ sizeLine := Nat.le_trans hlen (by decide)
  obtain ⟨gl, key⟩ := found_gl KX hns ha c hmo hg hc1 hc2 hc3
  obtain ⟨p, ep, g⟩ := hg.at hf
  rw [Nat.zero_add] at g
  rw [hp] at ep
  cases ep
  obtain ⟨FD, hps, hm⟩ := key f _ pl hp g
  have efa : fa = (rtOf K ds).fa f := by
    have e1 := hmg
    have e2 : d.name = pl.name := g.name
    rw [e2, hm] at e1
    cases e1; rfl
  let H : Hp := fun b => if b = a then some (.frz { cls := .type "list", data := .seq vs.toArray } (.lst (ns.map V.int))) else none
  have Ha : H a = some (.frz { cls := .type "list", data := .seq vs.toArray } (.lst (ns.map V.int))) := if_pos rfl
  have hO : Only H := fun b => by
    by_cases e : b = a
    · exact .inr ⟨_, _, if_pos e⟩
    · exact .inl (if_neg e)
  have hA : ∀ b, H b ≠ none → b = a := fun b z => by
    by_cases e : b = a
    · exact e
    · exact absurd (if_neg e) z
  have hok : HOk l.prog w H s₁.heap := fun b u z => by
    by_cases e : b = a
    · have z' := (if_pos e).symm.trans z
      cases z'
      subst e
      exact ⟨ha, by rw [List.length_map]; exact hl, vs, _, rv, ha⟩
    · have z' := (if_neg e).symm.trans z
      cases z'
  have base_of : ∀ {b : Addr} {o : Obj}, s₁.heap.get? b = some o → H b = none → (hidT s₁.heap H).get? b = some o := fun e n => hidT_get e n
  have noA : ∀ {b : Addr} {o : Obj} {es : Array DictEntry} {ep : Nat}, s₁.heap.get? b = some o → o.data = .dict es ep → H b = none := fun {b o es ep} e d => by
    cases q : H b with
    | none => rfl
    | some u =>
      have e' : b = a := hA b (by rw [q]; simp)
      subst e'
      rw [ha] at e; cases e
      have d' : Data.seq vs.toArray _ = Data.dict es ep := d
      cases d'
  have nsK : ∀ {b : Addr} {m : PySem.Str → Option Value}, s₁.heap.Ns b m → (hidT s₁.heap H).Ns b m := fun {b m} ⟨o, es, ep, e, d, r⟩ => ⟨o, es, ep, base_of e (noA e d), d, r⟩
  have hKb : PySem.W.Frag.In (cutK K a) (hidT s₁.heap H) := fun b o e => base_of (cut_in KX b o e) (by
    cases q : H b with
    | none => rfl
    | some u =>
      have e' : b = a := hA b (by rw [q]; simp)
      subst e'
      rw [cut_lookup, if_pos rfl] at e; cases e)
  have hM : Mod (cutK K a) mg (hidT s₁.heap H) := ⟨hKb, nsK hns, ⟨mb, nsK hb, hbb⟩, let ⟨mc, h1, h2⟩ := hlim; ⟨mc, nsK h1, h2⟩⟩
  have e0 : Env0 l.prog w (cutK K a) mg (hidT s₁.heap H) callerA [] s₁ H := ⟨rfl, hM, fun b o e => of_hidT e, Nat.le_of_eq (hidT_size _ _), trivial, fun b hb => absurd (show b ∈ ([] : List Addr) from hb) (by simp), hok, .of_eq hgen⟩
  have FN := found_fn (P := l.prog) (w := w) (base := hidT s₁.heap H) KX hns ha c hmo hg hc1 hc2 hc3 k f _ hf
  obtain ⟨outs, er⟩ := run ns hlen
  have sp : spF S (cutK K a) k f ⟨d.name, 1, [], ret⟩ [.ref a] H (fun v _ => v = .bl true) (fun _ _ _ => False) := by
    refine ⟨fun b => b = a, fun _ _ => False, [.lst (ns.map Val.int)], rfl, rfl, ⟨fun i v e => ?_, fun _ _ _ z => z, fun _ _ _ _ z => z.elim, fun b e => ?_, rfl⟩, ?_⟩
    · match i, e with
      | 0, e =>
        cases e
        exact ⟨.ref a, rfl, ⟨.lst rfl (.inr ⟨_, Ha⟩) (frs_ints ns), fun _ z => z⟩⟩
      | i + 1, e => simp at e
    · have e : b = a := e
      subst e
      rw [Ha]; simp
    · rw [er]
      intro F' fp' fr H' p _ _ ow _
      exact FR.blS (ow.b1 hret)
  rw [efa]
  have hbd : BindsTo s₁ ((rtOf K ds).fd f) ⟨[.ref a], []⟩ (((rtOf K ds).ps f).zip [.ref a]) := by
    rw [hps]
    exact FD.bindsA g.bind s₁ [.ref a] (by rw [g.np]; rfl)
  refine codeAny_mono (FN callerA [] s₁ H ⟨[.ref a], []⟩ [.ref a] [.ref a] _ _ hr hgd e0 hbd (.cons rfl .nil) sp) fun r s' h => ?_
  cases r with
  | error e => exact (toCX_false h).elim
  | ok fl =>
    cases fl with
    | next => exact False.elim h
    | brk => exact False.elim h
    | cont => exact False.elim h
    | ret u =>
      obtain ⟨v, H', os, bare, un, hok', r', q⟩ := h
      have q' : v = .bl true := q
      subst q'
      obtain rfl : u = Value.bool true := r'
      refine ⟨rfl, OldK.of_keep fun b o e => ?_, os, bare⟩
      cases q : H b with
      | none => exact un.keep b o e q (by intro z; exact absurd (show b ∈ ([] : List Addr) from z) (by simp)) (by simp)
      | some u =>
        rcases hO b with z | ⟨ob, xs, z⟩
        · rw [q] at z; cases z
        · have z2 := un.frzs b ob _ z
          obtain ⟨e1, _⟩ := hok b _ z
          obtain ⟨e2, _⟩ := hok' b _ z2
          rw [e] at e1; cases e1
          exact e2
end MP
/-! MiniPy against the hand layer: tuple(enumerate(a list)) -/
namespace MP
open L2 PySem.Spec PySem PyProof.Rows

theorem enum_no_len : typeLookup (.type "enumerate") "__len__" = pure none := by rw [typeLookup_type, builtinLookup_eq_fast]; kernel_rfl
theorem enum_no_hint : typeLookup (.type "enumerate") "__length_hint__" = pure none := by rw [typeLookup_type, builtinLookup_eq_fast]; kernel_rfl
section
variable {prog : Program} {w : World} {A : Around} {E : Value → Shared → Prop} {s : Shared} {R : Result → Shared → Prop}
def EnSt (e it l S : Addr) (items : Array Value) (h : Heap) (i : Nat) : Prop := h.IsListIter it l i ∧ h.IsList l items ∧
  ((∃ old, IsEnum h e it i old) ∨ ∃ old T f oT, IsEnumHeld h e it i old T f ∧ h.get? T = some oT ∧ T ≠ e ∧ T ≠ it ∧ T ≠ S)
def EnOf (h : Heap) (items : Array Value) (j : Nat) (a : Addr) : Prop := ∃ t x, items[j]? = some x ∧ h.get? a = some { cls := .type "tuple", data := .seq #[.int j t, x] }
structure EnAcc (e it S : Addr) (N0 : Nat) (h : Heap) (items : Array Value) (as : List Addr) (i : Nat) : Prop where
  len : as.length = i
  pt : ∀ j a, as[j]? = some a → EnOf h items j a
  ne : ∀ a ∈ as, N0 ≤ a ∧ a < h.objs.size ∧ a ≠ e ∧ a ≠ it ∧ a ≠ S
  nd : as.Nodup
theorem EnSt.frame {e it l S : Addr} {items : Array Value} {h h' : Heap} {i : Nat} (x : EnSt e it l S items h i) (hle : l ≠ S) (hi : it ≠ S) (he : e ≠ S) (k : ∀ b o, b ≠ S → h.get? b = some o → h'.get? b = some o) : EnSt e it l S items h' i := by
  obtain ⟨hit, hl, hz⟩ := x
  refine ⟨hit.at fun o q => k _ o hi q, hl.at fun o q => k _ o hle q, ?_⟩
  rcases hz with ⟨old, q⟩ | ⟨old, T, f, oT, q, hT, r1, r2, r3⟩
  · exact .inl ⟨old, k _ _ he q⟩
  · exact .inr ⟨old, T, f, oT, k _ _ he q, k _ _ r3 hT, r1, r2, r3⟩
theorem EnAcc.frame {e it S : Addr} {N0 : Nat} {h h' : Heap} {items : Array Value} {as : List Addr} {i : Nat} (x : EnAcc e it S N0 h items as i) (k : ∀ b o, b ≠ e → b ≠ it → b ≠ S → h.get? b = some o → h'.get? b = some o) : EnAcc e it S N0 h' items as i :=
  ⟨x.len, fun j a q => let ⟨t, y, e1, e2⟩ := x.pt j a q; ⟨t, y, e1, let ⟨_, _, n1, n2, n3⟩ := x.ne a (List.mem_of_getElem? q); k _ _ n1 n2 n3 e2⟩,
   fun a m => by
    obtain ⟨j, hj, q⟩ := List.getElem_of_mem m
    obtain ⟨n0, _, n1, n2, n3⟩ := x.ne a m
    obtain ⟨t, y, e1, e2⟩ := x.pt j a (by rw [List.getElem?_eq_getElem hj, q])
    exact ⟨n0, Heap.lt_size (k _ _ n1 n2 n3 e2), n1, n2, n3⟩, x.nd⟩
theorem EnAcc.push {e it S : Addr} {N0 : Nat} {h h' : Heap} {items : Array Value} {as : List Addr} {i : Nat} (x : EnAcc e it S N0 h items as i) (k : ∀ b o, b ≠ e → b ≠ it → h.get? b = some o → h'.get? b = some o)
    (ha : EnOf h' items i h.objs.size) (hn : N0 ≤ h.objs.size) (n1 : h.objs.size ≠ e) (n2 : h.objs.size ≠ it) (n3 : h.objs.size ≠ S) : EnAcc e it S N0 h' items (as ++ [h.objs.size]) (i + 1) := by
  have y := x.frame (h' := h') fun b o q1 q2 _ q => k b o q1 q2 q
  refine ⟨by rw [List.length_append, x.len]; rfl, fun j a q => ?_, fun a m => ?_, ?_⟩
  · rw [List.getElem?_append] at q
    split at q
    · exact y.pt j a q
    · rename_i hlt
      have : j - as.length = 0 := by
        cases hj : j - as.length with
        | zero => rfl
        | succ n => rw [hj] at q; simp at q
      rw [this] at q
      have e1 : h.objs.size = a := by simpa using q
      have : j = i := by have := x.len; omega
      subst this e1
      exact ha
  · rcases List.mem_append.mp m with m | m
    · exact y.ne a m
    · obtain rfl := List.mem_singleton.mp m
      obtain ⟨_, _, _, q⟩ := ha
      exact ⟨hn, Heap.lt_size q, n1, n2, n3⟩
  · refine List.nodup_append.mpr ⟨x.nd, by simp, fun a ma b mb => ?_⟩
    obtain rfl := List.mem_singleton.mp mb
    exact Nat.ne_of_lt (x.ne a ma).2.1

theorem enum_loop {e it l S : Addr} {N0 : Nat} {items : Array Value} (hh : A.in1.handled = none) (hei : e ≠ it) (hle : l ≠ e) (hli : l ≠ it) (hlS : l ≠ S) (hiS : it ≠ S) (heS : e ≠ S) (hN : N0 ≤ e) (hn : items.size ≤ sizeLine) (res : Value) :
    ∀ (k i : Nat) (s : Shared) (as : List Addr) (c : Nat), items.size - i = k → i ≤ items.size → EnSt e it l S items s.heap i → s.heap.get? S = some { cls := .type "list", dict := none, data := .seq (as.map Value.ref).toArray c, slots := #[] } → EnAcc e it S N0 s.heap items as i →
    (∀ h' tk as' c', (∀ b o, b ≠ e → b ≠ it → b ≠ S → s.heap.get? b = some o → h'.get? b = some o) → h'.get? S = some { cls := .type "list", dict := none, data := .seq (as'.map Value.ref).toArray c', slots := #[] } → EnAcc e it S N0 h' items as' items.size → R (.ok (.ret res)) { s with heap := h', toks := tk }) →
    codeAny (model prog w) A (.builtin "list.extend.loop" ⟨[.ref S, .ref e, res], []⟩) R s := by
  intro k
  induction k with
  | zero =>
    intro i s as c hk hi hst hS hacc hR
    have hin : i = items.size := by omega
    subst hin
    refine codeAny_builtin F.entry_extend_loop ?_
    rw [Around.under_plainId F.plain_extend_loop _]
    show wpAny _ A.in1 (pyNext (.ref e) >>= _) _ _ s
    obtain ⟨hit, hl, hz⟩ := hst
    have hx : items[items.size]? = none := Array.getElem?_eq_none (Nat.le_refl _)
    rcases hz with ⟨old, q⟩ | ⟨old, T, f, oT, q, hT, r1, r2, r3⟩
    · refine wpAny_bind (wpAny_pyNext_enum_end hh q hit hl hx fun h' hk' => ?_)
      exact wpAny_pure (hR h' s.toks as c (fun b o _ nb _ e => hk' b o nb e) (hk' _ _ (Ne.symm hiS) hS) (hacc.frame fun b o _ nb _ e => hk' b o nb e))
    · refine wpAny_bind (wpAny_pyNext_enum_end_held hh q hit hl hx fun h' hk' => ?_)
      exact wpAny_pure (hR h' s.toks as c (fun b o _ nb _ e => hk' b o nb e) (hk' _ _ (Ne.symm hiS) hS) (hacc.frame fun b o _ nb _ e => hk' b o nb e))
  | succ k ih =>
    intro i s as c hk hi hst hS hacc hR
    have hlt : i < items.size := by omega
    refine codeAny_builtin F.entry_extend_loop ?_
    rw [Around.under_plainId F.plain_extend_loop _]
    show wpAny _ A.in1 (pyNext (.ref e) >>= _) _ _ s
    obtain ⟨hit, hl, hz⟩ := hst
    have ex := Array.getElem?_eq_getElem hlt
    have ec : ((i + 1 : Nat) : Int) = (i : Int) + 1 := by omega
    have hes : e < s.heap.objs.size := by
      rcases hz with ⟨old, q⟩ | ⟨old, T, f, oT, q, _⟩ <;> exact Heap.lt_size q
    have his : it < s.heap.objs.size := let ⟨_, x, _⟩ := hit; Heap.lt_size x
    have hSs : S < s.heap.objs.size := Heap.lt_size hS
    have c1 : N0 ≤ s.heap.objs.size := Nat.le_of_lt (Nat.lt_of_le_of_lt hN hes)
    have c2 : s.heap.objs.size ≠ e := Nat.ne_of_gt hes
    have c3 : s.heap.objs.size ≠ it := Nat.ne_of_gt his
    have c4 : s.heap.objs.size ≠ S := Nat.ne_of_gt hSs
    rcases hz with ⟨old, q⟩ | ⟨old, T, f, oT, q, hT, r1, r2, r3⟩
    · refine wpAny_bind (wpAny_pyNext_enum_item q hit hl ex hei fun h' ho hit' hT hsz hk' => ?_)
      have hS' := hk' _ _ (Ne.symm heS) (Ne.symm hiS) hS
      have a1 := hacc.push hk' ⟨_, _, ex, hT⟩ c1 c2 c3 c4
      have st1 : EnSt e it l S items h' (i + 1) := ⟨hit', hl.at fun o x => hk' l o hle hli x, .inr ⟨_, s.heap.objs.size, false, _, (by rw [ec]; exact ho), hT, c2, c3, c4⟩⟩
      show wpAny _ A.in1 (updateSeq S (·.push (Value.ref s.heap.objs.size)) >>= _) _ _ _
      refine wpAny_bind ?_
      have e0 : ((as.map Value.ref).toArray.push (Value.ref s.heap.objs.size)) = ((as ++ [s.heap.objs.size]).map Value.ref).toArray := by simp
      have oth : ∀ b o, b ≠ S → h'.get? b = some o → (h'.update S (Obj.mapSeq (·.push (Value.ref s.heap.objs.size)))).get? b = some o := fun b o hb x => (Heap.get?_update_other _ _ (Ne.symm hb)).trans x
      obtain ⟨c9, hS9⟩ : ∃ c9, (h'.update S (Obj.mapSeq (·.push (Value.ref s.heap.objs.size)))).get? S = some { cls := .type "list", dict := none, data := .seq ((as ++ [s.heap.objs.size]).map Value.ref).toArray c9, slots := #[] } := ⟨_, by rw [← e0]; exact Heap.get?_update_self (Obj.mapSeq (·.push (Value.ref s.heap.objs.size))) hS' rfl⟩
      refine wpAny_updateSeq hS' rfl (wpAny_pure ⟨plainId_quiet F.plain_extend_loop _, ih (i + 1) _ (as ++ [s.heap.objs.size]) c9 (by omega) hlt (st1.frame hlS hiS heS oth) hS9 (a1.frame fun b o _ _ nb x => oth b o nb x) fun h2 tk as' c' hk2 hS2 hacc2 => ?_⟩)
        (by show (as.map Value.ref).toArray.size ≤ _; rw [List.size_toArray, List.length_map, hacc.len]; omega) (by show ((as.map Value.ref).toArray.push _).size ≤ sizeLine + 1; rw [Array.size_push, List.size_toArray, List.length_map, hacc.len]; omega)
      · exact hR h2 tk as' c' (fun b o n1 n2 n3 x => hk2 b o n1 n2 n3 (oth b o n3 (hk' b o n1 n2 x))) hS2 hacc2
    · refine wpAny_bind (wpAny_pyNext_enum_item_held q hT r1 r2 hit hl ex hei fun h' ho hit' hT' hsz hk' => ?_)
      have hS' := hk' _ _ (Ne.symm heS) (Ne.symm hiS) hS
      have a1 := hacc.push hk' ⟨_, _, ex, hT'⟩ c1 c2 c3 c4
      have st1 : EnSt e it l S items h' (i + 1) := ⟨hit', hl.at fun o x => hk' l o hle hli x, .inr ⟨old, T, true, oT, (by rw [ec]; exact ho), hk' _ _ r1 r2 hT, r1, r2, r3⟩⟩
      show wpAny _ A.in1 (updateSeq S (·.push (Value.ref s.heap.objs.size)) >>= _) _ _ _
      refine wpAny_bind ?_
      have e0 : ((as.map Value.ref).toArray.push (Value.ref s.heap.objs.size)) = ((as ++ [s.heap.objs.size]).map Value.ref).toArray := by simp
      have oth : ∀ b o, b ≠ S → h'.get? b = some o → (h'.update S (Obj.mapSeq (·.push (Value.ref s.heap.objs.size)))).get? b = some o := fun b o hb x => (Heap.get?_update_other _ _ (Ne.symm hb)).trans x
      obtain ⟨c9, hS9⟩ : ∃ c9, (h'.update S (Obj.mapSeq (·.push (Value.ref s.heap.objs.size)))).get? S = some { cls := .type "list", dict := none, data := .seq ((as ++ [s.heap.objs.size]).map Value.ref).toArray c9, slots := #[] } := ⟨_, by rw [← e0]; exact Heap.get?_update_self (Obj.mapSeq (·.push (Value.ref s.heap.objs.size))) hS' rfl⟩
      refine wpAny_updateSeq hS' rfl (wpAny_pure ⟨plainId_quiet F.plain_extend_loop _, ih (i + 1) _ (as ++ [s.heap.objs.size]) c9 (by omega) hlt (st1.frame hlS hiS heS oth) hS9 (a1.frame fun b o _ _ nb x => oth b o nb x) fun h2 tk as' c' hk2 hS2 hacc2 => ?_⟩)
        (by show (as.map Value.ref).toArray.size ≤ _; rw [List.size_toArray, List.length_map, hacc.len]; omega) (by show ((as.map Value.ref).toArray.push _).size ≤ sizeLine + 1; rw [Array.size_push, List.size_toArray, List.length_map, hacc.len]; omega)
      · exact hR h2 tk as' c' (fun b o n1 n2 n3 x => hk2 b o n1 n2 n3 (oth b o n3 (hk' b o n1 n2 x))) hS2 hacc2

theorem collect_enum {e it l : Addr} {N0 : Nat} {items : Array Value} {Q : List Value → Shared → Prop} (hh : A.handled = none) (hei : e ≠ it) (hle : l ≠ e) (hli : l ≠ it) (hN : N0 ≤ e) (hn : items.size ≤ sizeLine)
    {old : Value} (he : IsEnum s.heap e it 0 old) (hit : s.heap.IsListIter it l 0) (hl : s.heap.IsList l items)
    (hQ : ∀ (h' : Heap) (tk : Nat) (as : List Addr) (S : Addr), (∀ b o, b ≠ e → b ≠ it → s.heap.get? b = some o → h'.get? b = some o) → EnAcc e it S N0 h' items as items.size → N0 ≤ h'.objs.size → Q (as.map Value.ref) { s with heap := h', toks := tk }) :
    wpAny (model prog w) A (collect (.ref e)) Q E s := by
  obtain ⟨oi, hoi, _⟩ := id hit
  obtain ⟨ol, hol, _⟩ := id hl
  have hSi : it ≠ s.heap.objs.size := Nat.ne_of_lt (Heap.lt_size hoi)
  have hSl : l ≠ s.heap.objs.size := Nat.ne_of_lt (Heap.lt_size hol)
  have hSe : e ≠ s.heap.objs.size := Nat.ne_of_lt (Heap.lt_size he)
  unfold collect
  refine wpAny_bind (wpAny_runValue (codeAny_builtin F.entry_proto_collect ?_))
  rw [Around.under_plainId F.plain_proto_collect _]
  show wpAny _ A.in1 (newList [] >>= fun l' => again (.builtin "list.__iadd__" ⟨[l', .ref e], []⟩)) _ _ s
  refine wpAny_bind (wpAny_newObj_type ?_)
  refine wpAny_pure ⟨plainId_quiet F.plain_list_iadd _, codeAny_builtin F.entry_list_iadd ?_⟩
  rw [Around.under_plainId F.plain_list_iadd _]
  have hS₁ : (s.heap.push { cls := .type "list", data := .seq ([] : List Value).toArray }).get? s.heap.objs.size = some { cls := .type "list", data := .seq ([] : List Value).toArray } := Heap.get?_push_size _ rfl
  have st1 : EnSt e it l s.heap.objs.size items (s.heap.push { cls := .type "list", data := .seq ([] : List Value).toArray }) 0 :=
    ⟨hit.at fun o q => Heap.get?_push_of_some _ q, hl.push _, .inl ⟨old, Heap.get?_push_of_some _ he⟩⟩
  have he1 : IsEnum (s.heap.push { cls := .type "list", data := .seq ([] : List Value).toArray }) e it 0 old := Heap.get?_push_of_some _ he
  have hT : ({ s with heap := s.heap.push { cls := .type "list", data := .seq ([] : List Value).toArray } } : Shared).TypeIs (.ref e) "enumerate" := ⟨_, he1, rfl⟩
  have h1 : Builtin.List.listSameRef (.ref s.heap.objs.size) (.ref e) = false := by simp [Builtin.List.listSameRef, Ne.symm hSe]
  have h2 : (Value.type "enumerate" == Value.type "list") = false := by decide
  have h3 : (Value.type "enumerate" == Value.type "tuple") = false := by decide
  show wpAny _ A.in1 (Builtin.List.listExtendWith (.ref s.heap.objs.size) (.ref e) (.ref s.heap.objs.size)) _ _ _
  unfold Builtin.List.listExtendWith
  refine wpAny_bind (wpAny_typeOf hT ?_)
  simp only [h1, h2, h3, Bool.or_false, Bool.false_eq_true, if_false]
  refine wpAny_bind (wpAny_pyIter_enum (s := { s with heap := s.heap.push { cls := .type "list", data := .seq ([] : List Value).toArray } }) he1 ?_)
  refine wpAny_bind (wpAny_holding ?_)
  unfold Builtin.List.listLengthHint
  refine wpAny_bind (wpAny_specialOf hT enum_no_len ?_)
  show wpAny _ A.in1 (specialOf (Value.ref e) (Str.ofString "__length_hint__") >>= _) _ _ _
  refine wpAny_bind (wpAny_specialOf hT enum_no_hint ?_)
  refine wpAny_pure ?_
  show wpAny _ A.in1 (rule "list.extend.makes-room" >>= fun _ => Builtin.List.listTouch (.ref s.heap.objs.size) >>= fun _ =>
    again (.builtin "list.extend.loop" ⟨[.ref s.heap.objs.size, .ref e, .ref s.heap.objs.size], []⟩)) _ _ _
  refine wpAny_bind (wpAny_rule ?_)
  refine wpAny_bind ?_
  show wpAny _ A.in1 (updateSeq s.heap.objs.size (·.push .none) >>= fun _ => updateSeq s.heap.objs.size (·.pop)) _ _ _
  refine wpAny_bind (wpAny_updateSeq hS₁ rfl ?_)
  have hS₂ := Heap.get?_update_self (Obj.mapSeq (·.push Value.none)) hS₁ rfl
  refine wpAny_updateSeq hS₂ rfl ?_
  have hS₃ := Heap.get?_update_self (Obj.mapSeq (·.pop)) hS₂ rfl
  have oth : ∀ b o, b ≠ s.heap.objs.size → (s.heap.push { cls := .type "list", data := .seq ([] : List Value).toArray }).get? b = some o →
      (((s.heap.push { cls := .type "list", data := .seq ([] : List Value).toArray }).update s.heap.objs.size (Obj.mapSeq (·.push Value.none))).update s.heap.objs.size (Obj.mapSeq (·.pop))).get? b = some o :=
    fun b o hb e => (Heap.get?_update_other _ _ (Ne.symm hb)).trans ((Heap.get?_update_other _ _ (Ne.symm hb)).trans e)
  refine wpAny_pure ⟨plainId_quiet F.plain_extend_loop _, enum_loop (A := A) (N0 := N0) (items := items) hh hei hle hli hSl hSi hSe hN hn _ items.size 0 _ [] _ rfl (Nat.zero_le _)
    (st1.frame hSl hSi hSe oth) hS₃ ⟨rfl, fun j a q => by simp at q, fun a m => by simp at m, List.nodup_nil⟩ fun h2 tk as' c' hk2 hS2 hacc2 => ?_⟩
  show wpAny _ A (load s.heap.objs.size >>= _) _ _ _
  refine wpAny_bind (wpAny_load hS2 ?_)
  refine wpAny_pure ?_
  have hlS2 := Heap.lt_size hS2
  have hle' : e < s.heap.objs.size := Heap.lt_size he
  have := hQ h2 tk as' s.heap.objs.size (fun b o n1 n2 q => ?_) hacc2 (Nat.le_of_lt (Nat.lt_of_le_of_lt hN (Nat.lt_trans hle' hlS2)))
  · simpa using this
  · have nS : b ≠ s.heap.objs.size := Nat.ne_of_lt (Heap.lt_size q)
    exact hk2 b o n1 n2 nS (oth b o nS (Heap.get?_push_of_some _ q))

theorem code_tuple_new_enum {e it l : Addr} {N0 : Nat} {items : Array Value} {Q₁ : Value → Shared → Prop} (hh : A.handled = none) (hei : e ≠ it) (hle : l ≠ e) (hli : l ≠ it) (hN : N0 ≤ e) (hn : items.size ≤ sizeLine)
    {old : Value} (he : IsEnum s.heap e it 0 old) (hit : s.heap.IsListIter it l 0) (hl : s.heap.IsList l items)
    (h : ∀ (h' : Heap) (tk : Nat) (as : List Addr) (S : Addr), (∀ b o, b ≠ e → b ≠ it → s.heap.get? b = some o → h'.get? b = some o) → EnAcc e it S N0 h' items as items.size → N0 ≤ h'.objs.size →
      Q₁ (.ref h'.objs.size) { s with heap := h'.push { cls := .type "tuple", data := .seq (as.map Value.ref).toArray }, toks := tk }) :
    codeAny (model prog w) A (.call (.builtin "tuple.__new__") ⟨[.type "tuple", .ref e], []⟩) (wants Q₁ E) s := by
  refine codeAny_of_tree ?_
  show wpAny _ A.in1 (do checkBuiltinCall "tuple.__new__" ⟨[.type "tuple", .ref e], []⟩; again (.builtin "tuple.__new__" ⟨[.type "tuple", .ref e], []⟩)) _ _ s
  refine wpAny_bind (wpAny_of_eq (F.newCall_tuple_1 _) (wpAny_pure ⟨plainId_quiet F.plain_tuple_new _, codeAny_builtin F.entry_tuple_new ?_⟩))
  rw [Around.under_plainId F.plain_tuple_new _]
  have hsub := sub_tuple_self
  have hinit := init_tuple_lookup
  have hmh := madeHere_tuple
  have hTI : s.TypeIs (.ref e) "enumerate" := ⟨_, he, rfl⟩
  have hh1 : A.in1.handled = none := hh
  wp_walk using wpAny_typeOf hTI, collect_enum (A := A.in1) (N0 := N0) hh1 hei hle hli hN hn he hit hl
  intro h' tk as S hk hacc hz0
  show wpAny _ _ (Builtin.Tuple.tupleExact (as.map Value.ref).toArray >>= fun v => ret v) _ _ _
  unfold Builtin.Tuple.tupleExact
  refine wpAny_bind (wpAny_newObj_type ?_ (by show (as.map Value.ref).toArray.size ≤ sizeLine; rw [List.size_toArray, List.length_map, hacc.len]; exact hn))
  refine wpAny_pure ?_
  exact h h' tk as S hk hacc hz0
theorem call_tuple_enum {e it l : Addr} {N0 : Nat} {items : Array Value} {Q : Value → Shared → Prop} (hh : A.handled = none) (hei : e ≠ it) (hle : l ≠ e) (hli : l ≠ it) (hN : N0 ≤ e) (hn : items.size ≤ sizeLine)
    {old : Value} (he : IsEnum s.heap e it 0 old) (hit : s.heap.IsListIter it l 0) (hl : s.heap.IsList l items)
    (hQ : ∀ (h' : Heap) (tk : Nat) (as : List Addr) (S : Addr), (∀ b o, b ≠ e → b ≠ it → s.heap.get? b = some o → h'.get? b = some o) → EnAcc e it S N0 h' items as items.size → N0 ≤ h'.objs.size →
      Q (.ref h'.objs.size) { s with heap := h'.push { cls := .type "tuple", data := .seq (as.map Value.ref).toArray }, toks := tk }) :
    wpAny (model prog w) A (call (.type "tuple") [.ref e]) Q E s := by
  refine callType_codes (Q₁ := fun obj s₁ => s₁.TypeIs obj "tuple" ∧ Q obj s₁) F.called_tuple (F.typeCall_tuple_1 _) F.entry_object_init
    (code_tuple_new_enum (A := A.in1) (N0 := N0) hh hei hle hli hN hn he hit hl fun h' tk as S hk hacc hz0 => ⟨⟨_, Heap.get?_push_size _ rfl, rfl⟩, hQ h' tk as S hk hacc hz0⟩) fun obj s₁ h₁ => ?_
  exact ⟨h₁.1, F.args_object_init_2 obj _, object_init_meets F.called_tuple.init.lookup F.called_tuple.made (by decide) prog w A.in1 _ s₁ ⟨h₁.1, rfl, h₁.2⟩⟩
end
/-- pairs laid one behind another -/
def pairsH : Hp → Nat → List Addr → List V → Hp
  | H, i, a :: as, x :: xs => pairsH (upd H a (.tup [.int i, x])) (i + 1) as xs
  | H, _, _, _ => H
def rTupEnum (K : Fg) (x : V) (H : Hp) (Q : VK) : Prop := ∃ a xs, x = .ref a ∧ SqL K H a xs ∧ ∀ (as : List Addr) (l : Addr), as.length = xs.length → as.Nodup → (∀ a ∈ as, H a = none) → H l = none → l ∉ as → Q (.ref l) (upd (pairsH H 0 as xs) l (.tup (as.map .ref)))
theorem pairsH_ne {b : Addr} : ∀ (as : List Addr) (xs : List V) (H : Hp) (i : Nat), b ∉ as → pairsH H i as xs b = H b
  | [], _, _, _, _ => by cases ‹List V› <;> rfl
  | a :: as, [], _, _, _ => rfl
  | a :: as, x :: xs, H, i, hb => by
    show pairsH (upd H a (.tup [.int i, x])) (i + 1) as xs b = H b
    rw [pairsH_ne as xs _ _ fun z => hb (List.mem_cons_of_mem _ z), upd_ne fun z => hb (by rw [z]; exact List.mem_cons_self)]
theorem pairsH_at : ∀ (as : List Addr) (xs : List V) (H : Hp) (i j : Nat) (a : Addr) (x : V), as.Nodup → as[j]? = some a → xs[j]? = some x → pairsH H i as xs a = some (.tup [.int ((i + j : Nat) : Int), x])
  | [], _, _, _, _, _, _, _, e, _ => by simp at e
  | a :: as, [], _, _, _, _, _, _, _, e => by simp at e
  | a :: as, x :: xs, H, i, 0, a', x', nd, e1, e2 => by
    simp at e1 e2; subst e1 e2
    show pairsH (upd H a (.tup [.int i, x])) (i + 1) as xs a = _
    rw [pairsH_ne as xs _ _ (List.nodup_cons.mp nd).1]
    exact upd_same
  | a :: as, x :: xs, H, i, j + 1, a', x', nd, e1, e2 => by
    show pairsH (upd H a (.tup [.int i, x])) (i + 1) as xs a' = _
    rw [pairsH_at as xs _ (i + 1) j a' x' (List.nodup_cons.mp nd).2 (by simpa using e1) (by simpa using e2), show i + 1 + j = i + (j + 1) by omega]
section
variable {X : Cx} {pins : List (Addr × Obj)} {σ : L2.St} {s : Shared}
theorem inv_pairs {h' : Heap} {tk : Nat} : ∀ (as : List Addr) (xs : List V) (H : Hp) (i : Nat) (G : Heap), as.length = xs.length → Inv X pins σ H { s with heap := G, toks := tk } → (∀ b o, G.get? b = some o → h'.get? b = some o) → as.Nodup → (∀ a ∈ as, G.get? a = none ∧ H a = none) →
    (∀ (j : Nat) a x, as[j]? = some a → xs[j]? = some x → ∃ t u, RelV x u ∧ h'.get? a = some { cls := .type "tuple", data := .seq #[.int ((i + j : Nat) : Int) t, u] }) → Inv X pins σ (pairsH H i as xs) { s with heap := h', toks := tk }
  | [], xs, H, i, G, _, I, k, _, _, _ => by
    have : pairsH H i [] xs = H := by cases xs <;> rfl
    rw [this]
    exact I.kept (t' := tk) k
  | a :: as, [], _, _, _, e, _, _, _, _, _ => by simp at e
  | a :: as, x :: xs, H, i, G, e, I, k, nd, hf, ho => by
    obtain ⟨G2, g1, g2⟩ := restrict h' fun b => decide (b ∉ as)
    have na := (List.nodup_cons.mp nd).1
    obtain ⟨t, u, ru, hu⟩ := ho 0 a x rfl rfl
    have k2 : ∀ b o, G.get? b = some o → G2.get? b = some o := fun b o q => by
      rw [g1 b (decide_eq_true fun m => ?_)]
      · exact k b o q
      · rw [(hf b (List.mem_cons_of_mem _ m)).1] at q; cases q
    have hu2 : G2.get? a = some { cls := .type "tuple", data := .seq #[.int ((i + 0 : Nat) : Int) t, u] } := by rw [g1 a (decide_eq_true na)]; exact hu
    have I2 : Inv X pins σ (upd H a (.tup [.int i, x])) { s with heap := G2, toks := tk } :=
      I.laidN (t' := tk) k2 (hf a List.mem_cons_self).1 (hf a List.mem_cons_self).2 (show ObjOk X.prog X.w _ _ _ (.tup [.int i, x]) from ⟨by show 2 ≤ sizeLine; decide, [.int i t, u], .cons ⟨t, rfl⟩ (.cons ru .nil), ⟨_, hu2, rfl, _, rfl⟩⟩)
    refine inv_pairs as xs _ (i + 1) G2 (by simpa using e) I2 (fun b o q => ?_) (List.nodup_cons.mp nd).2 (fun b m => ?_) fun j b y e1 e2 => ?_
    · by_cases m : b ∈ as
      · rw [g2 b (decide_eq_false fun z => z m)] at q; cases q
      · rw [← g1 b (decide_eq_true m)]; exact q
    · refine ⟨g2 b (decide_eq_false fun z => z m), ?_⟩
      rw [upd_ne fun z => na (by rw [← z]; exact m)]
      exact (hf b (List.mem_cons_of_mem _ m)).2
    · obtain ⟨t, u, r, z⟩ := ho (j + 1) b y (by simpa using e1) (by simpa using e2)
      refine ⟨t, u, r, ?_⟩
      rw [show i + 1 + j = i + (j + 1) by omega]
      exact z
end
section
variable {X : Cx}
theorem pe_tupEnum {e : Expr} {te : TE} {p p2 pos pos2 : Pos} (hc : X.calm = true) (hg : L2.Gl X "tuple") (hm : X.mg "tuple" = none) (hg2 : L2.Gl X "enumerate") (hm2 : X.mg "enumerate" = none) (he : PE X e te)
    (hs : starEach [e] X.env = (false, eval e X.env) :: starEach [] X.env := by rfl)
    (hs2 : starEach [.Call (.Name "enumerate" p2) [e] [] pos2] X.env = (false, eval (.Call (.Name "enumerate" p2) [e] [] pos2) X.env) :: starEach [] X.env := by rfl) :
    PE X (.Call (.Name "tuple" p) [.Call (.Name "enumerate" p2) [e] [] pos2] [] pos) (fun σ H Q => te σ H fun x H1 => rTupEnum X.K x H1 Q) := by
  refine ⟨fun pins s σ H Q I h => ?_⟩
  refine Call_ (ld_blt I hg hm boot_tuple (PyProof.Rows.callWith_type1 (args_cons (Call_ (ld_blt I hg2 hm2 PyProof.Rows.boot_enumerate (PyProof.Rows.callWith_type1 (args_cons (thn (he.run pins s σ H _ I h) fun u s1 ⟨v, H1, I1, r1, q1⟩ => args_nil ?_) hs) hs rfl))) hs2) hs2 rfl))
  obtain ⟨a, xs, ev, hq, q⟩ := q1
  subst ev
  obtain rfl : u = Value.ref a := r1
  obtain ⟨its, rv, p', hz⟩ := I1.list hq
  have hl := p'.isList
  obtain ⟨ol, hol, _⟩ := id hl
  have hls : a < s1.heap.objs.size := Heap.lt_size hol
  refine call_enumerate_list p'.isList fun h1 hE hit hsz hk1 => args_nil ?_
  have hn : its.toArray.size ≤ sizeLine := by rw [List.size_toArray, ← rv.length]; exact hz
  refine call_tuple_enum (N0 := s1.heap.objs.size) (s := { s1 with heap := h1 }) (I1.ok.hd hc) (Nat.succ_ne_self _) (Nat.ne_of_lt (Nat.lt_succ_of_lt hls)) (Nat.ne_of_lt hls) (Nat.le_succ _) hn hE hit (hl.at fun o z => hk1 _ o z) fun h' tk as S hk hacc hz0 => ?_
  have hlen : as.length = xs.length := by rw [hacc.len, List.size_toArray, rv.length]
  obtain ⟨G, g1, g2⟩ := restrict h' fun b => decide (b ∉ as)
  have kG : ∀ b o, s1.heap.get? b = some o → G.get? b = some o := fun b o z => by
    have lt := Heap.lt_size z
    rw [g1 b (decide_eq_true fun m => ?_)]
    · exact hk b o (Nat.ne_of_lt (Nat.lt_succ_of_lt lt)) (Nat.ne_of_lt lt) (hk1 b o z)
    · exact absurd lt (Nat.not_lt_of_le (hacc.ne b m).1)
  have I2 : Inv X pins σ H1 { s1 with heap := G, toks := tk } := I1.kept (t' := tk) kG
  have hfr : ∀ b ∈ as, H1 b = none := fun b m => I1.hok.fresh (hacc.ne b m).1
  have I3 : Inv X pins σ (pairsH H1 0 as xs) { s1 with heap := h', toks := tk } := by
    refine inv_pairs as xs H1 0 G hlen I2 (fun b o z => ?_) hacc.nd (fun b m => ⟨g2 b (decide_eq_false fun z => z m), hfr b m⟩) fun j b x e1 e2 => ?_
    · by_cases m : b ∈ as
      · rw [g2 b (decide_eq_false fun y => y m)] at z; cases z
      · rw [← g1 b (decide_eq_true m)]; exact z
    · obtain ⟨t, u, z1, z2⟩ := hacc.pt j b e1
      obtain ⟨u', hu', ru⟩ := rv.get e2
      have : u = u' := by
        have z1 : its[j]? = some u := by simpa using z1
        rw [z1] at hu'; cases hu'; rfl
      subst this
      exact ⟨t, u, ru, by rw [Nat.zero_add]; exact z2⟩
  have hl0 : H1 h'.objs.size = none := I1.hok.fresh hz0
  have hnm : h'.objs.size ∉ as := fun m => Nat.lt_irrefl _ (hacc.ne _ m).2.1
  refine ⟨.ref h'.objs.size, _, I3.laid (t' := tk) (fun c o z => Heap.get?_push_of_some _ z) (Nat.le_refl _) (show ObjOk X.prog X.w _ _ _ (.tup (as.map V.ref)) from ⟨by rw [List.length_map, hlen]; exact hz, as.map Value.ref, ?_, IsTup.new _ _⟩), rfl, q as _ hlen hacc.nd hfr hl0 hnm⟩
  clear hz0
  clear hnm hl0 I3 hfr I2 kG g1 g2 hlen hacc
  induction as with
  | nil => exact .nil
  | cons a as ih => exact .cons rfl ih
end
section
variable {K : Fg} {S : Stat} {Γ Γ' Γ1 Γ2 : List Nat} {F F' : AS} {fp fp' : Nat → AS} {ρ : MP.Env} {σ : L2.St} {H H' : Hp} {b fz : Bool} {k : Nat} {E : XK} {C : Ct}
theorem pairs_fr {H' : Hp} : ∀ (vs : List Val) (ps : List V) (as : List Addr) (i : Nat), FRs K F H' vs ps → as.length = ps.length → (∀ (j : Nat) a x, as[j]? = some a → ps[j]? = some x → H' a = some (.tup [.int ((i + j : Nat) : Int), x])) →
    FRs K F H' ((vs.zipIdx i).map fun u => .tup [.int u.2, u.1]) (as.map .ref)
  | _, _, [], _, .nil, _, _ => .nil
  | _, _, _ :: _, _, .nil, e, _ => by simp at e
  | _, _, [], _, .cons _ _, e, _ => by simp at e
  | v :: vs, p :: ps, a :: as, i, .cons h t, e, ho => by
    rw [List.zipIdx_cons, List.map_cons, List.map_cons]
    refine .cons (.tup (.inl (by have := ho 0 a p rfl rfl; simpa using this)) (.cons (.int _) (.cons h .nil))) (pairs_fr vs ps as (i + 1) t (by simpa using e) fun j b x e1 e2 => ?_)
    have := ho (j + 1) b x (by simpa using e1) (by simpa using e2)
    rw [show i + 1 + j = i + (j + 1) by omega]
    exact this
theorem p1_tupEnum {k : Nat} : P1 K k (rTupEnum K) fun v => blt .tupEnum [v] := by
  intro F H x v p Q hF hx e hq
  cases x <;> cases e
  obtain ⟨a, ps, rfl, ha, rs⟩ := hx
  refine ⟨a, ps, rfl, .inl ha, fun as l hlen nd hfr hl hnm => ?_⟩
  have keep : ∀ b, H b ≠ none → upd (pairsH H 0 as ps) l (.tup (as.map .ref)) b = H b := fun b hb => by
    rw [upd_ne fun z => hb (by rw [z]; exact hl), pairsH_ne as ps H 0 fun m => hb (hfr b m)]
  have kp : Keeps F H (upd (pairsH H 0 as ps) l (.tup (as.map .ref))) := ⟨fun a ps r => by
    rw [keep a (by rw [r]; simp)]; exact r, fun a u f r => by
    have nn : H a ≠ none := by rcases r with r | ⟨o, r⟩ <;> rw [r] <;> simp
    unfold Rd at r ⊢; rw [keep a nn]; exact r⟩
  have ft : FR K F (upd (pairsH H 0 as ps) l (.tup (as.map .ref))) (.tup (_)) (.ref l) := .tup (.inl upd_same) (pairs_fr _ ps as 0 (rs.mono kp fun _ z => z) hlen fun j b y e1 e2 => by
    rw [upd_ne fun z => hnm (by rw [← z]; exact List.mem_of_getElem? e1)]
    exact pairsH_at as ps H 0 j b y nd e1 e2)
  refine hq _ (fun _ => False) _ keep ?_ fun _ z => z.elim
  cases k with
  | zero => exact ⟨ft, fun _ z => z⟩
  | succ k => exact ⟨ft, fun _ z => z⟩
theorem je_tupEnum {e : Expr} {t : MP.E} {p p2 q pos : Pos} (hb : Bn C "tuple" (.type "tuple")) (hb2 : Bn C "enumerate" (.type "enumerate")) (hs : NoStar e) (ha : JB C Γ b e t) : JE C Γ b k (.Call (.Name "tuple" p) [.Call (.Name "enumerate" p2) [e] [] q] [] pos) (.blt .tupEnum (.cons t .nil)) :=
  je_prim1 (f := fun v => blt .tupEnum [v]) (r := fun X v H Q => rTupEnum X.K v H Q) (fun G => evE_blt1 (by intro h; cases h))
    (fun {n R E X} cx tl hl => pe_tupEnum cx.calm (hb.gl cx) (hb.mg cx) (hb2.gl cx) (hb2.mg cx) hl (hs [] X.env) rfl) (fun X => p1_tupEnum) (fun v => nox_blt _ _) ha
end
end MP
/-! MiniPy against the hand layer: least and greatest of a list of texts or tuples; either of two readings -/
namespace MP
open L2 PySem.Spec PySem PyProof.Rows

section
variable {K : Fg} {S : Stat} {Γ Γ' Γ1 Γ2 : List Nat} {F F' : AS} {fp fp' : Nat → AS} {ρ : MP.Env} {σ : L2.St} {H H' : Hp} {b fz : Bool} {k : Nat} {E : XK} {C : Ct}
theorem rsat_alt {α : Type} {x y : Res α} {Q : α → Prop} {X : Nat → List Val → Prop} (h : RSat (x.alt y) Q X) : RSat x Q X ∨ RSat y Q X := by
  cases x with
  | ok a => exact .inl h
  | exc c vs => exact .inl h
  | stuck => exact .inr h
/-- one reading or the other -/
theorem je_alt {e : Expr} {t1 t2 : MP.E} (h1 : JE C Γ b k e t1) (h2 : JE C Γ b k e t2) : JE C Γ b k e (.alt t1 t2) := by
  intro n R E X cx
  refine ((h1 cx).or (h2 cx)).imp fun σ H Q q => ?_
  obtain ⟨F, fp, ρ, st, q⟩ := q
  simp only [evE] at q
  rcases rsat_alt q with q | q
  · exact .inl ⟨F, fp, ρ, st, q⟩
  · exact .inr ⟨F, fp, ρ, st, q⟩
theorem argBest_le (bt : Nat → Nat → Bool) : ∀ n, argBest bt n ≤ n
  | 0 => Nat.le_refl _
  | n + 1 => by
    have := argBest_le bt n
    unfold argBest
    split <;> omega
theorem argBest_congr {bt bt' : Nat → Nat → Bool} : ∀ {n : Nat}, (∀ i j, i ≤ n → j ≤ n → bt i j = bt' i j) → argBest bt n = argBest bt' n
  | 0, _ => rfl
  | n + 1, h => by
    unfold argBest
    rw [argBest_congr (n := n) fun i j a b => h i j (by omega) (by omega), h _ _ (Nat.le_refl _) (Nat.le_succ_of_le (argBest_le _ _))]
def rBestD (K : Fg) (lt : PyData → PyData → Bool) : List V → Hp → VK → Prop := fun xs H Q => ∃ (a : Addr) (vs : List Val) (ps : List V), xs = [.ref a] ∧ SqL K H a ps ∧ ps.length = vs.length ∧ 0 < vs.length ∧ DpAll K H ps (dats vs) ∧ PySem.W.AlikeAll (dats vs) ∧ (∀ v ∈ vs, (dat v).depth ≤ 60) ∧
  ∀ p, ps[argBest (fun i j => lt ((dats vs).getD i .none) ((dats vs).getD j .none)) (vs.length - 1)]? = some p → Q p H
theorem depthAll_le : ∀ {ds : List PyData} {n : Nat}, (∀ d ∈ ds, d.depth ≤ n) → PyData.depthAll ds ≤ n
  | [], _, _ => Nat.zero_le _
  | d :: ds, n, h => by
    show max _ _ ≤ n
    exact Nat.max_le.mpr ⟨h d List.mem_cons_self, depthAll_le fun d hd => h d (List.mem_cons_of_mem _ hd)⟩
theorem cr_minD {X : Cx} (hc : X.calm = true) (hu : X.A.units + 65 < cLine) : CallR X (.builtin "min") (rBestD X.K PySem.W.dataLt) := by
  intro pins s σ H xs us Q I r h
  obtain ⟨a, vs, ps, rfl, hs, hl, hn, hd, ha, hdp, q⟩ := h
  obtain ⟨its, rv, hls, hz⟩ := I.list hs
  rw [Vals.ref1 r]
  obtain ⟨as, rd⟩ := Dp.readsAll I _ _ _ hd rv
  have hsz : its.length = vs.length := by rw [← hl, rv.length]
  have dl : PyData.depthAll (dats vs) ≤ 60 := depthAll_le fun d hd => by
    obtain ⟨v, hv, rfl⟩ := mem_dats hd
    exact hdp v hv
  refine PySem.call_min_walkH (PySem.W.iter_listW (A := X.A.in1) (I.ok.hd hc) hls.isList fun s₂ e W st hfp hw hk => ?_)
  refine ⟨_, _, _, _, _, _, _, s.heap, _, rfl, W, st, hfp, by simpa [hsz] using hn, hw, hk, PySem.W.cmpIn_lt (A := X.A.in1) (vs := its.toArray) (by simpa using rd) ha (by show X.A.units + 1 + _ < _; omega), fun v s' hP m => ?_⟩
  obtain ⟨h', tk, rfl, hk'⟩ := PySem.W.moved_old e rfl m
  have hP : its.toArray[argBest (fun i j => PySem.W.dataLt ((dats vs).getD i .none) ((dats vs).getD j .none)) (its.toArray.size - 1)]? = some v := hP
  have e2 : its.toArray.size - 1 = vs.length - 1 := by simp [hsz]
  rw [e2] at hP
  simp only [List.getElem?_toArray] at hP
  obtain ⟨hb, _⟩ := List.getElem?_eq_some_iff.mp hP
  have hp := List.getElem?_eq_getElem (l := ps) (i := argBest (fun i j => PySem.W.dataLt ((dats vs).getD i .none) ((dats vs).getD j .none)) (vs.length - 1)) (Nat.lt_of_lt_of_eq hb (hsz.trans hl.symm))
  obtain ⟨u, hu1, hu2⟩ := rv.get hp
  rw [hP] at hu1
  cases hu1
  exact ⟨_, H, I.kept hk', hu2, q _ hp⟩
theorem cr_maxD {X : Cx} (hc : X.calm = true) (hu : X.A.units + 65 < cLine) : CallR X (.builtin "max") (rBestD X.K fun a b => PySem.W.dataLt b a) := by
  intro pins s σ H xs us Q I r h
  obtain ⟨a, vs, ps, rfl, hs, hl, hn, hd, ha, hdp, q⟩ := h
  obtain ⟨its, rv, hls, hz⟩ := I.list hs
  rw [Vals.ref1 r]
  obtain ⟨as, rd⟩ := Dp.readsAll I _ _ _ hd rv
  have hsz : its.length = vs.length := by rw [← hl, rv.length]
  have dl : PyData.depthAll (dats vs) ≤ 60 := depthAll_le fun d hd => by
    obtain ⟨v, hv, rfl⟩ := mem_dats hd
    exact hdp v hv
  refine PySem.call_max_walkH (PySem.W.iter_listW (A := X.A.in1) (I.ok.hd hc) hls.isList fun s₂ e W st hfp hw hk => ?_)
  refine ⟨_, _, _, _, _, _, _, s.heap, _, rfl, W, st, hfp, by simpa [hsz] using hn, hw, hk, PySem.W.cmpIn_gt (A := X.A.in1) (vs := its.toArray) (by simpa using rd) ha (by show X.A.units + 1 + _ < _; omega), fun v s' hP m => ?_⟩
  obtain ⟨h', tk, rfl, hk'⟩ := PySem.W.moved_old e rfl m
  have hP : its.toArray[argBest (fun i j => PySem.W.dataLt ((dats vs).getD j .none) ((dats vs).getD i .none)) (its.toArray.size - 1)]? = some v := hP
  have e2 : its.toArray.size - 1 = vs.length - 1 := by simp [hsz]
  rw [e2] at hP
  simp only [List.getElem?_toArray] at hP
  obtain ⟨hb, _⟩ := List.getElem?_eq_some_iff.mp hP
  have hp := List.getElem?_eq_getElem (l := ps) (i := argBest (fun i j => PySem.W.dataLt ((dats vs).getD j .none) ((dats vs).getD i .none)) (vs.length - 1)) (Nat.lt_of_lt_of_eq hb (hsz.trans hl.symm))
  obtain ⟨u, hu1, hu2⟩ := rv.get hp
  rw [hP] at hu1
  cases hu1
  exact ⟨_, H, I.kept hk', hu2, q _ hp⟩
theorem dats_getD (vs : List Val) (i : Nat) : (dats vs).getD i .none = dat (vs.getD i .none) := by
  rw [dats_map, List.getD_eq_getElem?_getD, List.getElem?_map, List.getD_eq_getElem?_getD]
  cases vs[i]? with
  | none => simp [dat]
  | some v => rfl
theorem p1_bestD {lt : Val → Val → Bool} {lt' : PyData → PyData → Bool} (hlt : ∀ v w, alike v w = true → alike w v = true → shp 60 v = true → shp 60 w = true → lt v w = lt' (dat v) (dat w)) :
    P1 K 0 (fun v H Q => rBestD K lt' [v] H Q) fun v => match v with | .lst vs => if allAlike vs && shps 60 vs && sortable vs then orStuck (best lt vs) else .stuck | _ => .stuck := by
  intro F H x v p Q hF hx e hq
  cases x <;> first | (cases e; done) | skip
  rename_i vs
  have e : (if allAlike vs && shps 60 vs && sortable vs then orStuck (best lt vs) else Res.stuck) = .ok v := e
  split at e
  · rename_i hcond
    obtain ⟨a, ps, rfl, ha, rs⟩ := hx
    have e0 : sorted vs = .ok (vs.mergeSort le') := if_pos hcond
    obtain ⟨a1, a2, a3, a4, _⟩ := sorted_frs e0 rs
    simp only [Bool.and_eq_true] at hcond
    obtain ⟨⟨h1, h2⟩, h3⟩ := hcond
    have hal : ∀ a ∈ vs, ∀ b ∈ vs, alike a b = true := fun a ha b hb => by
      unfold allAlike at h1
      exact List.all_eq_true.mp (List.all_eq_true.mp h1 a ha) b hb
    have e := orStuck_ok e
    cases vs with
    | nil => cases e
    | cons x r =>
      have e : some (r.foldl (fun b y => if lt y b then y else b) x) = some v := e
      cases e
      refine ⟨a, x :: r, ps, rfl, .inl ha, rs.length.symm, Nat.succ_pos _, a1, ⟨fun d hd d' hd' => a2 d hd d' hd', fun d hd => ?_⟩, a4, fun p hp => ?_⟩
      · rcases a3 with a3 | a3
        · obtain ⟨y, q, e⟩ := a3 d hd
          rw [e]; simp
        · exact (a3 d hd).1
      · have ec : argBest (fun i j => lt' ((dats (x :: r)).getD i .none) ((dats (x :: r)).getD j .none)) ((x :: r).length - 1) = argBest (fun i j => lt ((x :: r).getD i .none) ((x :: r).getD j .none)) r.length := by
          rw [show (x :: r).length - 1 = r.length from rfl]
          refine argBest_congr fun i j hi hj => ?_
          have gi : (x :: r).getD i .none ∈ x :: r := by
            rw [List.getD_eq_getElem?_getD, List.getElem?_eq_getElem (by simp; omega)]
            exact List.getElem_mem _
          have gj : (x :: r).getD j .none ∈ x :: r := by
            rw [List.getD_eq_getElem?_getD, List.getElem?_eq_getElem (by simp; omega)]
            exact List.getElem_mem _
          rw [dats_getD, dats_getD]
          exact (hlt _ _ (hal _ gi _ gj) (hal _ gj _ gi) (shps_mem h2 gi) (shps_mem h2 gj)).symm
        rw [ec] at hp
        obtain ⟨b1, b2⟩ := PySem.W.argBest_fold lt Val.none x r r.length (Nat.le_refl _)
        rw [List.take_length] at b2
        have hv : (x :: r)[argBest (fun i j => lt ((x :: r).getD i .none) ((x :: r).getD j .none)) r.length]? = some (r.foldl (fun b y => if lt y b then y else b) x) := by
          rw [← b2, List.getD_eq_getElem?_getD, List.getElem?_eq_getElem (Nat.lt_succ_of_le b1)]
          rfl
        exact hq H _ _ (fun _ _ => rfl) (.zero (rs.get hv hp)) fun _ z => z.elim
  · cases e
theorem p1_minD : P1 K 0 (fun v H Q => rBestD K PySem.W.dataLt [v] H Q) fun v => blt .minD [v] := by
  intro F H x v p Q hF hx e hq
  exact p1_bestD (lt := vlt) (fun v w h _ a b => vlt_dat v w h a b) F H x v p Q hF hx (by cases x <;> exact e) hq
theorem p1_maxD : P1 K 0 (fun v H Q => rBestD K (fun a b => PySem.W.dataLt b a) [v] H Q) fun v => blt .maxD [v] := by
  intro F H x v p Q hF hx e hq
  exact p1_bestD (lt := fun a b => vlt b a) (fun v w _ h a b => vlt_dat w v h b a) F H x v p Q hF hx (by cases x <;> exact e) hq
theorem je_minD {e : Expr} {t : MP.E} {p pos : Pos} (hb : Bn C "min" (.builtin "min")) (hs : NoStar e) (ha : JB C Γ b e t) : JE C Γ b 0 (.Call (.Name "min" p) [e] [] pos) (.blt .minD (.cons t .nil)) :=
  je_call1B (r := fun X => rBestD X.K PySem.W.dataLt) hb (fun cx => cr_minD cx.calm cx.u64) (fun X => p1_minD) (fun v => nox_blt _ _) (by intro h; cases h) hs ha
theorem je_maxD {e : Expr} {t : MP.E} {p pos : Pos} (hb : Bn C "max" (.builtin "max")) (hs : NoStar e) (ha : JB C Γ b e t) : JE C Γ b 0 (.Call (.Name "max" p) [e] [] pos) (.blt .maxD (.cons t .nil)) :=
  je_call1B (r := fun X => rBestD X.K fun a b => PySem.W.dataLt b a) hb (fun cx => cr_maxD cx.calm cx.u64) (fun X => p1_maxD) (fun v => nox_blt _ _) (by intro h; cases h) hs ha
/-- name = e, where the scope says that nothing is swapped -/
theorem js_setS {i : Nat} {x : PySem.Str} {e : Expr} {t : MP.E} {p' pos : Pos} (hN : C.N[i]? = some x) (hx : StOk C x = true) (hk : (Γ.set i k).getD i 0 = k) (hio : C.io.all (fun q => q.1 != i) = true) (h : JE C Γ b k e t)
    (hs : ∀ env : PySem.Env, env.scope = C.sc → swapsWith e (some (.Name x p')) pos.line env = pure false) : JS C Γ (.Assign [.Name x p'] e pos) (.set i t) (Γ.set i k) := by
  intro n R E X cx
  refine (ps_set (by rw [cx.names]; exact cx.nd) (by rw [cx.names]; exact hN) (StOk.loc hx cx).1 (h cx) (hs X.env cx.scope) (StOk.loc hx cx).2).imp fun D σ H q => ?_
  refine tE_S (f := fun x => .ok (.next, put x.2 i x.1)) (Γ' := Γ.set i k) (C := C) (D := D) q fun F fp ρ F1 fp1 H1 o p fr st st1 ex1 ow hf q => ?_
  exact q F1 _ _ H1 (st1.set (by rw [hk]; exact ow) fun a z => (hf a z).2) (ext_set ex1 fun a z => (hf a z).1) fun q hq => noio hio hq
/-! list(a text) -/
def rListTxt : List V → Hp → VK → Prop := fun xs H Q => ∃ s : List Nat, xs = [.str (toStr s)] ∧ s.length ≤ sizeLine ∧ ∀ l, H l = none → Q (.ref l) (upd H l (.lst (s.map fun c => V.str (toStr [c]))))
theorem call_listTxt {X : Cx} (hc : X.calm = true) : CallR X (.type "list") rListTxt := by
  intro pins s σ H xs us Q I r h
  obtain ⟨z, rfl, hz, q⟩ := h
  obtain ⟨u, rfl, t, rfl⟩ := vals1 r
  refine PySem.call_list_str (I.ok.hd hc) (toStr z) t (hn := by rw [show (toStr z).cps.size = z.length from toStr_len z]; exact hz) fun h' tk acc' c' hk hS' hacc => ?_
  refine ⟨.ref s.heap.objs.size, upd H s.heap.objs.size (.lst (z.map fun c => V.str (toStr [c]))), I.laid (t' := tk) hk (Nat.le_refl _) (show ObjOk X.prog X.w _ _ _ (.lst (z.map fun c => V.str (toStr [c]))) from ⟨by rw [List.length_map]; exact hz, acc'.toList, c', ?_, by simpa using hS'⟩), rfl, q _ (I.hok.fresh (Nat.le_refl _))⟩
  have hsz : acc'.size = z.length := by rw [hacc.1]; exact toStr_len z
  refine vals_of_at (by rw [List.length_map]; exact (hsz.symm.trans (by simp))) fun j x w h1 h2 => ?_
  obtain ⟨c, u, e1, e2⟩ := hacc.2 j w (by rw [← Array.getElem?_toList]; exact h2)
  have e3 : z[j]? = some c := by
    have : (toStr z).cps.toList[j]? = some c := by rw [Array.getElem?_toList]; exact e1
    rwa [tl_toStr] at this
  rw [List.getElem?_map, e3] at h1
  cases h1
  exact ⟨u, e2⟩
theorem p1_listTxt : P1 K 1 (fun v H Q => rListTxt [v] H Q) fun v => blt .listTxt [v] := by
  intro F H x v p Q hF hx e hq
  cases x <;> cases e
  rename_i s
  obtain ⟨rfl, c⟩ := B1.of_str hx
  refine ⟨s, rfl, Nat.le_trans (cpOk_len c) big_line, ?_⟩
  refine q_newL (vs := s.map fun c => Val.str [c]) ?_ hF hq
  have key : ∀ t : List Nat, (∀ c ∈ t, cpOk [c] = true) → FRs K F H (t.map fun c => Val.str [c]) (t.map fun c => V.str (toStr [c])) := fun t => by
    induction t with
    | nil => intro _; exact .nil
    | cons a t ih => intro h; exact .cons (.str (h a List.mem_cons_self)) (ih fun c hc => h c (List.mem_cons_of_mem _ hc))
  refine key s fun a ha => ?_
  obtain ⟨i, hi, rfl⟩ := List.getElem_of_mem ha
  exact cpOk_at c (List.getElem?_eq_getElem hi)
theorem je_listTxt {e : Expr} {t : MP.E} {p pos : Pos} (hb : Bn C "list" (.type "list")) (hs : NoStar e) (ha : JB C Γ b e t) : JE C Γ b 1 (.Call (.Name "list" p) [e] [] pos) (.blt .listTxt (.cons t .nil)) :=
  je_call1T (r := fun X xs H Q => rListTxt xs H Q) hb (fun cx => call_listTxt cx.calm) (fun X => p1_listTxt) (fun v => nox_blt _ _) (by intro h; cases h) hs ha
end
end MP
/-! MiniPy against the hand layer: what the printed derivations lean on -/
namespace MP
open L2 PySem.Spec PySem PyProof.Rows

def callC (Γ : List Nat) (ss : List (Option Nat)) (io : List (Nat × Nat)) (fi : FInfo) : Bool :=
  decide (ss.length = fi.np) && io.all (fun q => decide (ss[q.1]? = some (some q.2))) && (List.range ss.length).all (fun j => match ss[j]? with
    | some (some i) => decide ((j, i) ∈ io)
    | _ => true) && decide ((io.map (·.1)).Nodup) && decide ((io.map (·.2)).Nodup) && decide (fi.io.map (·.1) = io.map (·.1)) && (List.range ss.length).all (fun j => decide ((modes fi.np fi.io).getD j 0 = match ss[j]? with
    | some (some i) => Γ.getD i 0
    | _ => 0))
theorem callOk_by {Γ : List Nat} {ss : List (Option Nat)} {io : List (Nat × Nat)} {fi : FInfo} (h : callC Γ ss io fi = true) : CallOk Γ ss io fi := by
  unfold callC at h
  simp only [Bool.and_eq_true, decide_eq_true_eq, List.all_eq_true] at h
  obtain ⟨⟨⟨⟨⟨⟨h1, h2⟩, h3⟩, h4⟩, h5⟩, h6⟩, h7⟩ := h
  refine ⟨h1, h2, fun j i e => ?_, h4, h5, h6, fun j => ?_⟩
  · have hj : j < ss.length := (List.getElem?_eq_some_iff.mp e).1
    have := h3 j (List.mem_range.mpr hj)
    rw [e] at this
    exact of_decide_eq_true this
  · by_cases hj : j < ss.length
    · exact h7 j (List.mem_range.mpr hj)
    · rw [List.getElem?_eq_none (by omega), List.getD_eq_getElem?_getD, List.getElem?_eq_none (by rw [modes_len]; omega)]
      rfl
def visC (sc : Scope) (x : PySem.Str) : Bool := match sc.names.lookup x with
  | some .local => true
  | some .cell => true
  | some .free => true
  | _ => false
theorem vis_by {sc : Scope} {x : PySem.Str} (h : visC sc x = true) : Vis sc x := by
  unfold visC at h
  unfold Vis
  split at h
  · exact .inl (by assumption)
  · exact .inr (.inl (by assumption))
  · exact .inr (.inr (by assumption))
  · cases h
mutual
def slots : MP.T → List Nat
  | .var i => [i]
  | .tup ts => slotss ts
def slotss : List MP.T → List Nat
  | [] => []
  | t :: ts => slots t ++ slotss ts
end
mutual
theorem has_slots : ∀ (t : MP.T) (j : Nat), t.has j = true → j ∈ slots t
  | .var i, j, h => by
    simp only [T.has, beq_iff_eq] at h
    simp [slots, h]
  | .tup ts, j, h => by
    rw [slots]
    exact has_slotss ts j (by simpa [T.has] using h)
theorem has_slotss : ∀ (ts : List MP.T) (j : Nat), T.hasAny ts j = true → j ∈ slotss ts
  | [], j, h => by simp [T.hasAny] at h
  | t :: ts, j, h => by
    simp only [T.hasAny, Bool.or_eq_true] at h
    rw [slotss, List.mem_append]
    rcases h with h | h
    · exact .inl (has_slots t j h)
    · exact .inr (has_slotss ts j h)
end
theorem has_by {t : MP.T} {is : List Nat} (h : (slots t).all (fun i => is.contains i) = true) : ∀ j, t.has j = true → j ∈ is := fun j hj => by
  have := List.all_eq_true.mp h j (has_slots t j hj)
  exact List.contains_iff_mem.mp this
def defC (S : Stat) (f : Nat) (fi : FInfo) (d : MP.Def) (N : List PySem.Str) : Bool :=
  decide (d.np = fi.np) && decide (d.ns = N.length) && decide (d.io = fi.io.map (·.1)) && decide (fi.np ≤ N.length) && fi.io.all (fun q => decide (q.1 < fi.np)) && fi.io.all (fun q => decide ((modes fi.np fi.io).getD q.1 0 = q.2)) && (List.range fi.np).all (fun j => fi.io.any (fun q => q.1 == j) || decide ((modes fi.np fi.io).getD j 0 = 0)) && decide ((fi.io.map (·.1)).Nodup)
theorem defOk_by {S : Stat} {f : Nat} {fi : FInfo} {d : MP.Def} {N : List PySem.Str} (hd : S.prog.defs[f]? = some d) (h : defC S f fi d N = true) : DefOk S f fi d N := by
  unfold defC at h
  simp only [Bool.and_eq_true, decide_eq_true_eq, List.all_eq_true, Bool.or_eq_true] at h
  obtain ⟨⟨⟨⟨⟨⟨⟨h1, h2⟩, h3⟩, h4⟩, h5⟩, h6⟩, h7⟩, h8⟩ := h
  refine ⟨hd, h1, h2, h3, h4, h5, h6, fun j hj => ?_, h8⟩
  by_cases hl : j < fi.np
  · rcases h7 j (List.mem_range.mpr hl) with h | h
    · obtain ⟨q, hq, e⟩ := List.any_eq_true.mp h
      exact absurd (eq_of_beq e) (hj q hq)
    · exact h
  · rw [List.getD_eq_getElem?_getD, List.getElem?_eq_none (by rw [modes_len]; omega)]
    rfl
/-! ### names of built-ins -/
section
variable {C : Ct}
abbrev GlN (C : Ct) (x : PySem.Str) : Prop := C.sc.names.lookup x = some .globalImplicit
abbrev FrN (C : Ct) (x : PySem.Str) : Prop := x ∈ C.S.free
theorem bn_len (g : GlN C "len") (m : FrN C "len") : Bn C "len" (.builtin "len") := ⟨g, m, by first | exact PySem.boot_len | exact PyProof.Rows.boot_len | exact L2.boot_len | rfl, by decide, by decide⟩
theorem bn_abs (g : GlN C "abs") (m : FrN C "abs") : Bn C "abs" (.builtin "abs") := ⟨g, m, by first | exact PySem.boot_abs | exact PyProof.Rows.boot_abs | exact L2.boot_abs | rfl, by decide, by decide⟩
theorem bn_int (g : GlN C "int") (m : FrN C "int") : Bn C "int" (.type "int") := ⟨g, m, by first | exact PySem.boot_int | exact PyProof.Rows.boot_int | exact L2.boot_int | rfl, by decide, by decide⟩
theorem bn_str (g : GlN C "str") (m : FrN C "str") : Bn C "str" (.type "str") := ⟨g, m, by first | exact PySem.boot_str | exact PyProof.Rows.boot_str | exact L2.boot_str | rfl, by decide, by decide⟩
theorem bn_bool (g : GlN C "bool") (m : FrN C "bool") : Bn C "bool" (.type "bool") := ⟨g, m, by first | exact PySem.boot_bool | exact PyProof.Rows.boot_bool | exact L2.boot_bool | rfl, by decide, by decide⟩
theorem bn_list (g : GlN C "list") (m : FrN C "list") : Bn C "list" (.type "list") := ⟨g, m, by first | exact PySem.boot_list | exact PyProof.Rows.boot_list | exact L2.boot_list | rfl, by decide, by decide⟩
theorem bn_tuple (g : GlN C "tuple") (m : FrN C "tuple") : Bn C "tuple" (.type "tuple") := ⟨g, m, by first | exact PySem.boot_tuple | exact PyProof.Rows.boot_tuple | exact L2.boot_tuple | rfl, by decide, by decide⟩
theorem bn_dict (g : GlN C "dict") (m : FrN C "dict") : Bn C "dict" (.type "dict") := ⟨g, m, by first | exact PySem.boot_dict | exact PyProof.Rows.boot_dict | exact L2.boot_dict | rfl, by decide, by decide⟩
theorem bn_set (g : GlN C "set") (m : FrN C "set") : Bn C "set" (.type "set") := ⟨g, m, by first | exact PySem.boot_set | exact PyProof.Rows.boot_set | exact L2.boot_set | rfl, by decide, by decide⟩
theorem bn_range (g : GlN C "range") (m : FrN C "range") : Bn C "range" (.type "range") := ⟨g, m, by first | exact PySem.boot_range | exact PyProof.Rows.boot_range | exact L2.boot_range | rfl, by decide, by decide⟩
theorem bn_enumerate (g : GlN C "enumerate") (m : FrN C "enumerate") : Bn C "enumerate" (.type "enumerate") := ⟨g, m, by first | exact PySem.boot_enumerate | exact PyProof.Rows.boot_enumerate | exact L2.boot_enumerate | rfl, by decide, by decide⟩
theorem bn_zip (g : GlN C "zip") (m : FrN C "zip") : Bn C "zip" (.type "zip") := ⟨g, m, by first | exact PySem.boot_zip | exact PyProof.Rows.boot_zip | exact L2.boot_zip | rfl, by decide, by decide⟩
theorem bn_sum (g : GlN C "sum") (m : FrN C "sum") : Bn C "sum" (.builtin "sum") := ⟨g, m, by first | exact PySem.boot_sum | exact PyProof.Rows.boot_sum | exact L2.boot_sum | rfl, by decide, by decide⟩
theorem bn_min (g : GlN C "min") (m : FrN C "min") : Bn C "min" (.builtin "min") := ⟨g, m, by first | exact PySem.boot_min | exact PyProof.Rows.boot_min | exact L2.boot_min | rfl, by decide, by decide⟩
theorem bn_max (g : GlN C "max") (m : FrN C "max") : Bn C "max" (.builtin "max") := ⟨g, m, by first | exact PySem.boot_max | exact PyProof.Rows.boot_max | exact L2.boot_max | rfl, by decide, by decide⟩
theorem bn_any (g : GlN C "any") (m : FrN C "any") : Bn C "any" (.builtin "any") := ⟨g, m, by first | exact PySem.boot_any | exact PyProof.Rows.boot_any | exact L2.boot_any | rfl, by decide, by decide⟩
theorem bn_all (g : GlN C "all") (m : FrN C "all") : Bn C "all" (.builtin "all") := ⟨g, m, by first | exact PySem.boot_all | exact PyProof.Rows.boot_all | exact L2.boot_all | rfl, by decide, by decide⟩
theorem bn_sorted (g : GlN C "sorted") (m : FrN C "sorted") : Bn C "sorted" (.builtin "sorted") := ⟨g, m, by first | exact PySem.boot_sorted | exact PyProof.Rows.boot_sorted | exact L2.boot_sorted | rfl, by decide, by decide⟩
theorem bn_repr (g : GlN C "repr") (m : FrN C "repr") : Bn C "repr" (.builtin "repr") := ⟨g, m, by first | exact PySem.boot_repr | exact PyProof.Rows.boot_repr | exact L2.boot_repr | rfl, by decide, by decide⟩
theorem bn_isinstance (g : GlN C "isinstance") (m : FrN C "isinstance") : Bn C "isinstance" (.builtin "isinstance") := ⟨g, m, by first | exact PySem.boot_isinstance | exact PyProof.Rows.boot_isinstance | exact L2.boot_isinstance | rfl, by decide, by decide⟩
end
end MP
/-! MiniPy: evaluating terms (plain Lean) -/
namespace ME
open MP

theorem ok_bind {α β : Type} (a : α) (f : α → Res β) : (Res.ok a).bind f = f a := Eq.trans rfl rfl
theorem get_z (v : Val) (ρ : Env) : get (some v :: ρ) 0 = .ok v := Eq.trans rfl rfl
theorem get_s (x : Option Val) (ρ : Env) (i : Nat) : get (x :: ρ) (i + 1) = get ρ i := Eq.trans rfl rfl
theorem put_z (x : Option Val) (ρ : Env) (v : Val) : put (x :: ρ) 0 v = some v :: ρ := Eq.trans rfl rfl
theorem put_s (x : Option Val) (ρ : Env) (i : Nat) (v : Val) : put (x :: ρ) (i + 1) v = x :: put ρ i v := Eq.trans rfl rfl

/-- a result that is there -/
def Ok {α : Type} (r : Res α) (Q : α → Prop) : Prop := ∃ a, r = .ok a ∧ Q a
theorem Ok.mk {α : Type} {a : α} {Q : α → Prop} (h : Q a) : Ok (.ok a) Q := ⟨a, rfl, h⟩
theorem Ok.bind {α β : Type} {r : Res α} {f : α → Res β} {Q : β → Prop} (h : Ok r fun a => Ok (f a) Q) : Ok (r.bind f) Q := by
  obtain ⟨a, rfl, h⟩ := h
  exact h
theorem Ok.mono {α : Type} {r : Res α} {Q Q' : α → Prop} (h : Ok r Q) (i : ∀ a, Q a → Q' a) : Ok r Q' := by
  obtain ⟨a, e, h⟩ := h
  exact ⟨a, e, i a h⟩

/-- a def's call -/
def doneR (io : List Nat) : Flow × Env → Res (Val × List Val) := fun o => match o.1 with
  | .next => (outsOf o.2 io).bind fun os => .ok (.none, os)
  | .ret v => (outsOf o.2 io).bind fun os => .ok (v, os)
  | .brk => .stuck
theorem callN_eq {P : Prog} {n f : Nat} {vs : List Val} {d : Def} {ρ : Env} (hd : P.defs[f]? = some d) (hl : vs.length = d.np) (hρ : vs.map some ++ List.replicate (d.ns - d.np) Option.none = ρ) :
    callN P (n + 1) f vs = (evSs ⟨callN P n, P.con, P.rp, P.wh⟩ d.body ρ).bind (doneR d.io) := by
  subst hρ
  show (match P.defs[f]? with
    | some d => runDef ⟨callN P n, P.con, P.rp, P.wh⟩ d vs
    | Option.none => .stuck) = _
  rw [hd]
  show runDef _ d vs = _
  unfold runDef
  rw [if_pos hl]
  rfl

/-! ### loops -/
theorem forGo_inv {α : Type} {step : Val → Env → Res (Flow × Env)} (f : α → Val) (I : List α → Env → Prop) : ∀ (l pre : List α) (ρ : Env), I pre ρ →
    (∀ pre' x post ρ, pre ++ l = pre' ++ x :: post → I pre' ρ → ∃ ρ', step (f x) ρ = .ok (.next, ρ') ∧ I (pre' ++ [x]) ρ') → ∃ ρ', forGo step (l.map f) ρ = .ok (.next, ρ') ∧ I (pre ++ l) ρ'
  | [], pre, ρ, h, _ => ⟨ρ, rfl, by rw [List.append_nil]; exact h⟩
  | x :: l, pre, ρ, h, hs => by
    obtain ⟨ρ1, e1, h1⟩ := hs pre x l ρ rfl h
    obtain ⟨ρ2, e2, h2⟩ := forGo_inv f I l (pre ++ [x]) ρ1 h1 fun pre' y post ρ q => hs pre' y post ρ (by rw [← q, List.append_assoc]; rfl)
    refine ⟨ρ2, ?_, by rw [List.append_assoc] at h2; exact h2⟩
    show (step (f x) ρ).bind _ = _
    rw [e1]
    exact e2
/-- over a list: the invariant by what was done already -/
theorem for_list {α : Type} {step : Val → Env → Res (Flow × Env)} (f : α → Val) (I : List α → Env → Prop) {l : List α} {ρ : Env} (h0 : I [] ρ)
    (hs : ∀ pre x post ρ, l = pre ++ x :: post → I pre ρ → ∃ ρ', step (f x) ρ = .ok (.next, ρ') ∧ I (pre ++ [x]) ρ') : ∃ ρ', forGo step (l.map f) ρ = .ok (.next, ρ') ∧ I l ρ' := by
  obtain ⟨ρ', e, h⟩ := forGo_inv f I l [] ρ h0 fun pre' x post ρ q => hs pre' x post ρ (by simpa using q)
  exact ⟨ρ', e, by simpa using h⟩
theorem for_range {step : Val → Env → Res (Flow × Env)} {a : Int} {n : Nat} (I : Nat → Env → Prop) {ρ : Env} (h0 : I 0 ρ)
    (hs : ∀ i ρ, i < n → I i ρ → ∃ ρ', step (.int (a + i)) ρ = .ok (.next, ρ') ∧ I (i + 1) ρ') : ∃ ρ', forGo step (rngL a n) ρ = .ok (.next, ρ') ∧ I n ρ' := by
  obtain ⟨ρ', e, h⟩ := for_list (step := step) (fun (i : Nat) => Val.int (a + i)) (fun pre ρ => I pre.length ρ) (l := List.range n) (ρ := ρ) h0 fun pre x post ρ q h => by
    have hl := congrArg List.length q
    rw [List.length_range, List.length_append, List.length_cons] at hl
    have hx : x = pre.length := by
      have e1 : (List.range n)[pre.length]? = some x := by rw [q]; simp
      rw [List.getElem?_range (by omega)] at e1
      cases e1; rfl
    obtain ⟨ρ', e, r⟩ := hs pre.length ρ (by omega) h
    exact ⟨ρ', by rw [hx]; exact e, by rw [List.length_append]; exact r⟩
  exact ⟨ρ', e, by rw [List.length_range] at h; exact h⟩

/-- a for over these items -/
def loopR (G : Gl) (t : T) (b : Ss) (xs : List Val) (ρ : Env) : Res (Flow × Env) := forGo (fun x ρ => (orStuck (bindT t x ρ)).bind fun ρ => evSs G b ρ) xs ρ
theorem loop_list {α : Type} {G : Gl} {t : T} {b : Ss} (f : α → Val) (I : List α → Env → Prop) {l : List α} {ρ : Env} (h0 : I [] ρ)
    (hs : ∀ pre x post ρ, l = pre ++ x :: post → I pre ρ → ∃ ρ', (orStuck (bindT t (f x) ρ)).bind (fun ρ => evSs G b ρ) = .ok (.next, ρ') ∧ I (pre ++ [x]) ρ') : ∃ ρ', loopR G t b (l.map f) ρ = .ok (.next, ρ') ∧ I l ρ' :=
  for_list f I h0 hs
theorem loop_range {G : Gl} {t : T} {b : Ss} {a : Int} {n : Nat} (I : Nat → Env → Prop) {ρ : Env} (h0 : I 0 ρ)
    (hs : ∀ i ρ, i < n → I i ρ → ∃ ρ', (orStuck (bindT t (.int (a + i)) ρ)).bind (fun ρ => evSs G b ρ) = .ok (.next, ρ') ∧ I (i + 1) ρ') : ∃ ρ', loopR G t b (rngL a n) ρ = .ok (.next, ρ') ∧ I n ρ' :=
  for_range I h0 hs

/-! ### comprehensions -/
def lcStep (G : Gl) (elt : E) (t : T) (c : E) (own : List Nat) : Val → List Val → Env → Res (List Val × Env) := fun x acc ρ => (orStuck (bindT t x (wipe ρ own))).bind fun ρ => (evE G c ρ).bind fun (b, ρ) => (truthy b).bind fun b =>
        if b then (evE G elt ρ).bind fun (v, ρ) => snoc acc v ρ else .ok (acc, ρ)
theorem evE_lc (G : Gl) (elt : E) (t : T) (it : It) (c : E) (own : List Nat) (ρ : Env) : evE G (.lc elt t it c own) ρ = (evI G it ρ).bind fun o =>
      ((lcGo (lcStep G elt t c own) o.1 [] o.2).noexc).bind fun u => .ok (.lst u.1, back o.2 u.2 own) := rfl
theorem snoc_ok {acc : List Val} {v : Val} {ρ : Env} (h : acc.length < big) : snoc acc v ρ = .ok (acc ++ [v], ρ) := if_pos h
theorem lcGo_pure {G : Gl} {elt : E} {t : T} {c : E} {own : List Nat} {ρ : Env} {α : Type} (f : α → Val) (p : α → Bool) (g : α → Val) : ∀ (l : List α) (acc : List Val) (ρ0 : Env), acc.length + l.length ≤ big →
    wipe ρ0 own = wipe ρ own → back ρ ρ0 own = ρ →
    (∀ x ∈ l, ∃ ρx, bindT t (f x) (wipe ρ own) = some ρx ∧ wipe ρx own = wipe ρ own ∧ back ρ ρx own = ρ ∧ evE G c ρx = .ok (.bool (p x), ρx) ∧ (p x = true → evE G elt ρx = .ok (g x, ρx))) →
    ∃ ρ', lcGo (lcStep G elt t c own) (l.map f) acc ρ0 = .ok (acc ++ (l.filter p).map g, ρ') ∧ back ρ ρ' own = ρ
  | [], acc, ρ0, _, _, hb, _ => ⟨ρ0, by simp [lcGo], hb⟩
  | x :: l, acc, ρ0, hl, hw, hb, h => by
    obtain ⟨ρx, e1, w1, b1, e2, e3⟩ := h x List.mem_cons_self
    rw [List.length_cons] at hl
    have st : lcStep G elt t c own (f x) acc ρ0 = .ok (if p x then acc ++ [g x] else acc, ρx) := by
      unfold lcStep
      rw [hw, e1]
      show (evE G c ρx).bind _ = _
      rw [e2]
      cases hp : p x with
      | false => rfl
      | true =>
        show (evE G elt ρx).bind _ = _
        rw [e3 hp]
        exact snoc_ok (by omega)
    obtain ⟨ρ', e, r⟩ := lcGo_pure f p g l (if p x then acc ++ [g x] else acc) ρx (by split <;> (try simp only [List.length_append, List.length_cons, List.length_nil]) <;> omega) w1 b1 fun y hy => h y (List.mem_cons_of_mem _ hy)
    refine ⟨ρ', ?_, r⟩
    show (lcStep G elt t c own (f x) acc ρ0).bind _ = _
    rw [st]
    show lcGo (lcStep G elt t c own) (l.map f) (if p x then acc ++ [g x] else acc) ρx = _
    rw [e]
    cases hp : p x with
    | false => simp [hp]
    | true => simp [hp]
/-- a list made by a comprehension that changes nothing -/
theorem lc_ok {G : Gl} {elt : E} {t : T} {it : It} {c : E} {own : List Nat} {ρ ρ1 : Env} {α : Type} {f : α → Val} {l : List α} (p : α → Bool) (g : α → Val) (hi : evI G it ρ = .ok (l.map f, ρ1)) (hl : l.length ≤ big) (hb : back ρ1 ρ1 own = ρ1)
    (h : ∀ x ∈ l, ∃ ρx, bindT t (f x) (wipe ρ1 own) = some ρx ∧ wipe ρx own = wipe ρ1 own ∧ back ρ1 ρx own = ρ1 ∧ evE G c ρx = .ok (.bool (p x), ρx) ∧ (p x = true → evE G elt ρx = .ok (g x, ρx))) :
    evE G (.lc elt t it c own) ρ = .ok (.lst ((l.filter p).map g), ρ1) := by
  rw [evE_lc, hi]
  obtain ⟨ρ', e, r⟩ := lcGo_pure (G := G) (elt := elt) (t := t) (c := c) (own := own) (ρ := ρ1) f p g l [] ρ1 (by simpa using hl) rfl hb h
  show ((lcGo _ (l.map f) [] ρ1).noexc).bind _ = _
  rw [e]
  show Res.ok (Val.lst ([] ++ (l.filter p).map g), back ρ1 ρ' own) = _
  rw [r, List.nil_append]
/-- without a condition -/
theorem lc_all {G : Gl} {elt : E} {t : T} {it : It} {own : List Nat} {ρ ρ1 : Env} {α : Type} {f : α → Val} {l : List α} (g : α → Val) (hi : evI G it ρ = .ok (l.map f, ρ1)) (hl : l.length ≤ big) (hb : back ρ1 ρ1 own = ρ1)
    (h : ∀ x ∈ l, ∃ ρx, bindT t (f x) (wipe ρ1 own) = some ρx ∧ wipe ρx own = wipe ρ1 own ∧ back ρ1 ρx own = ρ1 ∧ evE G elt ρx = .ok (g x, ρx)) :
    evE G (.lc elt t it (.k (.bool true)) own) ρ = .ok (.lst (l.map g), ρ1) := by
  rw [lc_ok (fun _ => true) g hi hl hb fun x hx => by
    obtain ⟨ρx, a, b, c, d⟩ := h x hx
    exact ⟨ρx, a, b, c, rfl, fun _ => d⟩]
  rw [List.filter_eq_self.mpr fun _ _ => rfl]
/-- a comprehension that changes things: J of the surroundings, Pv of what it gives -/
theorem lcGo_eff {G : Gl} {elt : E} {t : T} {own : List Nat} (J : Env → Prop) (Pv : Val → Prop) : ∀ (l acc : List Val) (ρ0 : Env), acc.length + l.length ≤ big → J ρ0 →
    (∀ x ∈ l, ∀ ρ, J ρ → ∃ ρx v ρ', bindT t x (wipe ρ own) = some ρx ∧ evE G elt ρx = .ok (v, ρ') ∧ Pv v ∧ J ρ') →
    ∃ vs ρ', lcGo (lcStep G elt t (.k (.bool true)) own) l acc ρ0 = .ok (acc ++ vs, ρ') ∧ J ρ' ∧ vs.length = l.length ∧ ∀ v ∈ vs, Pv v
  | [], acc, ρ0, _, j, _ => ⟨[], ρ0, by simp [lcGo], j, rfl, fun _ z => by cases z⟩
  | x :: l, acc, ρ0, hl, j, h => by
    obtain ⟨ρx, v, ρ1, e1, e2, pv, j1⟩ := h x List.mem_cons_self ρ0 j
    rw [List.length_cons] at hl
    have st : lcStep G elt t (.k (.bool true)) own x acc ρ0 = .ok (acc ++ [v], ρ1) := by
      unfold lcStep
      rw [e1]
      show (evE G elt ρx).bind _ = _
      rw [e2]
      exact snoc_ok (by omega)
    obtain ⟨vs, ρ', e, j2, l2, p2⟩ := lcGo_eff J Pv l (acc ++ [v]) ρ1 (by simp; omega) j1 fun y hy => h y (List.mem_cons_of_mem _ hy)
    refine ⟨v :: vs, ρ', ?_, j2, by simp [l2], fun u hu => ?_⟩
    · show (lcStep G elt t (.k (.bool true)) own x acc ρ0).bind _ = _
      rw [st]
      show lcGo _ l (acc ++ [v]) ρ1 = _
      rw [e]; simp
    · rcases List.mem_cons.mp hu with rfl | hu
      · exact pv
      · exact p2 u hu
theorem lc_eff {G : Gl} {elt : E} {t : T} {it : It} {own : List Nat} {ρ ρ1 : Env} {l : List Val} (J : Env → Prop) (Pv : Val → Prop) (hi : evI G it ρ = .ok (l, ρ1)) (hl : l.length ≤ big) (j : J ρ1)
    (h : ∀ x ∈ l, ∀ ρ, J ρ → ∃ ρx v ρ', bindT t x (wipe ρ own) = some ρx ∧ evE G elt ρx = .ok (v, ρ') ∧ Pv v ∧ J ρ') :
    ∃ vs ρ', evE G (.lc elt t it (.k (.bool true)) own) ρ = .ok (.lst vs, back ρ1 ρ' own) ∧ J ρ' ∧ vs.length = l.length ∧ ∀ v ∈ vs, Pv v := by
  obtain ⟨vs, ρ', e, j2, l2, p2⟩ := lcGo_eff (G := G) (elt := elt) (t := t) (own := own) J Pv l [] ρ1 (by simpa using hl) j h
  refine ⟨vs, ρ', ?_, j2, l2, p2⟩
  rw [evE_lc, hi]
  show ((lcGo _ l [] ρ1).noexc).bind _ = _
  rw [e]
  rfl
/-! dict comprehensions that change nothing -/
def dcStep (G : Gl) (ke ve : E) (t : T) (c : E) (own : List Nat) : Val → List (Val × Val) → Env → Res (List (Val × Val) × Env) := fun x d ρ => (orStuck (bindT t x (wipe ρ own))).bind fun ρ => (evE G c ρ).bind fun (b, ρ) => (truthy b).bind fun b =>
        if b then (evE G ke ρ).bind fun (k, ρ) => (evE G ve ρ).bind fun (v, ρ) => dsnoc d k v ρ else .ok (d, ρ)
theorem evE_dc (G : Gl) (ke ve : E) (t : T) (it : It) (c : E) (own : List Nat) (ρ : Env) : evE G (.dc ke ve t it c own) ρ = (evI G it ρ).bind fun o =>
      ((dcGo (dcStep G ke ve t c own) o.1 [] o.2).noexc).bind fun u => .ok (.dict u.1, back o.2 u.2 own) := rfl
theorem dput_length (kvs : List (Val × Val)) (k v : Val) : (dput kvs k v).length ≤ kvs.length + 1 := by
  unfold dput
  split <;> simp
theorem dcGo_pure {G : Gl} {ke ve : E} {t : T} {c : E} {own : List Nat} {ρ : Env} {α : Type} (f : α → Val) (p : α → Bool) (gk gv : α → Val) : ∀ (l : List α) (d : List (Val × Val)) (ρ0 : Env), d.length + l.length ≤ big →
    wipe ρ0 own = wipe ρ own → back ρ ρ0 own = ρ →
    (∀ x ∈ l, ∃ ρx, bindT t (f x) (wipe ρ own) = some ρx ∧ wipe ρx own = wipe ρ own ∧ back ρ ρx own = ρ ∧ evE G c ρx = .ok (.bool (p x), ρx) ∧ (p x = true → evE G ke ρx = .ok (gk x, ρx) ∧ evE G ve ρx = .ok (gv x, ρx) ∧ keyA (gk x) = true)) →
    ∃ ρ', dcGo (dcStep G ke ve t c own) (l.map f) d ρ0 = .ok ((l.filter p).foldl (fun d x => dput d (gk x) (gv x)) d, ρ') ∧ back ρ ρ' own = ρ
  | [], d, ρ0, _, _, hb, _ => ⟨ρ0, by simp [dcGo], hb⟩
  | x :: l, d, ρ0, hl, hw, hb, h => by
    obtain ⟨ρx, e1, w1, b1, e2, e3⟩ := h x List.mem_cons_self
    rw [List.length_cons] at hl
    have hdl := dput_length d (gk x) (gv x)
    have st : dcStep G ke ve t c own (f x) d ρ0 = .ok (if p x then dput d (gk x) (gv x) else d, ρx) := by
      unfold dcStep
      rw [hw, e1]
      show (evE G c ρx).bind _ = _
      rw [e2]
      cases hp : p x with
      | false => rfl
      | true =>
        obtain ⟨a1, a2, a3⟩ := e3 hp
        show (evE G ke ρx).bind _ = _
        rw [a1]
        show (evE G ve ρx).bind _ = _
        rw [a2]
        show dsnoc _ _ _ _ = _
        unfold dsnoc
        rw [a3, if_pos (by simp; omega)]
        rfl
    obtain ⟨ρ', e, r⟩ := dcGo_pure f p gk gv l (if p x then dput d (gk x) (gv x) else d) ρx (by split <;> omega) w1 b1 fun y hy => h y (List.mem_cons_of_mem _ hy)
    refine ⟨ρ', ?_, r⟩
    show (dcStep G ke ve t c own (f x) d ρ0).bind _ = _
    rw [st]
    show dcGo (dcStep G ke ve t c own) (l.map f) (if p x then dput d (gk x) (gv x) else d) ρx = _
    rw [e]
    cases hp : p x with
    | false => simp [hp]
    | true => simp [hp]
theorem dc_ok {G : Gl} {ke ve : E} {t : T} {it : It} {c : E} {own : List Nat} {ρ ρ1 : Env} {α : Type} {f : α → Val} {l : List α} (p : α → Bool) (gk gv : α → Val) (hi : evI G it ρ = .ok (l.map f, ρ1)) (hl : l.length ≤ big) (hb : back ρ1 ρ1 own = ρ1)
    (h : ∀ x ∈ l, ∃ ρx, bindT t (f x) (wipe ρ1 own) = some ρx ∧ wipe ρx own = wipe ρ1 own ∧ back ρ1 ρx own = ρ1 ∧ evE G c ρx = .ok (.bool (p x), ρx) ∧ (p x = true → evE G ke ρx = .ok (gk x, ρx) ∧ evE G ve ρx = .ok (gv x, ρx) ∧ keyA (gk x) = true)) :
    evE G (.dc ke ve t it c own) ρ = .ok (.dict ((l.filter p).foldl (fun d x => dput d (gk x) (gv x)) []), ρ1) := by
  rw [evE_dc, hi]
  obtain ⟨ρ', e, r⟩ := dcGo_pure (G := G) (ke := ke) (ve := ve) (t := t) (c := c) (own := own) (ρ := ρ1) f p gk gv l [] ρ1 (by simpa using hl) rfl hb h
  show ((dcGo _ (l.map f) [] ρ1).noexc).bind _ = _
  rw [e]
  show Res.ok (Val.dict _, back ρ1 ρ' own) = _
  rw [r]

/-! ### the terms' equations, all but the comprehensions' -/
section
variable (G : Gl) (ρ : Env)
theorem ev_var (i : Nat) : evE G (.var i) ρ = (get ρ i).bind fun v => .ok (v, ρ) := Eq.trans rfl rfl
theorem ev_k (v : Val) : evE G (.k v) ρ = .ok (v, ρ) := Eq.trans rfl rfl
theorem ev_g (j : Nat) : evE G (.g j) ρ = .ok (G.con j, ρ) := Eq.trans rfl rfl
theorem ev_bin (o : Bin) (a b : E) : evE G (.bin o a b) ρ = (evE G a ρ).bind fun x => (evE G b x.2).bind fun y => (bin o x.1 y.1).bind fun v => .ok (v, y.2) := Eq.trans rfl rfl
theorem ev_cmp (o : Cmp) (a b : E) : evE G (.cmp o a b) ρ = (evE G a ρ).bind fun x => (evE G b x.2).bind fun y => (cmp o x.1 y.1).bind fun v => .ok (v, y.2) := Eq.trans rfl rfl
theorem ev_cmp2 (o o' : Cmp) (a b c : E) : evE G (.cmp2 o o' a b c) ρ = (evE G a ρ).bind fun x => (evE G b x.2).bind fun y => (cmp o x.1 y.1).bind fun v => (truthy v).bind fun t =>
      if t then (evE G c y.2).bind fun z => (cmp o' y.1 z.1).bind fun v => .ok (v, z.2) else .ok (v, y.2) := Eq.trans rfl rfl
theorem ev_neg (a : E) : evE G (.neg a) ρ = (evE G a ρ).bind fun x => match x.1 with
    | .int i => .ok (.int (-i), x.2)
    | _ => .stuck := Eq.trans rfl rfl
theorem ev_not (a : E) : evE G (.not a) ρ = (evE G a ρ).bind fun x => (truthy x.1).bind fun t => .ok (.bool (!t), x.2) := Eq.trans rfl rfl
theorem ev_and (a b : E) : evE G (.and a b) ρ = (evE G a ρ).bind fun x => (truthy x.1).bind fun t => if t then evE G b x.2 else .ok (x.1, x.2) := Eq.trans rfl rfl
theorem ev_or (a b : E) : evE G (.or a b) ρ = (evE G a ρ).bind fun x => (truthy x.1).bind fun t => if t then .ok (x.1, x.2) else evE G b x.2 := Eq.trans rfl rfl
theorem ev_ite (c a b : E) : evE G (.ite c a b) ρ = (evE G c ρ).bind fun x => (truthy x.1).bind fun t => if t then evE G a x.2 else evE G b x.2 := Eq.trans rfl rfl
theorem ev_tup (es : Es) : evE G (.tup es) ρ = (evEs G es ρ).bind fun x => .ok (.tup x.1, x.2) := Eq.trans rfl rfl
theorem ev_lst (es : Es) : evE G (.lst es) ρ = (evEs G es ρ).bind fun x => .ok (.lst x.1, x.2) := Eq.trans rfl rfl
theorem ev_idx (a i : E) : evE G (.idx a i) ρ = (evE G a ρ).bind fun x => (evE G i x.2).bind fun y => (idx x.1 y.1).bind fun v => .ok (v, y.2) := Eq.trans rfl rfl
theorem ev_slc (a lo hi : E) : evE G (.slc a lo hi) ρ = (evE G a ρ).bind fun x => (evE G lo x.2).bind fun l => if okPart l.1 then (evE G hi l.2).bind fun h => (slc x.1 l.1 h.1).bind fun v => .ok (v, h.2) else .stuck := Eq.trans rfl rfl
theorem ev_rev (a : E) : evE G (.rev a) ρ = (evE G a ρ).bind fun x => (rev x.1).bind fun v => .ok (v, x.2) := Eq.trans rfl rfl
theorem ev_call (f : Nat) (es : Es) (io : List (Nat × Nat)) : evE G (.call f es io) ρ = (evEs G es ρ).bind fun x => (fill x.2 x.1 io).bind fun vs => (G.call f vs).bind fun o => if o.2.length = io.length then .ok (o.1, spill x.2 io o.2) else .stuck := Eq.trans rfl rfl
theorem ev_repr (e : E) : evE G (.blt .repr (.cons e .nil)) ρ = (evE G e ρ).bind fun x => if repOk x.1 then .ok (.txt (G.rp x.1), x.2) else .stuck := by
  show ((evE G e ρ).bind fun x => (Res.ok (([] : List Val), x.2)).bind fun y => Res.ok (x.1 :: y.1, y.2)).bind _ = _
  cases evE G e ρ <;> rfl
theorem ev_mth (m : Mth) (o : E) (es : Es) : evE G (.mth m o es) ρ = (evE G o ρ).bind fun x => if isStr x.1 then (evEs G es x.2).bind fun y => (mth m x.1 y.1).bind fun v => .ok (v, y.2) else .stuck := Eq.trans rfl rfl
theorem ev_mtc (m : Mut) (i : Nat) (es : Es) : evE G (.mtc m i es) ρ = (get ρ i).bind fun o0 => if isLst o0 then (evEs G es ρ).bind fun x => (get x.2 i).bind fun o => if isLst o then (mutate m o x.1).bind fun u => .ok (u.2, put x.2 i u.1) else .stuck else .stuck := Eq.trans rfl rfl
theorem ev_mtl (m : Mth) (o : E) (es : Es) : evE G (.mtl m o es) ρ = (evE G o ρ).bind fun x => if isLst x.1 then (evEs G es x.2).bind fun y => (mth m x.1 y.1).bind fun v => .ok (v, y.2) else .stuck := Eq.trans rfl rfl
theorem ev_mtt (m : Mth) (o : E) (es : Es) : evE G (.mtt m o es) ρ = (evE G o ρ).bind fun x => if isTup x.1 then (evEs G es x.2).bind fun y => (mth m x.1 y.1).bind fun v => .ok (v, y.2) else .stuck := Eq.trans rfl rfl
theorem ev_mtq (m : Mth) (o : E) (es : Es) : evE G (.mtq m o es) ρ = (evE G o ρ).bind fun x => if isDct x.1 then (evEs G es x.2).bind fun y => (mth m x.1 y.1).bind fun v => .ok (v, y.2) else .stuck := Eq.trans rfl rfl
theorem ev_mtd (m : Mut) (i : Nat) (es : Es) : evE G (.mtd m i es) ρ = (get ρ i).bind fun o0 => if isDic o0 then (evEs G es ρ).bind fun x => (get x.2 i).bind fun o => if isDic o then (mutate m o x.1).bind fun u => .ok (u.2, put x.2 i u.1) else .stuck else .stuck := Eq.trans rfl rfl
theorem ev_alt (a b : E) : evE G (.alt a b) ρ = (evE G a ρ).alt (evE G b ρ) := Eq.trans rfl rfl
theorem alt_ok {α : Type} (a : α) (r : Res α) : (Res.ok a).alt r = .ok a := Eq.trans rfl rfl
theorem alt_stuck {α : Type} (r : Res α) : (Res.stuck : Res α).alt r = r := Eq.trans rfl rfl
theorem stuck_bind {α β : Type} (f : α → Res β) : (Res.stuck : Res α).bind f = .stuck := Eq.trans rfl rfl
theorem evs_nil : evEs G .nil ρ = .ok ([], ρ) := Eq.trans rfl rfl
theorem evs_cons (e : E) (es : Es) : evEs G (.cons e es) ρ = (evE G e ρ).bind fun x => (evEs G es x.2).bind fun y => .ok (x.1 :: y.1, y.2) := Eq.trans rfl rfl
theorem evi_e (a : E) : evI G (.e a) ρ = (evE G a ρ).bind fun x => (walked x.1).bind fun xs => .ok (xs, x.2) := Eq.trans rfl rfl
theorem evi_rng (es : Es) : evI G (.rng es) ρ = (evEs G es ρ).bind fun x => (range x.1).bind fun xs => .ok (xs, x.2) := Eq.trans rfl rfl
theorem evi_enum (a : E) : evI G (.enum a) ρ = (evE G a ρ).bind fun x => (enumd x.1).bind fun xs => .ok (xs, x.2) := Eq.trans rfl rfl
theorem evi_zip (a b : E) : evI G (.zip a b) ρ = (evE G a ρ).bind fun x => (evE G b x.2).bind fun y => (zipped x.1 y.1).bind fun xs => .ok (xs, y.2) := Eq.trans rfl rfl
theorem es_set (i : Nat) (e : E) : evS G (.set i e) ρ = (evE G e ρ).bind fun x => .ok (.next, put x.2 i x.1) := Eq.trans rfl rfl
theorem es_unp (t : T) (e : E) : evS G (.unp t e) ρ = (evE G e ρ).bind fun x => (orStuck (bindT t x.1 x.2)).bind fun ρ => .ok (.next, ρ) := Eq.trans rfl rfl
theorem es_par (is : List Nat) (es : Es) : evS G (.par is es) ρ = (evEs G es ρ).bind fun x => (puts x.2 is x.1).bind fun ρ => .ok (.next, ρ) := Eq.trans rfl rfl
theorem es_sti (i : Nat) (ix e : E) : evS G (.sti i ix e) ρ = (evE G e ρ).bind fun x => (get x.2 i).bind fun o => (evE G ix x.2).bind fun j => (setItem o j.1 x.1).bind fun o => .ok (.next, put j.2 i o) := Eq.trans rfl rfl
theorem es_aug (i : Nat) (o : Bin) (e : E) : evS G (.aug i o e) ρ = (get ρ i).bind fun x => (evE G e ρ).bind fun y => (augR o x y.1).bind fun v => .ok (.next, put y.2 i v) := Eq.trans rfl rfl
theorem es_ex (e : E) : evS G (.ex e) ρ = (evE G e ρ).bind fun x => .ok (.next, x.2) := Eq.trans rfl rfl
theorem es_ret (e : E) : evS G (.ret e) ρ = (evE G e ρ).bind fun x => .ok (.ret x.1, x.2) := Eq.trans rfl rfl
theorem es_ret0 : evS G .ret0 ρ = .ok (.ret .none, ρ) := Eq.trans rfl rfl
theorem es_pass : evS G .pass ρ = .ok (.next, ρ) := Eq.trans rfl rfl
theorem es_brk : evS G .brk ρ = .ok (.brk, ρ) := Eq.trans rfl rfl
theorem es_ifs (c : E) (a b : Ss) : evS G (.ifs c a b) ρ = (evE G c ρ).bind fun x => (truthy x.1).bind fun t => if t then evSs G a x.2 else evSs G b x.2 := Eq.trans rfl rfl
theorem es_loop (t : T) (it : It) (b : Ss) : evS G (.loop t it b) ρ = (evI G it ρ).bind fun x => loopR G t b x.1 x.2 := Eq.trans rfl rfl
theorem ess_nil : evSs G .nil ρ = .ok (.next, ρ) := Eq.trans rfl rfl
theorem ess_cons (s : S) (ss : Ss) : evSs G (.cons s ss) ρ = (evS G s ρ).bind fun o => match o.1 with
    | .next => evSs G ss o.2
    | .brk => .ok (.brk, o.2)
    | .ret v => .ok (.ret v, o.2) := Eq.trans rfl rfl
theorem orS_some {α : Type} (a : α) : orStuck (some a) = .ok a := Eq.trans rfl rfl
theorem fill_nil (vs : List Val) : fill ρ vs [] = .ok vs := Eq.trans rfl rfl
theorem fill_cons (vs : List Val) (p i : Nat) (r : List (Nat × Nat)) : fill ρ vs ((p, i) :: r) = (get ρ i).bind fun v => fill ρ (vs.set p v) r := Eq.trans rfl rfl
theorem spill_nil (vs : List Val) : spill ρ [] vs = ρ := by cases vs <;> rfl
theorem spill_cons (p i : Nat) (r : List (Nat × Nat)) (v : Val) (vs : List Val) : spill ρ ((p, i) :: r) (v :: vs) = spill (put ρ i v) r vs := Eq.trans rfl rfl
theorem puts_nil : puts ρ [] [] = .ok ρ := Eq.trans rfl rfl
theorem puts_cons (i : Nat) (is : List Nat) (v : Val) (vs : List Val) : puts ρ (i :: is) (v :: vs) = puts (put ρ i v) is vs := Eq.trans rfl rfl
theorem bT_var (i : Nat) (v : Val) : bindT (.var i) v ρ = some (put ρ i v) := Eq.trans rfl rfl
theorem done_next : doneR [] (.next, ρ) = .ok (.none, []) := Eq.trans rfl rfl
theorem done_ret (v : Val) : doneR [] (.ret v, ρ) = .ok (v, []) := Eq.trans rfl rfl
theorem done_next1 (i : Nat) : doneR [i] (.next, ρ) = (get ρ i).bind fun v => .ok (.none, [v]) := by
  show (outsOf ρ [i]).bind _ = _
  show ((get ρ i).bind fun v => (Res.ok []).bind fun vs => .ok (v :: vs)).bind _ = _
  cases get ρ i <;> rfl
theorem done_ret1 (i : Nat) (u : Val) : doneR [i] (.ret u, ρ) = (get ρ i).bind fun v => .ok (u, [v]) := by
  show (outsOf ρ [i]).bind _ = _
  show ((get ρ i).bind fun v => (Res.ok []).bind fun vs => .ok (v :: vs)).bind _ = _
  cases get ρ i <;> rfl
end
section
variable (G : Gl) (ρ : Env) (es : Es)
theorem eb_len : evE G (.blt .len es) ρ = (evEs G es ρ).bind fun x => (blt .len x.1).bind fun v => .ok (v, x.2) := Eq.trans rfl rfl
theorem eb_abs : evE G (.blt .abs es) ρ = (evEs G es ρ).bind fun x => (blt .abs x.1).bind fun v => .ok (v, x.2) := Eq.trans rfl rfl
theorem eb_int : evE G (.blt .int es) ρ = (evEs G es ρ).bind fun x => (blt .int x.1).bind fun v => .ok (v, x.2) := Eq.trans rfl rfl
theorem eb_str : evE G (.blt .str es) ρ = (evEs G es ρ).bind fun x => (blt .str x.1).bind fun v => .ok (v, x.2) := Eq.trans rfl rfl
theorem eb_list : evE G (.blt .list es) ρ = (evEs G es ρ).bind fun x => (blt .list x.1).bind fun v => .ok (v, x.2) := Eq.trans rfl rfl
theorem eb_tuple : evE G (.blt .tuple es) ρ = (evEs G es ρ).bind fun x => (blt .tuple x.1).bind fun v => .ok (v, x.2) := Eq.trans rfl rfl
theorem eb_dict : evE G (.blt .dict es) ρ = (evEs G es ρ).bind fun x => (blt .dict x.1).bind fun v => .ok (v, x.2) := Eq.trans rfl rfl
theorem eb_sum : evE G (.blt .sum es) ρ = (evEs G es ρ).bind fun x => (blt .sum x.1).bind fun v => .ok (v, x.2) := Eq.trans rfl rfl
theorem eb_min : evE G (.blt .min es) ρ = (evEs G es ρ).bind fun x => (blt .min x.1).bind fun v => .ok (v, x.2) := Eq.trans rfl rfl
theorem eb_max : evE G (.blt .max es) ρ = (evEs G es ρ).bind fun x => (blt .max x.1).bind fun v => .ok (v, x.2) := Eq.trans rfl rfl
theorem eb_any : evE G (.blt .any es) ρ = (evEs G es ρ).bind fun x => (blt .any x.1).bind fun v => .ok (v, x.2) := Eq.trans rfl rfl
theorem eb_all : evE G (.blt .all es) ρ = (evEs G es ρ).bind fun x => (blt .all x.1).bind fun v => .ok (v, x.2) := Eq.trans rfl rfl
theorem eb_sorted : evE G (.blt .sorted es) ρ = (evEs G es ρ).bind fun x => (blt .sorted x.1).bind fun v => .ok (v, x.2) := Eq.trans rfl rfl
theorem eb_sortedSet : evE G (.blt .sortedSet es) ρ = (evEs G es ρ).bind fun x => (blt .sortedSet x.1).bind fun v => .ok (v, x.2) := Eq.trans rfl rfl
theorem eb_lenSet : evE G (.blt .lenSet es) ρ = (evEs G es ρ).bind fun x => (blt .lenSet x.1).bind fun v => .ok (v, x.2) := Eq.trans rfl rfl
theorem eb_listRange : evE G (.blt .listRange es) ρ = (evEs G es ρ).bind fun x => (blt .listRange x.1).bind fun v => .ok (v, x.2) := Eq.trans rfl rfl
theorem eb_tupRange : evE G (.blt .tupRange es) ρ = (evEs G es ρ).bind fun x => (blt .tupRange x.1).bind fun v => .ok (v, x.2) := Eq.trans rfl rfl
theorem eb_tupEnum : evE G (.blt .tupEnum es) ρ = (evEs G es ρ).bind fun x => (blt .tupEnum x.1).bind fun v => .ok (v, x.2) := Eq.trans rfl rfl
theorem eb_tupZip : evE G (.blt .tupZip es) ρ = (evEs G es ρ).bind fun x => (blt .tupZip x.1).bind fun v => .ok (v, x.2) := Eq.trans rfl rfl
theorem eb_listZip : evE G (.blt .listZip es) ρ = (evEs G es ρ).bind fun x => (blt .listZip x.1).bind fun v => .ok (v, x.2) := Eq.trans rfl rfl
theorem eb_newDict : evE G (.blt .newDict es) ρ = (evEs G es ρ).bind fun x => (blt .newDict x.1).bind fun v => .ok (v, x.2) := Eq.trans rfl rfl
theorem eb_newDicT : evE G (.blt .newDicT es) ρ = (evEs G es ρ).bind fun x => (blt .newDicT x.1).bind fun v => .ok (v, x.2) := Eq.trans rfl rfl
theorem eb_minD : evE G (.blt .minD es) ρ = (evEs G es ρ).bind fun x => (blt .minD x.1).bind fun v => .ok (v, x.2) := Eq.trans rfl rfl
theorem eb_maxD : evE G (.blt .maxD es) ρ = (evEs G es ρ).bind fun x => (blt .maxD x.1).bind fun v => .ok (v, x.2) := Eq.trans rfl rfl
theorem eb_sortedTxt : evE G (.blt .sortedTxt es) ρ = (evEs G es ρ).bind fun x => (blt .sortedTxt x.1).bind fun v => .ok (v, x.2) := Eq.trans rfl rfl
theorem eb_sortedSetS : evE G (.blt .sortedSetS es) ρ = (evEs G es ρ).bind fun x => (blt .sortedSetS x.1).bind fun v => .ok (v, x.2) := Eq.trans rfl rfl
theorem eb_sumL : evE G (.blt .sumL es) ρ = (evEs G es ρ).bind fun x => (blt .sumL x.1).bind fun v => .ok (v, x.2) := Eq.trans rfl rfl
theorem eb_listTxt : evE G (.blt .listTxt es) ρ = (evEs G es ρ).bind fun x => (blt .listTxt x.1).bind fun v => .ok (v, x.2) := Eq.trans rfl rfl
theorem eb_isinst (ts : List Ty) : evE G (.blt (.isinst ts) es) ρ = (evEs G es ρ).bind fun x => (blt (.isinst ts) x.1).bind fun v => .ok (v, x.2) := Eq.trans rfl rfl
end
end ME
/-! MiniPy: what the laws share: draws, looks at letters (plain Lean) -/
namespace ME
open MP

section
variable {a b c d e : Val}
theorem ix5_0 : idx (.lst [a, b, c, d, e]) (.int 0) = .ok a := rfl
theorem ix5_1 : idx (.lst [a, b, c, d, e]) (.int 1) = .ok b := rfl
theorem ix5_2 : idx (.lst [a, b, c, d, e]) (.int 2) = .ok c := rfl
theorem ix5_3 : idx (.lst [a, b, c, d, e]) (.int 3) = .ok d := rfl
theorem ix5_4 : idx (.lst [a, b, c, d, e]) (.int 4) = .ok e := rfl
theorem st5_1 {v : Val} : setItem (.lst [a, b, c, d, e]) (.int 1) v = .ok (.lst [a, v, c, d, e]) := rfl
theorem st5_2 {v : Val} : setItem (.lst [a, b, c, d, e]) (.int 2) v = .ok (.lst [a, b, v, d, e]) := rfl
theorem st5_3 {v : Val} : setItem (.lst [a, b, c, d, e]) (.int 3) v = .ok (.lst [a, b, c, v, e]) := rfl
theorem st5_4 {v : Val} : setItem (.lst [a, b, c, d, e]) (.int 4) v = .ok (.lst [a, b, c, d, v]) := rfl
end
theorem place_nat {n i : Nat} (h : i < n) : place n (i : Int) = some i := by
  unfold place
  rw [if_pos (by omega), if_pos (by omega)]
  simp
theorem at_nat {α : Type} {xs : List α} {i : Nat} {v : α} (h : xs[i]? = some v) : at? xs (i : Int) = some v := by
  unfold at?
  rw [place_nat (List.getElem?_eq_some_iff.mp h).1]
  exact h
theorem idx_lst {vs : List Val} {i : Nat} {v : Val} (h : vs[i]? = some v) : idx (.lst vs) (.int i) = .ok v := by
  show orStuck (at? vs i) = _
  rw [at_nat h]; rfl
theorem idx_tup {vs : List Val} {i : Nat} {v : Val} (h : vs[i]? = some v) : idx (.tup vs) (.int i) = .ok v := by
  show orStuck (at? vs i) = _
  rw [at_nat h]; rfl
theorem idx_str {s : List Nat} {i : Nat} {c : Nat} (h : s[i]? = some c) : idx (.str s) (.int i) = .ok (.str [c]) := by
  show orStuck ((at? s i).map fun c => Val.str [c]) = _
  rw [at_nat h]; rfl
theorem add_i {x y : Int} : bin .add (.int x) (.int y) = .ok (.int (x + y)) := rfl
theorem sub_i {x y : Int} : bin .sub (.int x) (.int y) = .ok (.int (x - y)) := rfl
theorem mul_r {x y : Int} (h : small64 y = true) : bin .mul (.int x) (.int y) = .ok (.int (x * y)) := by
  show (if small64 x || small64 y then Res.ok (Val.int (x * y)) else .stuck) = _
  rw [h, Bool.or_true, if_pos rfl]
theorem mul_l {x y : Int} (h : small64 x = true) : bin .mul (.int x) (.int y) = .ok (.int (x * y)) := by
  show (if small64 x || small64 y then Res.ok (Val.int (x * y)) else .stuck) = _
  rw [h, Bool.true_or, if_pos rfl]
theorem mod_i {x y : Int} (h : 0 < y) : bin .mod (.int x) (.int y) = .ok (.int (x % y)) := if_pos h
theorem fdiv_i {x y : Int} (h : 0 < y) (h2 : y < 1073741824) : bin .fdiv (.int x) (.int y) = .ok (.int (x / y)) := if_pos ⟨h, h2⟩
theorem eq_i {x y : Int} : cmp .eq (.int x) (.int y) = .ok (.bool (x == y)) := rfl
theorem ne_i {x y : Int} : cmp .ne (.int x) (.int y) = .ok (.bool (!(x == y))) := rfl
theorem lt_i {x y : Int} : cmp .lt (.int x) (.int y) = .ok (.bool (decide (x < y))) := rfl
theorem le_i {x y : Int} : cmp .le (.int x) (.int y) = .ok (.bool (decide (x ≤ y))) := rfl
theorem gt_i {x y : Int} : cmp .gt (.int x) (.int y) = .ok (.bool (decide (y < x))) := rfl
theorem ge_i {x y : Int} : cmp .ge (.int x) (.int y) = .ok (.bool (decide (y ≤ x))) := rfl
theorem toint_i {x : Int} : blt .int [.int x] = .ok (.int x) := rfl
theorem len_l {vs : List Val} : blt .len [.lst vs] = .ok (.int vs.length) := rfl
theorem len_t {vs : List Val} : blt .len [.tup vs] = .ok (.int vs.length) := rfl
theorem len_s {s : List Nat} : blt .len [.str s] = .ok (.int s.length) := rfl
theorem tru_b {x : Bool} : truthy (.bool x) = .ok x := rfl
theorem pow_18 : bin .pow (.int 10) (.int 18) = .ok (.int 1000000000000000000) := rfl
theorem pow_36 : bin .pow (.int 10) (.int 36) = .ok (.int 1000000000000000000000000000000000000) := rfl
theorem small_ofM {x : Int} (h : 0 ≤ x) (h2 : x < 18446744073709551616) : small64 x = true := by
  unfold small64
  rw [Bool.and_eq_true, decide_eq_true_eq, decide_eq_true_eq]
  omega

/-- the law's hand -/
def Hand (h : Val) : Prop := ∃ (cells : List Int) (i : Nat) (c d e : Int), h = .lst [.lst (cells.map .int), .int i, .int c, .int d, .int e]
/-- _law_draw: x is how the cell goes in -/
def drawD (x : E) (A B M K C1 M1 D1 E1 M2 D2 E2 M3 : Int) : MP.Def := ⟨2, 5, [0], (.cons (.ifs (.and (.cmp .eq (.idx (.var 0) (.k (Val.int 2))) (.k (Val.int 0))) (.cmp .lt (.idx (.var 0) (.k (Val.int 1))) (.blt .len (.cons (.idx (.var 0) (.k (Val.int 0))) .nil))))
  (.cons (.set 2 (.idx (.idx (.var 0) (.k (Val.int 0))) (.idx (.var 0) (.k (Val.int 1))))) (.cons (.sti 0 (.k (Val.int 1)) (.bin .add (.idx (.var 0) (.k (Val.int 1))) (.k (Val.int 1))))
    (.cons (.sti 0 (.k (Val.int 3)) (.bin .mod (.blt .int (.cons (.bin .add (.bin .add (.bin .mul (.idx (.var 0) (.k (Val.int 3))) (.k (Val.int A))) x) (.k (Val.int B))) .nil)) (.k (Val.int M))))
    (.cons (.ifs (.cmp .ge (.var 2) (.bin .pow (.k (Val.int 10)) (.k (Val.int 18)))) (.cons (.sti 0 (.k (Val.int 2)) (.var 2)) .nil) .nil) .nil)))) .nil)
  (.cons (.ifs (.cmp .gt (.idx (.var 0) (.k (Val.int 2))) (.k (Val.int 0))) (.cons (.set 3 (.bin .mod (.blt .int (.cons (.idx (.var 0) (.k (Val.int 2))) .nil)) (.var 1))) (.cons (.sti 0 (.k (Val.int 2)) (.bin .fdiv (.idx (.var 0) (.k (Val.int 2))) (.var 1))) (.cons (.ret (.var 3)) .nil))) .nil)
  (.cons (.sti 0 (.k (Val.int 4)) (.bin .add (.idx (.var 0) (.k (Val.int 4))) (.k (Val.int 1))))
  (.cons (.set 4 (.bin .mod (.blt .int (.cons (.bin .mul (.blt .int (.cons (.bin .add (.idx (.var 0) (.k (Val.int 3))) (.bin .mul (.k (Val.int K)) (.idx (.var 0) (.k (Val.int 4))))) .nil)) (.k (Val.int C1))) .nil)) (.k (Val.int M1))))
  (.cons (.set 4 (.bin .mod (.blt .int (.cons (.bin .mul (.var 4) (.bin .add (.bin .fdiv (.var 4) (.k (Val.int D1))) (.k (Val.int E1)))) .nil)) (.k (Val.int M2))))
  (.cons (.set 4 (.bin .mod (.blt .int (.cons (.bin .mul (.var 4) (.bin .add (.bin .fdiv (.var 4) (.k (Val.int D2))) (.k (Val.int E2)))) .nil)) (.k (Val.int M3))))
  (.cons (.ret (.bin .mod (.blt .int (.cons (.bin .fdiv (.var 4) (.k (Val.int 16))) .nil)) (.var 1))) .nil)))))))⟩
/-- the constants are such that nothing gets stuck -/
def drawOk (A M K C1 M1 D1 M2 D2 M3 : Int) : Bool := small64 A && decide (0 < M) && small64 K && small64 C1 && decide (0 < M1) && decide (M1 < 18446744073709551616) && decide (0 < D1) && decide (D1 < 1073741824) && decide (0 < M2) && decide (M2 < 18446744073709551616) && decide (0 < D2) && decide (D2 < 1073741824) && decide (0 < M3)
theorem draw_ok {P : Prog} {n f : Nat} {x : E} {A B M K C1 M1 D1 E1 M2 D2 E2 M3 : Int} (hd : P.defs[f]? = some (drawD x A B M K C1 M1 D1 E1 M2 D2 E2 M3)) (hk : drawOk A M K C1 M1 D1 M2 D2 M3 = true)
    (hx : ∀ (G : Gl) (a m : Val) (cell : Int) (p q : Option Val), ∃ y : Int, evE G x [some a, some m, some (.int cell), p, q] = .ok (.int y, [some a, some m, some (.int cell), p, q]))
    {h : Val} (hh : Hand h) {m : Int} (hm : 0 < m) (hm2 : m < 1073741824) : ∃ r h', callN P (n + 1) f [h, .int m] = .ok (.int r, [h']) ∧ 0 ≤ r ∧ r < m ∧ Hand h' := by
  rw [callN_eq (ρ := [some h, some (.int m), Option.none, Option.none, Option.none]) hd rfl rfl]
  obtain ⟨cells, i, c, d, e, rfl⟩ := hh
  unfold drawOk at hk
  simp only [Bool.and_eq_true, decide_eq_true_eq] at hk
  obtain ⟨⟨⟨⟨⟨⟨⟨⟨⟨⟨⟨⟨kA, kM⟩, kK⟩, kC⟩, kM1⟩, kM1'⟩, kD1⟩, kD1'⟩, kM2⟩, kM2'⟩, kD2⟩, kD2'⟩, kM3⟩ := hk
  generalize (⟨callN P n, P.con, P.rp, P.wh⟩ : Gl) = G
  -- the last part
  have last : ∀ (i : Nat) (c d e : Int) (p q s : Option Val), ∃ r h', (evSs G (.cons (.ifs (.cmp .gt (.idx (.var 0) (.k (Val.int 2))) (.k (Val.int 0))) (.cons (.set 3 (.bin .mod (.blt .int (.cons (.idx (.var 0) (.k (Val.int 2))) .nil)) (.var 1))) (.cons (.sti 0 (.k (Val.int 2)) (.bin .fdiv (.idx (.var 0) (.k (Val.int 2))) (.var 1))) (.cons (.ret (.var 3)) .nil))) .nil)
  (.cons (.sti 0 (.k (Val.int 4)) (.bin .add (.idx (.var 0) (.k (Val.int 4))) (.k (Val.int 1))))
  (.cons (.set 4 (.bin .mod (.blt .int (.cons (.bin .mul (.blt .int (.cons (.bin .add (.idx (.var 0) (.k (Val.int 3))) (.bin .mul (.k (Val.int K)) (.idx (.var 0) (.k (Val.int 4))))) .nil)) (.k (Val.int C1))) .nil)) (.k (Val.int M1))))
  (.cons (.set 4 (.bin .mod (.blt .int (.cons (.bin .mul (.var 4) (.bin .add (.bin .fdiv (.var 4) (.k (Val.int D1))) (.k (Val.int E1)))) .nil)) (.k (Val.int M2))))
  (.cons (.set 4 (.bin .mod (.blt .int (.cons (.bin .mul (.var 4) (.bin .add (.bin .fdiv (.var 4) (.k (Val.int D2))) (.k (Val.int E2)))) .nil)) (.k (Val.int M3))))
  (.cons (.ret (.bin .mod (.blt .int (.cons (.bin .fdiv (.var 4) (.k (Val.int 16))) .nil)) (.var 1))) .nil)))))) [some (.lst [.lst (cells.map .int), .int i, .int c, .int d, .int e]), some (.int m), p, q, s]).bind (doneR [0]) = .ok (.int r, [h']) ∧ 0 ≤ r ∧ r < m ∧ Hand h' := by
    intro i c d e p q s
    have nn : ∀ x y : Int, 0 < y → 0 ≤ x % y ∧ x % y < y := fun x y h => ⟨Int.emod_nonneg _ (by omega), Int.emod_lt_of_pos _ h⟩
    simp only [evSs, evS, evE, evEs, ok_bind, get_z, get_s, ix5_2, gt_i, tru_b]
    by_cases hc : (0 : Int) < c
    · rw [decide_eq_true hc]
      simp only [if_true, evSs, evS, evE, evEs, ok_bind, get_z, get_s, put_z, put_s, ix5_2, toint_i, mod_i hm, fdiv_i hm hm2, st5_2, doneR, outsOf]
      exact ⟨_, _, rfl, (nn c m hm).1, (nn c m hm).2, cells, i, _, d, e, rfl⟩
    · rw [decide_eq_false hc]
      have s1 : ∀ z : Int, small64 (z % M1) = true := fun z => small_ofM (nn z M1 kM1).1 (by have := (nn z M1 kM1).2; omega)
      have s2 : ∀ z : Int, small64 (z % M2) = true := fun z => small_ofM (nn z M2 kM2).1 (by have := (nn z M2 kM2).2; omega)
      simp only [Bool.false_eq_true, if_false, evSs, evS, evE, evEs, ok_bind, get_z, get_s, put_z, put_s, ix5_3, ix5_4, st5_4, toint_i, add_i, mul_l kK, mul_r kC, mod_i kM1, mod_i kM2, mod_i kM3, fdiv_i kD1 kD1', fdiv_i kD2 kD2', mul_l (s1 _), mul_l (s2 _), fdiv_i (show (0 : Int) < 16 by decide) (show (16 : Int) < 1073741824 by decide), mod_i hm, doneR, outsOf]
      exact ⟨_, _, rfl, (nn _ m hm).1, (nn _ m hm).2, cells, i, c, d, _, rfl⟩
  show ∃ r h', (evSs G (.cons _ _) _).bind (doneR [0]) = _ ∧ _
  rw [show ∀ s ss ρ, evSs G (.cons s ss) ρ = (evS G s ρ).bind fun o => match o.1 with
    | .next => evSs G ss o.2
    | .brk => .ok (.brk, o.2)
    | .ret v => .ok (.ret v, o.2) from fun _ _ _ => rfl]
  simp only [evSs, evS, evE, evEs, ok_bind, get_z, get_s, ix5_0, ix5_1, ix5_2, eq_i, lt_i, tru_b, len_l, List.length_map]
  cases hc : c == 0 with
  | false =>
    simp only [Bool.false_eq_true, if_false, ok_bind, tru_b]
    exact last i c d e _ _ _
  | true =>
    simp only [if_true, ok_bind, tru_b]
    by_cases hi : i < cells.length
    · rw [decide_eq_true (by omega)]
      obtain ⟨y, hy⟩ := hx G (.lst [.lst (cells.map .int), .int ((i + 1 : Nat) : Int), .int c, .int d, .int e]) (.int m) cells[i] Option.none Option.none
      have ei : idx (.lst (cells.map Val.int)) (.int (i : Int)) = .ok (.int cells[i]) := idx_lst (by rw [List.getElem?_map, List.getElem?_eq_getElem hi]; rfl)
      have ec : (i : Int) + 1 = ((i + 1 : Nat) : Int) := by omega
      simp only [if_true, evSs, evS, evE, evEs, ok_bind, get_z, get_s, put_z, put_s, ix5_0, ix5_1, ix5_3, ei, add_i, st5_1, ec, toint_i, mul_r kA, hy, mod_i kM, st5_3, pow_18, ge_i, tru_b]
      by_cases hg : (1000000000000000000 : Int) ≤ cells[i]
      · rw [decide_eq_true hg]
        simp only [if_true, evSs, evS, evE, evEs, ok_bind, get_z, get_s, put_z, put_s, st5_2]
        exact last _ _ _ _ _ _ _
      · rw [decide_eq_false hg]
        simp only [Bool.false_eq_true, if_false, evSs, ok_bind]
        exact last _ _ _ _ _ _ _
    · rw [decide_eq_false (by omega)]
      simp only [Bool.false_eq_true, if_false, ok_bind, evSs]
      exact last _ _ _ _ _ _ _

def DrawS (P : Prog) (n f : Nat) : Prop := ∀ (h : Val) (m : Int), Hand h → 0 < m → m < 1073741824 → ∃ r h', callN P n f [h, .int m] = .ok (.int r, [h']) ∧ 0 ≤ r ∧ r < m ∧ Hand h'
/-- _law_some -/
def someD (f : Nat) : MP.Def := ⟨2, 2, [0], (.cons (.ret (.idx (.var 1) (.call f (.cons (.var 0) (.cons (.blt .len (.cons (.var 1) .nil)) .nil)) [(0, 0)]))) .nil)⟩
theorem some_str {P : Prog} {n f g : Nat} (hd : P.defs[g]? = some (someD f)) (D : DrawS P n f) {h : Val} (hh : Hand h) {s : List Nat} (h0 : s ≠ []) (h1 : s.length < 1073741824) :
    ∃ c h', callN P (n + 1) g [h, .str s] = .ok (.str [c], [h']) ∧ c ∈ s ∧ Hand h' := by
  have hl : 0 < s.length := List.length_pos_iff.mpr h0
  obtain ⟨r, h', e, r0, r1, hh'⟩ := D h s.length hh (by omega) (by omega)
  have hr : r.toNat < s.length := by omega
  have hi : idx (.str s) (.int r) = .ok (.str [s[r.toNat]]) := by
    have := idx_str (List.getElem?_eq_getElem hr)
    rwa [show ((r.toNat : Nat) : Int) = r by omega] at this
  refine ⟨s[r.toNat], h', ?_, List.getElem_mem _, hh'⟩
  rw [callN_eq (ρ := [some h, some (.str s)]) hd rfl rfl]
  show (evSs _ (.cons (.ret (.idx (.var 1) (.call f (.cons (.var 0) (.cons (.blt .len (.cons (.var 1) .nil)) .nil)) [(0, 0)]))) .nil) _).bind (doneR [0]) = _
  simp only [evSs, evS, evE, evEs, ok_bind, get_z, get_s, len_s, fill, List.set_cons_zero, e, List.length_cons, List.length_nil, if_true, spill, put_z, hi, doneR, outsOf]
theorem some_lst {P : Prog} {n f g : Nat} (hd : P.defs[g]? = some (someD f)) (D : DrawS P n f) {h : Val} (hh : Hand h) {vs : List Val} (h0 : vs ≠ []) (h1 : vs.length < 1073741824) :
    ∃ v h', callN P (n + 1) g [h, .lst vs] = .ok (v, [h']) ∧ v ∈ vs ∧ Hand h' := by
  have hl : 0 < vs.length := List.length_pos_iff.mpr h0
  obtain ⟨r, h', e, r0, r1, hh'⟩ := D h vs.length hh (by omega) (by omega)
  have hr : r.toNat < vs.length := by omega
  have hi : idx (.lst vs) (.int r) = .ok vs[r.toNat] := by
    have := idx_lst (List.getElem?_eq_getElem hr)
    rwa [show ((r.toNat : Nat) : Int) = r by omega] at this
  refine ⟨vs[r.toNat], h', ?_, List.getElem_mem _, hh'⟩
  rw [callN_eq (ρ := [some h, some (.lst vs)]) hd rfl rfl]
  show (evSs _ (.cons (.ret (.idx (.var 1) (.call f (.cons (.var 0) (.cons (.blt .len (.cons (.var 1) .nil)) .nil)) [(0, 0)]))) .nil) _).bind (doneR [0]) = _
  simp only [evSs, evS, evE, evEs, ok_bind, get_z, get_s, len_l, fill, List.set_cons_zero, e, List.length_cons, List.length_nil, if_true, spill, put_z, hi, doneR, outsOf]
/-- _law_hand -/
def handD (K : Int) : MP.Def := ⟨1, 3, [], (.cons (.set 1 (.lc (.bin .mod (.blt .int (.cons (.blt .abs (.cons (.blt .int (.cons (.var 2) .nil)) .nil)) .nil)) (.bin .pow (.k (Val.int 10)) (.k (Val.int 36)))) (.var 2) (.e (.slc (.var 0) (.k .none) (.k (Val.int 63)))) (.k (.bool true)) [2]))
  (.cons (.ret (.lst (.cons (.var 1) (.cons (.k (Val.int 0)) (.cons (.k (Val.int 0)) (.cons (.bin .add (.k (Val.int K)) (.bin .mul (.k (Val.int 7)) (.blt .len (.cons (.var 1) .nil)))) (.cons (.k (Val.int 0)) .nil))))))) .nil))⟩
theorem hand_ok {P : Prog} {n f : Nat} {K : Int} (hd : P.defs[f]? = some (handD K)) {ns : List Int} (hl : ns.length ≤ 63) : ∃ h, callN P (n + 1) f [.lst (ns.map .int)] = .ok (h, []) ∧ Hand h := by
  rw [callN_eq (ρ := [some (.lst (ns.map .int)), Option.none, Option.none]) hd rfl rfl]
  have hc : cut (ns.map Val.int) .none (.int 63) = some (ns.map Val.int) := by
    unfold cut
    show some (((ns.map Val.int).drop 0).take (min 63 (ns.map Val.int).length - 0)) = _
    rw [List.drop_zero, Nat.sub_zero, List.length_map, Nat.min_eq_right hl, List.take_of_length_le (by rw [List.length_map]; exact Nat.le_refl _)]
  generalize hG : (⟨callN P n, P.con, P.rp, P.wh⟩ : Gl) = G
  have e0 : slc (.lst (ns.map Val.int)) .none (.int 63) = .ok (.lst (ns.map Val.int)) := by
    show orStuck ((cut (ns.map Val.int) .none (.int 63)).map Val.lst) = _
    rw [hc]; rfl
  have e := lc_all (G := G) (elt := .bin .mod (.blt .int (.cons (.blt .abs (.cons (.blt .int (.cons (.var 2) .nil)) .nil)) .nil)) (.bin .pow (.k (Val.int 10)) (.k (Val.int 36)))) (t := .var 2) (it := .e (.slc (.var 0) (.k .none) (.k (Val.int 63)))) (own := [2])
    (ρ := [some (.lst (ns.map .int)), Option.none, Option.none]) (ρ1 := [some (.lst (ns.map .int)), Option.none, Option.none]) (f := Val.int) (l := ns) (fun x => .int ((if x < 0 then -x else x) % 1000000000000000000000000000000000000))
    (by simp only [evI, evE, ok_bind, get_z, okPart, if_true, e0, walked]) (by unfold big; omega) rfl (fun x hx => ⟨_, rfl, rfl, rfl, rfl⟩)
  show ∃ h, (evSs G (.cons (.set 1 (.lc _ _ _ _ _)) _) _).bind (doneR []) = _ ∧ _
  refine ⟨_, ?_, ns.map (fun x => (if x < 0 then -x else x) % 1000000000000000000000000000000000000), 0, 0, K + 7 * (ns.length : Int), 0, rfl⟩
  simp only [ok_bind, get_z, get_s, put_z, put_s, List.set_cons_zero, List.set_cons_succ, List.length_cons, List.length_nil, if_true, ev_var, ev_k, ev_g, ev_bin, ev_cmp, ev_cmp2, ev_neg, ev_not, ev_and, ev_or, ev_ite, ev_tup, ev_lst, ev_idx, ev_slc, ev_rev, ev_call, ev_repr, ev_mth, ev_mtc, evs_nil, evs_cons, evi_e, evi_rng, evi_enum, evi_zip, es_set, es_unp, es_par, es_sti, es_ex, es_ret, es_ret0, es_pass, es_brk, es_ifs, es_loop, ess_nil, ess_cons, orS_some, fill_nil, fill_cons, spill_nil, spill_cons, puts_nil, puts_cons, bT_var, done_next, done_ret, done_next1, done_ret1, eb_len, eb_abs, eb_int, eb_str, eb_list, eb_tuple, eb_dict, eb_sum, eb_min, eb_max, eb_any, eb_all, eb_sorted, eb_sortedSet, eb_lenSet, eb_listRange, eb_tupRange, eb_tupEnum, eb_tupZip, eb_listZip, eb_newDict, eb_newDicT, eb_isinst, es_aug, ev_mtl, ev_mtt, ev_mtq, ev_mtd, ev_alt, alt_ok, alt_stuck, eb_minD, eb_maxD, eb_sortedTxt, eb_sortedSetS, eb_sumL, eb_listTxt, e, len_l, add_i, mul_l (show small64 7 = true by decide), List.map_map, List.length_map]
  rfl

/-! ### looks -/
def isIntD : MP.Def := ⟨1, 1, [], (.cons (.ret (.and (.blt (.isinst [.int]) (.cons (.var 0) .nil)) (.not (.blt (.isinst [.bool]) (.cons (.var 0) .nil))))) .nil)⟩
def isWithinD (f : Nat) : MP.Def := ⟨3, 3, [], (.cons (.ret (.and (.call f (.cons (.var 0) .nil) []) (.cmp2 .le .le (.var 1) (.var 0) (.var 2)))) .nil)⟩
def isLettersD (g : Nat) : MP.Def := ⟨3, 4, [], (.cons (.ret (.and (.blt (.isinst [.str]) (.cons (.var 0) .nil)) (.and (.cmp2 .le .le (.var 1) (.blt .len (.cons (.var 0) .nil)) (.var 2)) (.blt .all (.cons (.lc (.cmp .mem (.var 3) (.g g)) (.var 3) (.e (.var 0)) (.k (.bool true)) [3]) .nil))))) .nil)⟩
section
variable {P : Prog} {n f g : Nat}
theorem isInt_ok (hd : P.defs[f]? = some isIntD) (i : Int) : callN P (n + 1) f [.int i] = .ok (.bool true, []) := by
  rw [callN_eq (ρ := [some (.int i)]) hd rfl rfl]
  rfl
theorem isWithin_ok (hd : P.defs[g]? = some (isWithinD f)) (hf : P.defs[f]? = some isIntD) (i a b : Int) : callN P (n + 2) g [.int i, .int a, .int b] = .ok (.bool (decide (a ≤ i ∧ i ≤ b)), []) := by
  rw [callN_eq (ρ := [some (.int i), some (.int a), some (.int b)]) hd rfl rfl]
  show (evSs _ (.cons (.ret (.and (.call f (.cons (.var 0) .nil) []) (.cmp2 .le .le (.var 1) (.var 0) (.var 2)))) .nil) _).bind (doneR []) = _
  simp only [evSs, evS, evE, evEs, ok_bind, get_z, get_s, fill, isInt_ok hf, List.length_nil, if_true, spill, tru_b, le_i]
  by_cases h : a ≤ i
  · rw [decide_eq_true h]
    simp only [if_true, ok_bind, doneR, outsOf, h, true_and]
  · rw [decide_eq_false h]
    simp only [Bool.false_eq_true, if_false, ok_bind, doneR, outsOf, h, false_and, decide_false]
def Lets (s : List Nat) : Prop := ∀ c ∈ s, 97 ≤ c ∧ c < 123
def abc : List Nat := [97, 98, 99, 100, 101, 102, 103, 104, 105, 106, 107, 108, 109, 110, 111, 112, 113, 114, 115, 116, 117, 118, 119, 120, 121, 122]
theorem abc_range : abc = List.range' 97 26 := rfl
theorem abc_mem {c : Nat} : c ∈ abc ↔ 97 ≤ c ∧ c < 123 := by
  rw [abc_range, List.mem_range'_1]
theorem mem_abc {c : Nat} (h : 97 ≤ c ∧ c < 123) : cmp .mem (.str [c]) (.str abc) = .ok (.bool true) := by
  show Res.ok (Val.bool (abc.contains c)) = _
  rw [List.contains_iff_mem.mpr (abc_mem.mpr h)]
theorem Lets.append {s t : List Nat} (a : Lets s) (b : Lets t) : Lets (s ++ t) := fun c h => (List.mem_append.mp h).elim (a c) (b c)
theorem allBools_true {α : Type} (l : List α) : allBools (l.map fun _ => Val.bool true) = some (l.map fun _ => true) := by
  induction l with
  | nil => rfl
  | cons x l ih =>
    show (allBools (l.map fun _ => Val.bool true)).map (true :: ·) = _
    rw [ih]; rfl
theorem all_true {α : Type} (l : List α) : blt .all [.lst (l.map fun _ => Val.bool true)] = .ok (.bool true) := by
  show (orStuck (allBools (l.map fun _ => Val.bool true))).bind _ = _
  rw [allBools_true]
  show Res.ok (Val.bool ((l.map fun _ => true).all id)) = _
  rw [List.all_map]
  have : l.all (id ∘ fun _ => true) = true := List.all_eq_true.mpr fun _ _ => rfl
  rw [this]
theorem isLetters_ok {gi : Nat} (hd : P.defs[g]? = some (isLettersD gi)) (hc : P.con gi = .str abc) {s : List Nat} (hs : Lets s) (hz : s.length ≤ big) (a b : Int) : callN P (n + 1) g [.str s, .int a, .int b] = .ok (.bool (decide (a ≤ s.length ∧ (s.length : Int) ≤ b)), []) := by
  rw [callN_eq (ρ := [some (.str s), some (.int a), some (.int b), Option.none]) hd rfl rfl]
  generalize hG : (⟨callN P n, P.con, P.rp, P.wh⟩ : Gl) = G
  have hgc : G.con gi = .str abc := by rw [← hG]; exact hc
  have e := lc_all (G := G) (elt := .cmp .mem (.var 3) (.g gi)) (t := .var 3) (it := .e (.var 0)) (own := [3])
    (ρ := [some (.str s), some (.int a), some (.int b), Option.none]) (ρ1 := [some (.str s), some (.int a), some (.int b), Option.none]) (f := fun c => Val.str [c]) (l := s) (fun _ => Val.bool true)
    (by simp only [evI, evE, ok_bind, get_z, walked]) hz rfl (fun x hx => ⟨_, rfl, rfl, rfl, by
      show (Res.ok (Val.str [x], _)).bind (fun o => (evE G (.g gi) o.2).bind _) = _
      simp only [ok_bind, evE, hgc, mem_abc (hs x hx)]⟩)
  show (evSs G (.cons (.ret (.and (.blt (.isinst [.str]) (.cons (.var 0) .nil)) (.and (.cmp2 .le .le (.var 1) (.blt .len (.cons (.var 0) .nil)) (.var 2)) (.blt .all (.cons (.lc (.cmp .mem (.var 3) (.g gi)) (.var 3) (.e (.var 0)) (.k (.bool true)) [3]) .nil))))) .nil) _).bind (doneR []) = _
  have h0 : blt (.isinst [.str]) [.str s] = .ok (.bool true) := rfl
  simp only [ok_bind, get_z, get_s, put_z, put_s, List.set_cons_zero, List.set_cons_succ, List.length_cons, List.length_nil, if_true, ev_var, ev_k, ev_g, ev_bin, ev_cmp, ev_cmp2, ev_neg, ev_not, ev_and, ev_or, ev_ite, ev_tup, ev_lst, ev_idx, ev_slc, ev_rev, ev_call, ev_repr, ev_mth, ev_mtc, evs_nil, evs_cons, evi_e, evi_rng, evi_enum, evi_zip, es_set, es_unp, es_par, es_sti, es_ex, es_ret, es_ret0, es_pass, es_brk, es_ifs, es_loop, ess_nil, ess_cons, orS_some, fill_nil, fill_cons, spill_nil, spill_cons, puts_nil, puts_cons, bT_var, done_next, done_ret, done_next1, done_ret1, eb_len, eb_abs, eb_int, eb_str, eb_list, eb_tuple, eb_dict, eb_sum, eb_min, eb_max, eb_any, eb_all, eb_sorted, eb_sortedSet, eb_lenSet, eb_listRange, eb_tupRange, eb_tupEnum, eb_tupZip, eb_listZip, eb_newDict, eb_newDicT, eb_isinst, es_aug, ev_mtl, ev_mtt, ev_mtq, ev_mtd, ev_alt, alt_ok, alt_stuck, eb_minD, eb_maxD, eb_sortedTxt, eb_sortedSetS, eb_sumL, eb_listTxt, h0, tru_b, len_s, le_i]
  by_cases h : a ≤ s.length
  · rw [decide_eq_true h]
    simp only [ok_bind, get_z, get_s, put_z, put_s, List.set_cons_zero, List.set_cons_succ, List.length_cons, List.length_nil, if_true, ev_var, ev_k, ev_g, ev_bin, ev_cmp, ev_cmp2, ev_neg, ev_not, ev_and, ev_or, ev_ite, ev_tup, ev_lst, ev_idx, ev_slc, ev_rev, ev_call, ev_repr, ev_mth, ev_mtc, evs_nil, evs_cons, evi_e, evi_rng, evi_enum, evi_zip, es_set, es_unp, es_par, es_sti, es_ex, es_ret, es_ret0, es_pass, es_brk, es_ifs, es_loop, ess_nil, ess_cons, orS_some, fill_nil, fill_cons, spill_nil, spill_cons, puts_nil, puts_cons, bT_var, done_next, done_ret, done_next1, done_ret1, eb_len, eb_abs, eb_int, eb_str, eb_list, eb_tuple, eb_dict, eb_sum, eb_min, eb_max, eb_any, eb_all, eb_sorted, eb_sortedSet, eb_lenSet, eb_listRange, eb_tupRange, eb_tupEnum, eb_tupZip, eb_listZip, eb_newDict, eb_newDicT, eb_isinst, es_aug, ev_mtl, ev_mtt, ev_mtq, ev_mtd, ev_alt, alt_ok, alt_stuck, eb_minD, eb_maxD, eb_sortedTxt, eb_sortedSetS, eb_sumL, eb_listTxt, tru_b]
    by_cases h2 : (s.length : Int) ≤ b
    · rw [decide_eq_true h2]
      simp only [ok_bind, get_z, get_s, put_z, put_s, List.set_cons_zero, List.set_cons_succ, List.length_cons, List.length_nil, if_true, ev_var, ev_k, ev_g, ev_bin, ev_cmp, ev_cmp2, ev_neg, ev_not, ev_and, ev_or, ev_ite, ev_tup, ev_lst, ev_idx, ev_slc, ev_rev, ev_call, ev_repr, ev_mth, ev_mtc, evs_nil, evs_cons, evi_e, evi_rng, evi_enum, evi_zip, es_set, es_unp, es_par, es_sti, es_ex, es_ret, es_ret0, es_pass, es_brk, es_ifs, es_loop, ess_nil, ess_cons, orS_some, fill_nil, fill_cons, spill_nil, spill_cons, puts_nil, puts_cons, bT_var, done_next, done_ret, done_next1, done_ret1, eb_len, eb_abs, eb_int, eb_str, eb_list, eb_tuple, eb_dict, eb_sum, eb_min, eb_max, eb_any, eb_all, eb_sorted, eb_sortedSet, eb_lenSet, eb_listRange, eb_tupRange, eb_tupEnum, eb_tupZip, eb_listZip, eb_newDict, eb_newDicT, eb_isinst, es_aug, ev_mtl, ev_mtt, ev_mtq, ev_mtd, ev_alt, alt_ok, alt_stuck, eb_minD, eb_maxD, eb_sortedTxt, eb_sortedSetS, eb_sumL, eb_listTxt, e, all_true, h, h2, and_self, decide_true]
    · rw [decide_eq_false h2]
      simp only [Bool.false_eq_true, if_false, ok_bind, get_z, get_s, put_z, put_s, List.set_cons_zero, List.set_cons_succ, List.length_cons, List.length_nil, if_true, ev_var, ev_k, ev_g, ev_bin, ev_cmp, ev_cmp2, ev_neg, ev_not, ev_and, ev_or, ev_ite, ev_tup, ev_lst, ev_idx, ev_slc, ev_rev, ev_call, ev_repr, ev_mth, ev_mtc, evs_nil, evs_cons, evi_e, evi_rng, evi_enum, evi_zip, es_set, es_unp, es_par, es_sti, es_ex, es_ret, es_ret0, es_pass, es_brk, es_ifs, es_loop, ess_nil, ess_cons, orS_some, fill_nil, fill_cons, spill_nil, spill_cons, puts_nil, puts_cons, bT_var, done_next, done_ret, done_next1, done_ret1, eb_len, eb_abs, eb_int, eb_str, eb_list, eb_tuple, eb_dict, eb_sum, eb_min, eb_max, eb_any, eb_all, eb_sorted, eb_sortedSet, eb_lenSet, eb_listRange, eb_tupRange, eb_tupEnum, eb_tupZip, eb_listZip, eb_newDict, eb_newDicT, eb_isinst, es_aug, ev_mtl, ev_mtt, ev_mtq, ev_mtd, ev_alt, alt_ok, alt_stuck, eb_minD, eb_maxD, eb_sortedTxt, eb_sortedSetS, eb_sumL, eb_listTxt, tru_b, h2, and_false, decide_false]
  · rw [decide_eq_false h]
    simp only [Bool.false_eq_true, if_false, ok_bind, get_z, get_s, put_z, put_s, List.set_cons_zero, List.set_cons_succ, List.length_cons, List.length_nil, if_true, ev_var, ev_k, ev_g, ev_bin, ev_cmp, ev_cmp2, ev_neg, ev_not, ev_and, ev_or, ev_ite, ev_tup, ev_lst, ev_idx, ev_slc, ev_rev, ev_call, ev_repr, ev_mth, ev_mtc, evs_nil, evs_cons, evi_e, evi_rng, evi_enum, evi_zip, es_set, es_unp, es_par, es_sti, es_ex, es_ret, es_ret0, es_pass, es_brk, es_ifs, es_loop, ess_nil, ess_cons, orS_some, fill_nil, fill_cons, spill_nil, spill_cons, puts_nil, puts_cons, bT_var, done_next, done_ret, done_next1, done_ret1, eb_len, eb_abs, eb_int, eb_str, eb_list, eb_tuple, eb_dict, eb_sum, eb_min, eb_max, eb_any, eb_all, eb_sorted, eb_sortedSet, eb_lenSet, eb_listRange, eb_tupRange, eb_tupEnum, eb_tupZip, eb_listZip, eb_newDict, eb_newDicT, eb_isinst, es_aug, ev_mtl, ev_mtt, ev_mtq, ev_mtd, ev_alt, alt_ok, alt_stuck, eb_minD, eb_maxD, eb_sortedTxt, eb_sortedSetS, eb_sumL, eb_listTxt, tru_b, h, false_and, decide_false]
end
end ME
/-! MiniPy: values that are alike, sorting, slices, dicts of flags (plain Lean) -/
namespace ME
open MP
mutual
theorem veq_refl : ∀ {n : Nat} (v : Val), shp n v = true → veq v v = true
  | _, .none, _ => rfl
  | _, .bool b, _ => by simp [veq]
  | _, .int i, _ => by simp [veq]
  | _, .str s, _ => by simp [veq]
  | n, .txt _, h => by cases n <;> cases h
  | 0, .tup _, h => by cases h
  | 0, .lst _, h => by cases h
  | n + 1, .tup vs, h => by
    show veqs vs vs = true
    exact veqs_refl (n := n) vs h
  | n + 1, .lst vs, h => by
    show veqs vs vs = true
    exact veqs_refl (n := n) vs h
  | 0, .dict _, h => by cases h
  | n + 1, .dict _, h => by cases h
  | 0, .dicT _, h => by cases h
  | n + 1, .dicT _, h => by cases h
  | 0, .fn _, h => by cases h
  | n + 1, .fn _, h => by cases h
theorem veqs_refl : ∀ {n : Nat} (vs : List Val), shps n vs = true → veqs vs vs = true
  | _, [], _ => rfl
  | n, v :: vs, h => by
    have h : (shp n v && shps n vs) = true := h
    rw [Bool.and_eq_true] at h
    show (veq v v && veqs vs vs) = true
    rw [veq_refl v h.1, veqs_refl vs h.2]; rfl
end
theorem ne_same {v : Val} (h : shp 60 v = true) : cmp .ne v v = .ok (.bool false) := by
  show (eqR v v).bind _ = _
  have : eqR v v = .ok true := by
    cases v with
    | txt s => cases h
    | _ =>
      unfold eqR eqOk
      simp only [h, Bool.and_self, if_true, veq_refl _ h]
  rw [this]; rfl
theorem eq_same {v : Val} (h : shp 60 v = true) : cmp .eq v v = .ok (.bool true) := by
  show (eqR v v).bind _ = _
  have : eqR v v = .ok true := by
    cases v with
    | txt s => cases h
    | _ =>
      unfold eqR eqOk
      simp only [h, Bool.and_self, if_true, veq_refl _ h]
  rw [this]; rfl
theorem ne_txt {s : List Nat} : cmp .ne (.txt s) (.txt s) = .ok (.bool false) := by
  show Res.ok (Val.bool (!(s == s))) = _
  rw [beq_self_eq_true]; rfl
theorem shps_map {α : Type} {n : Nat} {f : α → Val} : ∀ {l : List α}, (∀ x ∈ l, shp n (f x) = true) → shps n (l.map f) = true
  | [], _ => by cases n <;> rfl
  | x :: l, h => by
    show (shp n (f x) && shps n (l.map f)) = true
    rw [h x List.mem_cons_self, shps_map fun y hy => h y (List.mem_cons_of_mem _ hy)]; rfl
theorem ints12s_map {α : Type} {f : α → Val} : ∀ {l : List α}, (∀ x ∈ l, ints12 (f x) = true) → ints12s (l.map f) = true
  | [], _ => rfl
  | x :: l, h => by
    show (ints12 (f x) && ints12s (l.map f)) = true
    rw [h x List.mem_cons_self, ints12s_map fun y hy => h y (List.mem_cons_of_mem _ hy)]; rfl
theorem wgts_map {α : Type} {f : α → Val} {c : Nat} : ∀ {l : List α}, (∀ x ∈ l, wgt (f x) ≤ c) → wgts (l.map f) ≤ l.length * (c + 1)
  | [], _ => Nat.zero_le _
  | x :: l, h => by
    have h1 := h x List.mem_cons_self
    have h2 := wgts_map (l := l) fun y hy => h y (List.mem_cons_of_mem _ hy)
    show wgt (f x) + 1 + wgts (l.map f) ≤ (l.length + 1) * (c + 1)
    rw [Nat.add_mul]; omega
theorem shp_int {n : Nat} {i : Int} : shp n (.int i) = true := by cases n <;> rfl
theorem shp_str {n : Nat} {s : List Nat} : shp n (.str s) = true := by cases n <;> rfl
theorem shp_bool {n : Nat} {b : Bool} : shp n (.bool b) = true := by cases n <;> rfl
theorem mem_tup {x : Val} {ys : List Val} (h : x ∈ ys) (hy : shps 60 ys = true) (hx : shp 60 x = true) : cmp .mem x (.tup ys) = .ok (.bool true) := by
  show (if (shp 60 x && shps 60 ys) = true then Res.ok (contains x ys) else Res.stuck).bind _ = _
  rw [hx, hy]
  have : contains x ys = true := List.any_eq_true.mpr ⟨x, h, veq_refl x hx⟩
  show Res.ok (Val.bool (contains x ys)) = _
  rw [this]
/-! ### slices -/
theorem cut_nat {α : Type} {xs : List α} {a b : Nat} (h : a ≤ b) (hb : b ≤ xs.length) : cut xs (.int a) (.int b) = some ((xs.drop a).take (b - a)) := by
  unfold cut clip
  have h1 : ¬ ((a : Int) < 0) := by omega
  have h2 : ¬ ((b : Int) < 0) := by omega
  simp only [h1, h2, if_false, Int.toNat_natCast]
  rw [Nat.min_eq_left (by omega), Nat.min_eq_left hb]
  rfl
theorem cut_from {α : Type} {xs : List α} {a : Nat} : cut xs (.int a) .none = some (xs.drop a) := by
  unfold cut clip
  have h1 : ¬ ((a : Int) < 0) := by omega
  simp only [h1, if_false, Int.toNat_natCast]
  show some ((xs.drop (min a xs.length)).take (xs.length - min a xs.length)) = _
  rcases Nat.le_total a xs.length with h | h
  · rw [Nat.min_eq_left h, List.take_of_length_le (by rw [List.length_drop]; exact Nat.le_refl _)]
  · rw [Nat.min_eq_right h, List.drop_of_length_le (Nat.le_refl _), List.drop_of_length_le h, List.take_nil]
theorem cut_upto {α : Type} {xs : List α} {b : Nat} : cut xs .none (.int b) = some (xs.take b) := by
  unfold cut clip
  have h1 : ¬ ((b : Int) < 0) := by omega
  simp only [h1, if_false, Int.toNat_natCast]
  show some ((xs.drop 0).take (min b xs.length - 0)) = _
  rw [List.drop_zero, Nat.sub_zero]
  rcases Nat.le_total b xs.length with h | h
  · rw [Nat.min_eq_left h]
  · rw [Nat.min_eq_right h, List.take_of_length_le (Nat.le_refl _), List.take_of_length_le h]
theorem slc_str {s : List Nat} {a b : Nat} (h : a ≤ b) (hb : b ≤ s.length) : slc (.str s) (.int a) (.int b) = .ok (.str ((s.drop a).take (b - a))) := by
  show orStuck ((cut s (.int a) (.int b)).map Val.str) = _
  rw [cut_nat h hb]; rfl
theorem slc_lst {vs : List Val} {a b : Nat} (h : a ≤ b) (hb : b ≤ vs.length) : slc (.lst vs) (.int a) (.int b) = .ok (.lst ((vs.drop a).take (b - a))) := by
  show orStuck ((cut vs (.int a) (.int b)).map Val.lst) = _
  rw [cut_nat h hb]; rfl
theorem slc_lst_from {vs : List Val} {a : Nat} : slc (.lst vs) (.int a) .none = .ok (.lst (vs.drop a)) := by
  show orStuck ((cut vs (.int a) .none).map Val.lst) = _
  rw [cut_from]; rfl
theorem slc_str_from {vs : List Nat} {a : Nat} : slc (.str vs) (.int a) .none = .ok (.str (vs.drop a)) := by
  show orStuck ((cut vs (.int a) .none).map Val.str) = _
  rw [cut_from]; rfl
theorem slc_str_upto {vs : List Nat} {a : Nat} : slc (.str vs) .none (.int a) = .ok (.str (vs.take a)) := by
  show orStuck ((cut vs .none (.int a)).map Val.str) = _
  rw [cut_upto]; rfl
theorem okp_int {i : Int} : okPart (.int i) = true := rfl
theorem okp_none : okPart .none = true := rfl
/-! ### ranges -/
theorem range1 {b : Int} (h : lim b = true) : range [.int b] = .ok (rngL 0 b.toNat) := if_pos h
theorem range2 {a b : Int} (h : lim a = true) (h2 : lim b = true) : range [.int a, .int b] = .ok (rngL a (b - a).toNat) := by
  show (if (lim a && lim b) = true then _ else _) = _
  rw [h, h2]; rfl
theorem lim_ofM {i : Int} (h : -1000000000 ≤ i) (h2 : i ≤ 1000000000) : lim i = true := by
  unfold lim
  rw [decide_eq_true h, decide_eq_true h2]; rfl
theorem rng0 (n : Nat) : rngL 0 n = (List.range n).map fun (i : Nat) => Val.int (i : Int) := by
  unfold rngL
  refine List.map_congr_left fun i _ => ?_
  rw [Int.zero_add]
/-! ### dicts of flags, kept for their keys -/
def keysD (ks : List Int) : List (Val × Val) := ks.foldl (fun d k => dput d (.int k) (.bool true)) []
theorem int_inj : ∀ {a b : Int}, veq (.int a) (.int b) = decide (a = b) := fun {a b} => by
  show (a == b) = _
  by_cases h : a = b
  · subst h; simp
  · rw [decide_eq_false h]; exact beq_false_of_ne h
theorem any_keys {ls : List Int} {n : Int} : ((ls.map fun k => (Val.int k, Val.bool true)).any fun kv => veq kv.1 (.int n)) = decide (n ∈ ls) := by
  induction ls with
  | nil => rfl
  | cons m ls ih =>
    rw [List.map_cons, List.any_cons, ih]
    show (veq (.int m) (.int n) || _) = _
    rw [int_inj]
    by_cases h : m = n
    · subst h; simp
    · rw [decide_eq_false h, Bool.false_or]
      by_cases h2 : n ∈ ls
      · rw [decide_eq_true h2, decide_eq_true (List.mem_cons_of_mem _ h2)]
      · rw [decide_eq_false h2, decide_eq_false]
        intro z
        rcases List.mem_cons.mp z with e | e
        · exact h e.symm
        · exact h2 e
theorem dput_keys {ls : List Int} {n : Int} : dput (ls.map fun k => (Val.int k, Val.bool true)) (.int n) (.bool true) = (if n ∈ ls then ls else ls ++ [n]).map fun k => (Val.int k, Val.bool true) := by
  unfold dput
  rw [any_keys]
  by_cases h : n ∈ ls
  · rw [decide_eq_true h, if_pos rfl, if_pos h, List.map_map]
    refine List.map_congr_left fun k _ => ?_
    show (if veq (.int k) (.int n) = true then (Val.int k, Val.bool true) else (Val.int k, Val.bool true)) = _
    split <;> rfl
  · rw [decide_eq_false h, if_neg Bool.false_ne_true, if_neg h, List.map_append]; rfl
theorem keysD_go (ks : List Int) : ∀ ls : List Int, ks.foldl (fun d k => dput d (.int k) (.bool true)) (ls.map fun k => (Val.int k, Val.bool true)) = (ks.foldl (fun acc n => if n ∈ acc then acc else acc ++ [n]) ls).map fun k => (Val.int k, Val.bool true) := by
  induction ks with
  | nil => intro ls; rfl
  | cons k ks ih =>
    intro ls
    rw [List.foldl_cons, List.foldl_cons, dput_keys, ih]
theorem keysD_eq (ks : List Int) : keysD ks = (dedupI ks).map fun k => (Val.int k, Val.bool true) := keysD_go ks []
theorem keysD_snoc (ks : List Int) (k : Int) : keysD (ks ++ [k]) = dput (keysD ks) (.int k) (.bool true) := by
  unfold keysD
  rw [List.foldl_append]; rfl
theorem dedupI_go (ks : List Int) : ∀ ls : List Int, ls.Nodup → (ks.foldl (fun acc n => if n ∈ acc then acc else acc ++ [n]) ls).Nodup ∧ (∀ n, n ∈ ks.foldl (fun acc n => if n ∈ acc then acc else acc ++ [n]) ls ↔ n ∈ ls ∨ n ∈ ks) ∧ (ks.foldl (fun acc n => if n ∈ acc then acc else acc ++ [n]) ls).length ≤ ls.length + ks.length := by
  induction ks with
  | nil => intro ls h; exact ⟨h, fun n => by simp, by simp⟩
  | cons k ks ih =>
    intro ls h
    rw [List.foldl_cons]
    by_cases hk : k ∈ ls
    · rw [if_pos hk]
      obtain ⟨a, b, c⟩ := ih ls h
      refine ⟨a, fun n => ?_, by rw [List.length_cons]; omega⟩
      rw [b n, List.mem_cons]
      constructor
      · rintro (z | z)
        · exact .inl z
        · exact .inr (.inr z)
      · rintro (z | rfl | z)
        · exact .inl z
        · exact .inl hk
        · exact .inr z
    · rw [if_neg hk]
      obtain ⟨a, b, c⟩ := ih (ls ++ [k]) (List.nodup_append.mpr ⟨h, by simp, fun x hx y hy => by rw [List.mem_singleton.mp hy]; exact fun z => hk (z ▸ hx)⟩)
      refine ⟨a, fun n => ?_, by rw [List.length_append] at c; simp at c ⊢; omega⟩
      rw [b n, List.mem_append, List.mem_singleton, List.mem_cons]
      constructor
      · rintro ((z | z) | z)
        · exact .inl z
        · exact .inr (.inl z)
        · exact .inr (.inr z)
      · rintro (z | z | z)
        · exact .inl (.inl z)
        · exact .inl (.inr z)
        · exact .inr z
theorem dedupI_nodup (ks : List Int) : (dedupI ks).Nodup := (dedupI_go ks [] List.nodup_nil).1
theorem mem_dedupI {ks : List Int} {n : Int} : n ∈ dedupI ks ↔ n ∈ ks := by
  refine ((dedupI_go ks [] List.nodup_nil).2.1 n).trans ⟨fun z => z.elim (fun z => nomatch z) id, .inr⟩
theorem dedupI_len (ks : List Int) : (dedupI ks).length ≤ ks.length := by
  exact Nat.le_trans (dedupI_go ks [] List.nodup_nil).2.2 (Nat.le_of_eq (Nat.zero_add _))
/-- the unlike ones, ascending -/
def sortD (ks : List Int) : List Int := (dedupI ks).mergeSort leI
theorem mem_sortD {ks : List Int} {n : Int} : n ∈ sortD ks ↔ n ∈ ks := by
  unfold sortD
  rw [List.mem_mergeSort, mem_dedupI]
theorem sortD_len (ks : List Int) : (sortD ks).length ≤ ks.length := by
  unfold sortD
  rw [List.length_mergeSort]; exact dedupI_len ks
theorem leI_trans (a b c : Int) (h : leI a b = true) (h2 : leI b c = true) : leI a c = true := by
  unfold leI at *
  rw [decide_eq_true_eq] at *
  omega
theorem leI_total (a b : Int) : (leI a b || leI b a) = true := by
  unfold leI
  rw [Bool.or_eq_true, decide_eq_true_eq, decide_eq_true_eq]
  omega
theorem sortD_asc (ks : List Int) : (sortD ks).Pairwise (· < ·) := by
  have h1 : (sortD ks).Pairwise (fun a b => leI a b = true) := List.pairwise_mergeSort leI_trans leI_total _
  have h2 : (sortD ks).Nodup := (List.mergeSort_perm (dedupI ks) leI).nodup_iff.mpr (dedupI_nodup ks)
  have h3 := h1.and h2
  refine h3.imp fun {a b} ⟨x, y⟩ => ?_
  unfold leI at x
  rw [decide_eq_true_eq] at x
  omega
/-- two ascending lists with the same members are the same -/
theorem asc_ext : ∀ {xs ys : List Int}, xs.Pairwise (· < ·) → ys.Pairwise (· < ·) → (∀ n, n ∈ xs ↔ n ∈ ys) → xs = ys
  | [], [], _, _, _ => rfl
  | [], y :: ys, _, _, h => by have := (h y).mpr List.mem_cons_self; cases this
  | x :: xs, [], _, _, h => by have := (h x).mp List.mem_cons_self; cases this
  | x :: xs, y :: ys, hx, hy, h => by
    obtain ⟨x1, x2⟩ := List.pairwise_cons.mp hx
    obtain ⟨y1, y2⟩ := List.pairwise_cons.mp hy
    have e : x = y := by
      rcases List.mem_cons.mp ((h x).mp List.mem_cons_self) with e | e
      · exact e
      · rcases List.mem_cons.mp ((h y).mpr List.mem_cons_self) with e2 | e2
        · exact e2.symm
        · have := y1 x e; have := x1 y e2; omega
    subst e
    congr 1
    refine asc_ext x2 y2 fun n => ?_
    constructor
    · intro m
      rcases List.mem_cons.mp ((h n).mp (List.mem_cons_of_mem _ m)) with e | e
      · have := x1 n m; omega
      · exact e
    · intro m
      rcases List.mem_cons.mp ((h n).mpr (List.mem_cons_of_mem _ m)) with e | e
      · have := y1 n m; omega
      · exact e
theorem sortD_congr {ks ls : List Int} (h : ∀ n, n ∈ ks ↔ n ∈ ls) : sortD ks = sortD ls := asc_ext (sortD_asc ks) (sortD_asc ls) fun n => by rw [mem_sortD, mem_sortD]; exact h n

theorem sortD_by {ks ys : List Int} (h : ys.Pairwise (· < ·)) (h1 : (ks.all fun k => ys.contains k) = true) (h2 : (ys.all fun k => ks.contains k) = true) : sortD ks = ys :=
  asc_ext (sortD_asc ks) h fun n => by
    rw [mem_sortD]
    exact ⟨fun z => List.contains_iff_mem.mp (List.all_eq_true.mp h1 n z), fun z => List.contains_iff_mem.mp (List.all_eq_true.mp h2 n z)⟩
theorem sort_intsP (ns : List Int) : (ns.map Val.int).mergeSort le' = (ns.mergeSort leI).map Val.int :=
  (List.map_mergeSort fun a _ b _ => by
    show leI a b = !decide (b < a)
    unfold leI
    by_cases h : a ≤ b
    · rw [decide_eq_true h, decide_eq_false (by omega)]; rfl
    · rw [decide_eq_false h, decide_eq_true (by omega)]; rfl).symm
theorem sorted_ints (ns : List Int) : sorted (ns.map Val.int) = .ok ((ns.mergeSort leI).map Val.int) := by
  have a1 : allAlike (ns.map Val.int) = true := List.all_eq_true.mpr fun a ha => List.all_eq_true.mpr fun b hb => by
    obtain ⟨x, _, rfl⟩ := List.mem_map.mp ha
    obtain ⟨y, _, rfl⟩ := List.mem_map.mp hb
    rfl
  have a2 : shps 60 (ns.map Val.int) = true := shps_map fun x _ => shp_int
  have a3 : sortable (ns.map Val.int) = true := by
    unfold sortable
    rw [Bool.or_eq_true]
    refine .inr (List.all_eq_true.mpr fun a ha => ?_)
    obtain ⟨x, _, rfl⟩ := List.mem_map.mp ha
    rfl
  unfold sorted
  rw [a1, a2, a3, sort_intsP]
  rfl
theorem sorted_keysD {ks : List Int} (h : (dedupI ks).length < 64) : blt .sorted [.dict (keysD ks)] = .ok (.lst ((sortD ks).map Val.int)) := by
  have e : (keysD ks).map (·.1) = (dedupI ks).map Val.int := by
    rw [keysD_eq, List.map_map]; rfl
  have hl : (keysD ks).length < 64 := by rw [keysD_eq, List.length_map]; exact h
  show (if (keysD ks).length < 64 then (sorted ((keysD ks).map (·.1))).bind fun r => Res.ok (Val.lst r) else .stuck) = _
  rw [if_pos hl, e, sorted_ints]
  rfl
theorem allInts_mapM (ns : List Int) : allInts (ns.map Val.int) = some ns := by
  induction ns with
  | nil => rfl
  | cons n ns ih =>
    show (allInts (ns.map Val.int)).map (n :: ·) = _
    rw [ih]; rfl
theorem sortedSet_ints {ks : List Int} (h : (dedupI ks).length < 64) (h2 : ks.length ≤ 4000) : blt .sortedSet [.lst (ks.map Val.int)] = .ok (.lst ((sortD ks).map Val.int)) := by
  show (orStuck (allInts (ks.map Val.int))).bind _ = _
  rw [allInts_mapM]
  exact if_pos ⟨h2, h⟩
theorem find_abc {c : Nat} (h : 97 ≤ c ∧ c < 123) : mth .index (.str abc) [.str [c]] = .ok (.int ((c : Int) - 97)) := by
  have key : ∀ c, c < 123 → 97 ≤ c → findStr [c] 0 abc = some (c - 97) := by decide
  show (orStuck (findStr [c] 0 abc)).bind _ = _
  rw [key c h.2 h.1]
  show Res.ok (Val.int ((c - 97 : Nat) : Int)) = _
  rw [show ((c - 97 : Nat) : Int) = (c : Int) - 97 by omega]
theorem tuple_l {vs : List Val} : blt .tuple [.lst vs] = .ok (.tup vs) := rfl
end ME
/-! MiniPy: how far two texts are, by weights (plain Lean) -/
namespace ME
open MP
/-- the least cost: texts from their ends; w: one letter put or dropped; s: one changed -/
def lev (s : Nat → Nat → Int) (w : Int) : List Nat → List Nat → Int
  | [], ys => w * ys.length
  | x :: xs, [] => w * (x :: xs).length
  | x :: xs, y :: ys => min (min (lev s w xs (y :: ys) + w) (lev s w (x :: xs) ys + w)) (lev s w xs ys + s x y)
  termination_by xs ys => xs.length + ys.length
section
variable {s : Nat → Nat → Int} {w : Int}
theorem lev_nil (ys : List Nat) : lev s w [] ys = w * ys.length := by unfold lev; rfl
theorem lev_nil2 (xs : List Nat) : lev s w xs [] = w * xs.length := by
  cases xs with
  | nil => unfold lev; rfl
  | cons x xs => unfold lev; rfl
theorem lev_cons (x : Nat) (xs : List Nat) (y : Nat) (ys : List Nat) : lev s w (x :: xs) (y :: ys) = min (min (lev s w xs (y :: ys) + w) (lev s w (x :: xs) ys + w)) (lev s w xs ys + s x y) := by
  rw [lev]
theorem lev_symm (hs : ∀ x y, s x y = s y x) : ∀ (n : Nat) (xs ys : List Nat), xs.length + ys.length ≤ n → lev s w xs ys = lev s w ys xs
  | _, [], ys, _ => by rw [lev_nil, lev_nil2]
  | _, x :: xs, [], _ => by rw [lev_nil, lev_nil2]
  | n + 1, x :: xs, y :: ys, h => by
    simp only [List.length_cons] at h
    rw [lev_cons, lev_cons, lev_symm hs n xs (y :: ys) (by simp; omega), lev_symm hs n (x :: xs) ys (by simp; omega), lev_symm hs n xs ys (by omega), hs x y]
    omega
  | 0, x :: xs, y :: ys, h => by simp only [List.length_cons] at h; omega
theorem lev_pos (h0 : ∀ x y, 0 ≤ s x y) (hw : 0 ≤ w) : ∀ (n : Nat) (xs ys : List Nat), xs.length + ys.length ≤ n → 0 ≤ lev s w xs ys
  | _, [], ys, _ => by rw [lev_nil]; exact Int.mul_nonneg hw (by omega)
  | _, x :: xs, [], _ => by rw [lev_nil2]; exact Int.mul_nonneg hw (by omega)
  | n + 1, x :: xs, y :: ys, h => by
    simp only [List.length_cons] at h
    have h1 := lev_pos h0 hw n xs (y :: ys) (by simp; omega)
    have h2 := lev_pos h0 hw n (x :: xs) ys (by simp; omega)
    have h3 := lev_pos h0 hw n xs ys (by omega)
    have h4 := h0 x y
    rw [lev_cons]; omega
  | 0, x :: xs, y :: ys, h => by simp only [List.length_cons] at h; omega
theorem mul_succ_len (w : Int) (x : Nat) (xs : List Nat) : w * (x :: xs).length = w * xs.length + w := by
  rw [List.length_cons, show ((xs.length + 1 : Nat) : Int) = (xs.length : Int) + 1 by omega, Int.mul_add, Int.mul_one]
/-- the length that is left -/
theorem lev_len (h0 : ∀ x y, 0 ≤ s x y) (hw : 0 ≤ w) : ∀ (n : Nat) (xs ys : List Nat), xs.length + ys.length ≤ n → w * ys.length ≤ w * xs.length + lev s w xs ys
  | _, [], ys, _ => by rw [lev_nil]; simp
  | _, x :: xs, [], _ => by
    have := Int.mul_nonneg hw (show (0 : Int) ≤ ((x :: xs).length : Int) by omega)
    rw [lev_nil2]; simp only [List.length_nil]; omega
  | n + 1, x :: xs, y :: ys, h => by
    simp only [List.length_cons] at h
    have h1 := lev_len h0 hw n xs (y :: ys) (by simp; omega)
    have h2 := lev_len h0 hw n (x :: xs) ys (by simp; omega)
    have h3 := lev_len h0 hw n xs ys (by omega)
    have h4 := h0 x y
    rw [mul_succ_len] at h1 h2 ⊢
    rw [mul_succ_len]
    rw [lev_cons]; omega
  | 0, x :: xs, y :: ys, h => by simp only [List.length_cons] at h; omega
theorem lev_le (hw : 0 ≤ w) : ∀ (n : Nat) (xs ys : List Nat), xs.length + ys.length ≤ n → lev s w xs ys ≤ w * xs.length + w * ys.length
  | _, [], ys, _ => by rw [lev_nil]; simp
  | _, x :: xs, [], _ => by rw [lev_nil2]; simp
  | n + 1, x :: xs, y :: ys, h => by
    simp only [List.length_cons] at h
    have h1 := lev_le hw n xs (y :: ys) (by simp; omega)
    rw [lev_cons, mul_succ_len w x xs]
    omega
  | 0, x :: xs, y :: ys, h => by simp only [List.length_cons] at h; omega
theorem lev_tri (h0 : ∀ x y, 0 ≤ s x y) (ht : ∀ x y z, s x z ≤ s x y + s y z) (hs : ∀ x y, s x y = s y x) (hw : 0 ≤ w) : ∀ (n : Nat) (xs ys zs : List Nat), xs.length + ys.length + zs.length ≤ n → lev s w xs zs ≤ lev s w xs ys + lev s w ys zs
  | _, xs, [], zs, _ => by
    rw [lev_nil, lev_nil2]
    exact lev_le hw _ xs zs (Nat.le_refl _)
  | _, [], ys, zs, _ => by
    rw [lev_nil, lev_nil]
    exact lev_len h0 hw _ ys zs (Nat.le_refl _)
  | _, xs, ys, [], _ => by
    rw [lev_nil2, lev_nil2, lev_symm hs _ xs ys (Nat.le_refl _)]
    have := lev_len h0 hw _ ys xs (Nat.le_refl _)
    omega
  | n + 1, x :: xs, y :: ys, z :: zs, h => by
    simp only [List.length_cons] at h
    have a1 := lev_tri h0 ht hs hw n xs (y :: ys) (z :: zs) (by simp; omega)
    have a2 := lev_tri h0 ht hs hw n (x :: xs) (y :: ys) zs (by simp; omega)
    have a3 := lev_tri h0 ht hs hw n (x :: xs) ys (z :: zs) (by simp; omega)
    have a4 := lev_tri h0 ht hs hw n (x :: xs) ys zs (by simp; omega)
    have a5 := lev_tri h0 ht hs hw n xs ys (z :: zs) (by simp; omega)
    have a6 := lev_tri h0 ht hs hw n xs ys zs (by omega)
    have t := ht x y z
    have p1 := h0 x y
    have p2 := h0 y z
    have e1 := lev_cons (s := s) (w := w) x xs y ys
    have e2 := lev_cons (s := s) (w := w) y ys z zs
    have e3 := lev_cons (s := s) (w := w) x xs z zs
    omega
  | 0, x :: xs, y :: ys, z :: zs, h => by simp only [List.length_cons] at h; omega
/-- letter by letter -/
def slip (s : Nat → Nat → Int) (xs ys : List Nat) : Int := ((xs.zip ys).map fun u => s u.1 u.2).sum
theorem lev_slip : ∀ (xs ys as bs : List Nat), xs.length = ys.length → lev s w (xs.reverse ++ as) (ys.reverse ++ bs) ≤ lev s w as bs + slip s xs ys
  | [], [], as, bs, _ => by simp [slip]
  | [], _ :: _, _, _, h => by simp at h
  | _ :: _, [], _, _, h => by simp at h
  | x :: xs, y :: ys, as, bs, h => by
    have ih := lev_slip xs ys (x :: as) (y :: bs) (by simpa using h)
    have e := lev_cons (s := s) (w := w) x as y bs
    have e2 : slip s (x :: xs) (y :: ys) = s x y + slip s xs ys := by simp [slip]
    rw [List.reverse_cons, List.reverse_cons, List.append_assoc, List.append_assoc, e2]
    have ih : lev s w (xs.reverse ++ ([x] ++ as)) (ys.reverse ++ ([y] ++ bs)) ≤ _ := ih
    omega
/-- nothing to do: the same text -/
theorem lev_zero (h0 : ∀ x y, 0 ≤ s x y) (hz : ∀ x y, s x y = 0 ↔ x = y) (hw : 0 < w) : ∀ (n : Nat) (xs ys : List Nat), xs.length + ys.length ≤ n → (lev s w xs ys = 0 ↔ xs = ys)
  | _, [], [], _ => by rw [lev_nil]; simp
  | _, [], y :: ys, _ => by
    rw [lev_nil, mul_succ_len]
    have := Int.mul_nonneg (Int.le_of_lt hw) (show (0 : Int) ≤ (ys.length : Int) by omega)
    constructor
    · intro z; omega
    · intro z; cases z
  | _, x :: xs, [], _ => by
    rw [lev_nil2, mul_succ_len]
    have := Int.mul_nonneg (Int.le_of_lt hw) (show (0 : Int) ≤ (xs.length : Int) by omega)
    constructor
    · intro z; omega
    · intro z; cases z
  | n + 1, x :: xs, y :: ys, h => by
    simp only [List.length_cons] at h
    have h1 := lev_pos h0 (Int.le_of_lt hw) n xs (y :: ys) (by simp; omega)
    have h2 := lev_pos h0 (Int.le_of_lt hw) n (x :: xs) ys (by simp; omega)
    have h3 := lev_pos h0 (Int.le_of_lt hw) n xs ys (by omega)
    have ih := lev_zero h0 hz hw n xs ys (by omega)
    have h4 := h0 x y
    rw [lev_cons]
    constructor
    · intro z
      have e1 : lev s w xs ys = 0 := by omega
      have e2 : s x y = 0 := by omega
      rw [ih.mp e1, (hz x y).mp e2]
    · intro z
      injection z with z1 z2
      have e1 := ih.mpr z2
      have e2 := (hz x y).mpr z1
      omega
  | 0, x :: xs, y :: ys, h => by simp only [List.length_cons] at h; omega
/-- a row of the table: behind pre of one text, behind each beginning of the other -/
def levRow (s : Nat → Nat → Int) (w : Int) (pre other : List Nat) (n : Nat) : List Int := (List.range n).map fun j => lev s w pre.reverse (other.take j).reverse
theorem levRow_get {pre other : List Nat} {n j : Nat} (h : j < n) : (levRow s w pre other n).getD j 0 = lev s w pre.reverse (other.take j).reverse := by
  unfold levRow
  rw [List.getD_eq_getElem?_getD, List.getElem?_map, List.getElem?_range h]; rfl
theorem levRow_len {pre other : List Nat} {n : Nat} : (levRow s w pre other n).length = n := by simp [levRow]
theorem levRow_snoc {pre other : List Nat} {n : Nat} : levRow s w pre other (n + 1) = levRow s w pre other n ++ [lev s w pre.reverse (other.take n).reverse] := by
  unfold levRow
  rw [List.range_succ, List.map_append]; rfl
theorem levRow_nil {other : List Nat} {n : Nat} (h : n ≤ other.length + 1) : levRow s w [] other n = (List.range n).map fun (j : Nat) => w * (j : Int) := by
  unfold levRow
  refine List.map_congr_left fun j hj => ?_
  have := List.mem_range.mp hj
  rw [List.reverse_nil, lev_nil, List.length_reverse, List.length_take, Nat.min_eq_left (by omega)]
theorem levRow_one {pre other : List Nat} : levRow s w pre other 1 = [w * pre.length] := by
  unfold levRow
  show [lev s w pre.reverse (other.take 0).reverse] = _
  rw [List.take_zero, List.reverse_nil, lev_nil2, List.length_reverse]
theorem lev_step {pre other : List Nat} {c d : Nat} {j : Nat} (hd : other[j]? = some d) : lev s w (pre ++ [c]).reverse (other.take (j + 1)).reverse =
    min (min (lev s w pre.reverse (other.take (j + 1)).reverse + w) (lev s w (pre ++ [c]).reverse (other.take j).reverse + w)) (lev s w pre.reverse (other.take j).reverse + s c d) := by
  have e : other.take (j + 1) = other.take j ++ [d] := by rw [List.take_add_one, hd]; rfl
  rw [e, List.reverse_append, List.reverse_append]
  exact lev_cons c pre.reverse d (other.take j).reverse
end
end ME
/-! MiniPy: what more laws share: _law_is, _law_word (plain Lean) -/
namespace ME
open MP
theorem all26 {p : Nat → Prop} (h : ∀ k, k < 26 → p (97 + k)) {c : Nat} (h1 : 97 ≤ c ∧ c < 123) : p c := by
  have := h (c - 97) (by omega)
  rwa [show 97 + (c - 97) = c by omega] at this
/-- _law_is, itself at place f -/
def isD (f : Nat) : MP.Def := ⟨2, 4, [], (.cons (.ifs (.or (.blt (.isinst [.tuple]) (.cons (.var 1) .nil)) (.blt (.isinst [.list]) (.cons (.var 1) .nil)))
    (.cons (.ifs (.or (.cmp .ne (.blt (.isinst [.tuple]) (.cons (.var 0) .nil)) (.blt (.isinst [.tuple]) (.cons (.var 1) .nil))) (.cmp .ne (.blt (.isinst [.list]) (.cons (.var 0) .nil)) (.blt (.isinst [.list]) (.cons (.var 1) .nil)))) (.cons (.ret (.k (Val.bool false))) .nil) .nil)
    (.cons (.ret (.and (.cmp .eq (.blt .len (.cons (.var 0) .nil)) (.blt .len (.cons (.var 1) .nil))) (.blt .all (.cons (.lc (.call f (.cons (.var 2) (.cons (.var 3) .nil)) []) (.tup [(.var 2), (.var 3)]) (.zip (.var 0) (.var 1)) (.k (.bool true)) [2, 3]) .nil)))) .nil)) .nil)
  (.cons (.ifs (.or (.cmp .is (.var 1) (.k Val.none)) (.cmp .is (.var 0) (.k Val.none))) (.cons (.ret (.and (.cmp .is (.var 1) (.k Val.none)) (.cmp .is (.var 0) (.k Val.none)))) .nil) .nil)
  (.cons (.ifs (.or (.cmp .ne (.blt (.isinst [.bool]) (.cons (.var 0) .nil)) (.blt (.isinst [.bool]) (.cons (.var 1) .nil))) (.cmp .ne (.blt (.isinst [.int]) (.cons (.var 0) .nil)) (.blt (.isinst [.int]) (.cons (.var 1) .nil)))) (.cons (.ret (.k (Val.bool false))) .nil) .nil)
  (.cons (.ret (.and (.cmp .eq (.blt (.isinst [.str]) (.cons (.var 0) .nil)) (.blt (.isinst [.str]) (.cons (.var 1) .nil))) (.cmp .eq (.var 0) (.var 1)))) .nil))))⟩
theorem or_ff {G : Gl} {a b : E} {ρ : Env} (ha : evE G a ρ = .ok (.bool false, ρ)) (hb : evE G b ρ = .ok (.bool false, ρ)) : evE G (.or a b) ρ = .ok (.bool false, ρ) := by
  rw [ev_or, ha]
  exact hb
section
variable {P : Prog} {n f : Nat}
theorem is_int (hd : P.defs[f]? = some (isD f)) (i : Int) : callN P (n + 1) f [.int i, .int i] = .ok (.bool true, []) := by
  rw [callN_eq (ρ := [some (.int i), some (.int i), Option.none, Option.none]) hd rfl rfl]
  have e : cmp .eq (.int i) (.int i) = .ok (.bool true) := by rw [eq_i, beq_self_eq_true]
  have t1 : blt (.isinst [.tuple]) [.int i] = .ok (.bool false) := rfl
  have t2 : blt (.isinst [.list]) [.int i] = .ok (.bool false) := rfl
  have t3 : blt (.isinst [.bool]) [.int i] = .ok (.bool false) := rfl
  have t4 : blt (.isinst [.int]) [.int i] = .ok (.bool true) := rfl
  have t5 : blt (.isinst [.str]) [.int i] = .ok (.bool false) := rfl
  have i1 : cmp .is (.int i) .none = .ok (.bool false) := rfl
  have n1 : cmp .ne (.bool false) (.bool false) = .ok (.bool false) := rfl
  have n2 : cmp .ne (.bool true) (.bool true) = .ok (.bool false) := rfl
  have q1 : cmp .eq (.bool false) (.bool false) = .ok (.bool true) := rfl
  have q2 : cmp .eq (.bool true) (.bool true) = .ok (.bool true) := rfl
  rw [show (isD f).io = [] from rfl]
  unfold isD
  simp only [ess_cons, es_ifs, ev_or, eb_isinst, evs_cons, evs_nil, ev_var, ev_k, ok_bind, get_z, get_s, t1, t2, t3, t4, t5, i1, q1, q2, tru_b, Bool.false_eq_true, if_false, if_true, ev_cmp, n1, n2, ess_nil, es_ret, ev_and, e, done_ret]
theorem is_str (hd : P.defs[f]? = some (isD f)) (s : List Nat) : callN P (n + 1) f [.str s, .str s] = .ok (.bool true, []) := by
  rw [callN_eq (ρ := [some (.str s), some (.str s), Option.none, Option.none]) hd rfl rfl]
  have e : cmp .eq (.str s) (.str s) = .ok (.bool true) := eq_same shp_str
  have t1 : blt (.isinst [.tuple]) [.str s] = .ok (.bool false) := rfl
  have t2 : blt (.isinst [.list]) [.str s] = .ok (.bool false) := rfl
  have t3 : blt (.isinst [.bool]) [.str s] = .ok (.bool false) := rfl
  have t4 : blt (.isinst [.int]) [.str s] = .ok (.bool false) := rfl
  have t5 : blt (.isinst [.str]) [.str s] = .ok (.bool true) := rfl
  have i1 : cmp .is (.str s) .none = .ok (.bool false) := rfl
  have n1 : cmp .ne (.bool false) (.bool false) = .ok (.bool false) := rfl
  have n2 : cmp .ne (.bool true) (.bool true) = .ok (.bool false) := rfl
  have q1 : cmp .eq (.bool false) (.bool false) = .ok (.bool true) := rfl
  have q2 : cmp .eq (.bool true) (.bool true) = .ok (.bool true) := rfl
  rw [show (isD f).io = [] from rfl]
  unfold isD
  simp only [ess_cons, es_ifs, ev_or, eb_isinst, evs_cons, evs_nil, ev_var, ev_k, ok_bind, get_z, get_s, t1, t2, t3, t4, t5, i1, q1, q2, tru_b, Bool.false_eq_true, if_false, if_true, ev_cmp, n1, n2, ess_nil, es_ret, ev_and, e, done_ret]
theorem is_bool (hd : P.defs[f]? = some (isD f)) (b : Bool) : callN P (n + 1) f [.bool b, .bool b] = .ok (.bool true, []) := by
  rw [callN_eq (ρ := [some (.bool b), some (.bool b), Option.none, Option.none]) hd rfl rfl]
  have e : cmp .eq (.bool b) (.bool b) = .ok (.bool true) := eq_same shp_bool
  have t1 : blt (.isinst [.tuple]) [.bool b] = .ok (.bool false) := rfl
  have t2 : blt (.isinst [.list]) [.bool b] = .ok (.bool false) := rfl
  have t3 : blt (.isinst [.bool]) [.bool b] = .ok (.bool true) := rfl
  have t4 : blt (.isinst [.int]) [.bool b] = .ok (.bool true) := rfl
  have t5 : blt (.isinst [.str]) [.bool b] = .ok (.bool false) := rfl
  have i1 : cmp .is (.bool b) .none = .ok (.bool false) := rfl
  have n1 : cmp .ne (.bool false) (.bool false) = .ok (.bool false) := rfl
  have n2 : cmp .ne (.bool true) (.bool true) = .ok (.bool false) := rfl
  have q1 : cmp .eq (.bool false) (.bool false) = .ok (.bool true) := rfl
  have q2 : cmp .eq (.bool true) (.bool true) = .ok (.bool true) := rfl
  rw [show (isD f).io = [] from rfl]
  unfold isD
  simp only [ess_cons, es_ifs, ev_or, eb_isinst, evs_cons, evs_nil, ev_var, ev_k, ok_bind, get_z, get_s, t1, t2, t3, t4, t5, i1, q1, q2, tru_b, Bool.false_eq_true, if_false, if_true, ev_cmp, n1, n2, ess_nil, es_ret, ev_and, e, done_ret]
theorem zip_self {α : Type} (l : List α) : l.zip l = l.map fun x => (x, x) := by
  induction l with
  | nil => rfl
  | cons x l ih => rw [List.zip_cons_cons, ih]; rfl
theorem is_all {G : Gl} {o : Val} {vs : List Val} (hw : walked o = .ok vs) (hl : vs.length ≤ big) (h : ∀ v ∈ vs, G.call f [v, v] = .ok (.bool true, [])) :
    evE G (.blt .all (.cons (.lc (.call f (.cons (.var 2) (.cons (.var 3) .nil)) []) (.tup [(.var 2), (.var 3)]) (.zip (.var 0) (.var 1)) (.k (.bool true)) [2, 3]) .nil)) [some o, some o, Option.none, Option.none] = .ok (.bool true, [some o, some o, Option.none, Option.none]) := by
  have e := lc_all (G := G) (elt := .call f (.cons (.var 2) (.cons (.var 3) .nil)) []) (t := .tup [(.var 2), (.var 3)]) (it := .zip (.var 0) (.var 1)) (own := [2, 3])
    (ρ := [some o, some o, Option.none, Option.none]) (ρ1 := [some o, some o, Option.none, Option.none]) (f := fun v => .tup [v, v]) (l := vs) (fun _ => Val.bool true)
    (by
      simp only [ok_bind, get_z, get_s, put_z, put_s, List.set_cons_zero, List.set_cons_succ, List.length_cons, List.length_nil, if_true, ev_var, ev_k, ev_g, ev_bin, ev_cmp, ev_cmp2, ev_neg, ev_not, ev_and, ev_or, ev_ite, ev_tup, ev_lst, ev_idx, ev_slc, ev_rev, ev_call, ev_repr, ev_mth, ev_mtc, evs_nil, evs_cons, evi_e, evi_rng, evi_enum, evi_zip, es_set, es_unp, es_par, es_sti, es_ex, es_ret, es_ret0, es_pass, es_brk, es_ifs, es_loop, ess_nil, ess_cons, orS_some, fill_nil, fill_cons, spill_nil, spill_cons, puts_nil, puts_cons, bT_var, done_next, done_ret, done_next1, done_ret1, eb_len, eb_abs, eb_int, eb_str, eb_list, eb_tuple, eb_dict, eb_sum, eb_min, eb_max, eb_any, eb_all, eb_sorted, eb_sortedSet, eb_lenSet, eb_listRange, eb_tupRange, eb_tupEnum, eb_tupZip, eb_listZip, eb_newDict, eb_newDicT, eb_isinst, es_aug, ev_mtl, ev_mtt, ev_mtq, ev_mtd, ev_alt, alt_ok, alt_stuck, eb_minD, eb_maxD, eb_sortedTxt, eb_sortedSetS, eb_sumL, eb_listTxt, zipped, hw]
      unfold pairUp
      rw [zip_self, List.map_map]; rfl) hl rfl fun v hv => ⟨_, rfl, rfl, rfl, by
      show ((Res.ok ([v, v], _)).bind fun x => (fill x.2 x.1 []).bind fun vs => (G.call f vs).bind _) = _
      simp only [ok_bind, get_z, get_s, put_z, put_s, List.set_cons_zero, List.set_cons_succ, List.length_cons, List.length_nil, if_true, ev_var, ev_k, ev_g, ev_bin, ev_cmp, ev_cmp2, ev_neg, ev_not, ev_and, ev_or, ev_ite, ev_tup, ev_lst, ev_idx, ev_slc, ev_rev, ev_call, ev_repr, ev_mth, ev_mtc, evs_nil, evs_cons, evi_e, evi_rng, evi_enum, evi_zip, es_set, es_unp, es_par, es_sti, es_ex, es_ret, es_ret0, es_pass, es_brk, es_ifs, es_loop, ess_nil, ess_cons, orS_some, fill_nil, fill_cons, spill_nil, spill_cons, puts_nil, puts_cons, bT_var, done_next, done_ret, done_next1, done_ret1, eb_len, eb_abs, eb_int, eb_str, eb_list, eb_tuple, eb_dict, eb_sum, eb_min, eb_max, eb_any, eb_all, eb_sorted, eb_sortedSet, eb_lenSet, eb_listRange, eb_tupRange, eb_tupEnum, eb_tupZip, eb_listZip, eb_newDict, eb_newDicT, eb_isinst, es_aug, ev_mtl, ev_mtt, ev_mtq, ev_mtd, ev_alt, alt_ok, alt_stuck, eb_minD, eb_maxD, eb_sortedTxt, eb_sortedSetS, eb_sumL, eb_listTxt, h v hv]⟩
  simp only [ok_bind, get_z, get_s, put_z, put_s, List.set_cons_zero, List.set_cons_succ, List.length_cons, List.length_nil, if_true, ev_var, ev_k, ev_g, ev_bin, ev_cmp, ev_cmp2, ev_neg, ev_not, ev_and, ev_or, ev_ite, ev_tup, ev_lst, ev_idx, ev_slc, ev_rev, ev_call, ev_repr, ev_mth, ev_mtc, evs_nil, evs_cons, evi_e, evi_rng, evi_enum, evi_zip, es_set, es_unp, es_par, es_sti, es_ex, es_ret, es_ret0, es_pass, es_brk, es_ifs, es_loop, ess_nil, ess_cons, orS_some, fill_nil, fill_cons, spill_nil, spill_cons, puts_nil, puts_cons, bT_var, done_next, done_ret, done_next1, done_ret1, eb_len, eb_abs, eb_int, eb_str, eb_list, eb_tuple, eb_dict, eb_sum, eb_min, eb_max, eb_any, eb_all, eb_sorted, eb_sortedSet, eb_lenSet, eb_listRange, eb_tupRange, eb_tupEnum, eb_tupZip, eb_listZip, eb_newDict, eb_newDicT, eb_isinst, es_aug, ev_mtl, ev_mtt, ev_mtq, ev_mtd, ev_alt, alt_ok, alt_stuck, eb_minD, eb_maxD, eb_sortedTxt, eb_sortedSetS, eb_sumL, eb_listTxt, e, all_true]
theorem is_lst (hd : P.defs[f]? = some (isD f)) {vs : List Val} (hl : vs.length ≤ big) (h : ∀ v ∈ vs, callN P n f [v, v] = .ok (.bool true, [])) : callN P (n + 1) f [.lst vs, .lst vs] = .ok (.bool true, []) := by
  rw [callN_eq (ρ := [some (.lst vs), some (.lst vs), Option.none, Option.none]) hd rfl rfl]
  have e := is_all (G := ⟨callN P n, P.con, P.rp, P.wh⟩) (f := f) (o := .lst vs) rfl hl h
  have t1 : blt (.isinst [.tuple]) [.lst vs] = .ok (.bool false) := rfl
  have t2 : blt (.isinst [.list]) [.lst vs] = .ok (.bool true) := rfl
  have n1 : cmp .ne (.bool false) (.bool false) = .ok (.bool false) := rfl
  have n2 : cmp .ne (.bool true) (.bool true) = .ok (.bool false) := rfl
  have e2 : cmp .eq (.int vs.length) (.int vs.length) = .ok (.bool true) := by rw [eq_i, beq_self_eq_true]
  rw [show (isD f).io = [] from rfl]
  unfold isD
  simp only [ess_cons, es_ifs, ev_or, eb_isinst, evs_cons, evs_nil, ev_var, ok_bind, get_z, get_s, t1, t2, tru_b, Bool.false_eq_true, if_false, if_true, ev_cmp, n1, n2, ess_nil, es_ret, ev_and, eb_len, len_l, e2, e, done_ret]
theorem is_tup (hd : P.defs[f]? = some (isD f)) {vs : List Val} (hl : vs.length ≤ big) (h : ∀ v ∈ vs, callN P n f [v, v] = .ok (.bool true, [])) : callN P (n + 1) f [.tup vs, .tup vs] = .ok (.bool true, []) := by
  rw [callN_eq (ρ := [some (.tup vs), some (.tup vs), Option.none, Option.none]) hd rfl rfl]
  have e := is_all (G := ⟨callN P n, P.con, P.rp, P.wh⟩) (f := f) (o := .tup vs) rfl hl h
  have t1 : blt (.isinst [.tuple]) [.tup vs] = .ok (.bool true) := rfl
  have t2 : blt (.isinst [.list]) [.tup vs] = .ok (.bool false) := rfl
  have n1 : cmp .ne (.bool false) (.bool false) = .ok (.bool false) := rfl
  have n2 : cmp .ne (.bool true) (.bool true) = .ok (.bool false) := rfl
  have e2 : cmp .eq (.int vs.length) (.int vs.length) = .ok (.bool true) := by rw [eq_i, beq_self_eq_true]
  rw [show (isD f).io = [] from rfl]
  unfold isD
  simp only [ess_cons, es_ifs, ev_or, eb_isinst, evs_cons, evs_nil, ev_var, ok_bind, get_z, get_s, t1, t2, tru_b, Bool.false_eq_true, if_false, if_true, ev_cmp, n1, n2, ess_nil, es_ret, ev_and, eb_len, len_t, e2, e, done_ret]
end
/-! ### words -/
theorem join_chars : ∀ {vs : List Val}, vs.length ≤ 100 → (∀ v ∈ vs, ∃ c, v = .str [c] ∧ (97 ≤ c ∧ c < 123)) → ∃ t : List Nat, allStrs vs = some (t.map fun c => [c]) ∧ t.length = vs.length ∧ Lets t
  | [], _, _ => ⟨[], rfl, rfl, fun _ z => nomatch z⟩
  | v :: vs, hl, h => by
    obtain ⟨c, rfl, hc⟩ := h _ List.mem_cons_self
    obtain ⟨t, e, l, ht⟩ := join_chars (vs := vs) (by simp at hl; omega) fun u hu => h u (List.mem_cons_of_mem _ hu)
    refine ⟨c :: t, ?_, by simp [l], fun x hx => ?_⟩
    · show (allStrs vs).map ([c] :: ·) = _
      rw [e]; rfl
    · rcases List.mem_cons.mp hx with rfl | hx
      · exact hc
      · exact ht x hx
theorem joinWith_nil : ∀ ss : List (List Nat), joinWith [] ss = ss.flatten
  | [] => rfl
  | [x] => by simp [joinWith]
  | x :: y :: ss => by
    show x ++ [] ++ joinWith [] (y :: ss) = _
    rw [joinWith_nil (y :: ss), List.append_nil]; rfl
theorem flat_ones (t : List Nat) : (t.map fun c => [c]).flatten = t := by
  induction t with
  | nil => rfl
  | cons c t ih => rw [List.map_cons, List.flatten_cons, ih]; rfl
theorem lens_ones (t : List Nat) : ((t.map fun c => [c]).map (·.length)).sum = t.length := by
  induction t with
  | nil => rfl
  | cons c t ih => rw [List.map_cons, List.map_cons, List.sum_cons, ih]; simp; omega
theorem join_ok {vs : List Val} (hl : vs.length ≤ 100) (h : ∀ v ∈ vs, ∃ c, v = .str [c] ∧ (97 ≤ c ∧ c < 123)) : ∃ t, mth .join (.str []) [.lst vs] = .ok (.str t) ∧ t.length = vs.length ∧ Lets t := by
  obtain ⟨t, e, l, ht⟩ := join_chars hl h
  refine ⟨t, ?_, l, ht⟩
  show (orStuck (allStrs vs)).bind _ = _
  rw [e]
  show (if ((t.map fun c => [c]).map (·.length)).sum + (t.map fun c => [c]).length * ([] : List Nat).length ≤ big then Res.ok (Val.str (joinWith [] (t.map fun c => [c]))) else .stuck) = _
  rw [lens_ones, joinWith_nil, flat_ones, if_pos (by simp; unfold big; omega)]
theorem lets_by {s : List Nat} (h : s.all (fun c => decide (97 ≤ c) && decide (c < 123)) = true) : Lets s := fun c hc => by
  have := List.all_eq_true.mp h c hc
  rw [Bool.and_eq_true, decide_eq_true_eq, decide_eq_true_eq] at this
  exact this
/-- _law_word over lots of letters; draw at d, some at g -/
def wordD (d g : Nat) (es : Es) : MP.Def := ⟨2, 4, [0], (.cons (.set 2 (.call g (.cons (.var 0) (.cons (.lst es) .nil)) [(0, 0)])) (.cons (.ret (.mth .join (.k (Val.str [])) (.cons (.lc (.call g (.cons (.var 0) (.cons (.var 2) .nil)) [(0, 0)]) (.var 3) (.rng (.cons (.bin .add (.k (Val.int 1)) (.call d (.cons (.var 0) (.cons (.var 1) .nil)) [(0, 0)])) .nil)) (.k (.bool true)) [3]) .nil))) .nil))⟩
def kes : List (List Nat) → Es
  | [] => .nil
  | s :: ss => .cons (.k (.str s)) (kes ss)
theorem ev_kes {G : Gl} {ρ : Env} : ∀ ss : List (List Nat), evEs G (kes ss) ρ = .ok (ss.map .str, ρ)
  | [] => rfl
  | s :: ss => by
    rw [kes, evs_cons, ev_k, ok_bind, ev_kes ss]
    rfl
theorem word_ok {P : Prog} {n d g f : Nat} {lots : List (List Nat)} (hd : P.defs[f]? = some (wordD d g (kes lots))) (hg : P.defs[g]? = some (someD d)) (D : ∀ n, DrawS P (n + 1) d)
    (h0 : lots ≠ []) (hl : lots.length < 1000) (hlots : (lots.all fun s => !s.isEmpty && decide (s.length < 1000) && s.all (fun c => decide (97 ≤ c) && decide (c < 123))) = true)
    {h : Val} (hh : Hand h) {m : Nat} (hm : 1 ≤ m) (hm2 : m ≤ 90) : ∃ t h', callN P (n + 3) f [h, .int m] = .ok (.str t, [h']) ∧ Lets t ∧ 1 ≤ t.length ∧ t.length ≤ m ∧ Hand h' := by
  rw [callN_eq (ρ := [some h, some (.int m), Option.none, Option.none]) hd rfl rfl]
  obtain ⟨v, h1, e1, hv, hh1⟩ := some_lst (P := P) (n := n + 1) (g := g) (f := d) hg (D n) hh (vs := lots.map .str) (by simpa using h0) (by simp; omega)
  obtain ⟨t, ht, rfl⟩ := List.mem_map.mp hv
  have hk := List.all_eq_true.mp hlots t ht
  rw [Bool.and_eq_true, Bool.and_eq_true, decide_eq_true_eq] at hk
  obtain ⟨⟨k1, k2⟩, k3⟩ := hk
  have k1 : t ≠ [] := by
    intro z; subst z; cases k1
  have k3 := lets_by k3
  obtain ⟨r, h2, e2, r0, r1, hh2⟩ := D (n + 1) h1 m hh1 (by omega) (by omega)
  obtain ⟨vs, ρ', e3, ⟨h3, z, hh3, rfl⟩, hl3, hv3⟩ := lc_eff (G := ⟨callN P (n + 2), P.con, P.rp, P.wh⟩) (elt := .call g (.cons (.var 0) (.cons (.var 2) .nil)) [(0, 0)]) (t := .var 3) (it := .rng (.cons (.bin .add (.k (Val.int 1)) (.call d (.cons (.var 0) (.cons (.var 1) .nil)) [(0, 0)])) .nil)) (own := [3])
    (ρ := [some h1, some (.int m), some (.str t), Option.none]) (ρ1 := [some h2, some (.int m), some (.str t), Option.none]) (l := rngL 0 (1 + r).toNat)
    (fun ρ => ∃ h z, Hand h ∧ ρ = [some h, some (.int m), some (.str t), z]) (fun v => ∃ c, v = .str [c] ∧ (97 ≤ c ∧ c < 123))
    (by simp only [ok_bind, get_z, get_s, put_z, put_s, List.set_cons_zero, List.set_cons_succ, List.length_cons, List.length_nil, if_true, ev_var, ev_k, ev_g, ev_bin, ev_cmp, ev_cmp2, ev_neg, ev_not, ev_and, ev_or, ev_ite, ev_tup, ev_lst, ev_idx, ev_slc, ev_rev, ev_call, ev_repr, ev_mth, ev_mtc, evs_nil, evs_cons, evi_e, evi_rng, evi_enum, evi_zip, es_set, es_unp, es_par, es_sti, es_ex, es_ret, es_ret0, es_pass, es_brk, es_ifs, es_loop, ess_nil, ess_cons, orS_some, fill_nil, fill_cons, spill_nil, spill_cons, puts_nil, puts_cons, bT_var, done_next, done_ret, done_next1, done_ret1, eb_len, eb_abs, eb_int, eb_str, eb_list, eb_tuple, eb_dict, eb_sum, eb_min, eb_max, eb_any, eb_all, eb_sorted, eb_sortedSet, eb_lenSet, eb_listRange, eb_tupRange, eb_tupEnum, eb_tupZip, eb_listZip, eb_newDict, eb_newDicT, eb_isinst, es_aug, ev_mtl, ev_mtt, ev_mtq, ev_mtd, ev_alt, alt_ok, alt_stuck, eb_minD, eb_maxD, eb_sortedTxt, eb_sortedSetS, eb_sumL, eb_listTxt, add_i, e2, range1 (lim_ofM (show -1000000000 ≤ 1 + r by omega) (by omega))]) (by simp [rngL]; unfold big; omega) ⟨_, _, hh2, rfl⟩ fun x hx ρ hρ => by
      obtain ⟨h, z, hh, rfl⟩ := hρ
      obtain ⟨c, h', e, hc, hh'⟩ := some_str (P := P) (n := n + 1) (g := g) (f := d) hg (D n) hh k1 (by omega)
      refine ⟨_, _, [some h', some (.int m), some (.str t), some x], rfl, ?_, ⟨c, rfl, k3 c hc⟩, h', _, hh', rfl⟩
      simp only [wipe, List.set_cons_succ, List.set_cons_zero, ok_bind, get_z, get_s, put_z, put_s, List.set_cons_zero, List.set_cons_succ, List.length_cons, List.length_nil, if_true, ev_var, ev_k, ev_g, ev_bin, ev_cmp, ev_cmp2, ev_neg, ev_not, ev_and, ev_or, ev_ite, ev_tup, ev_lst, ev_idx, ev_slc, ev_rev, ev_call, ev_repr, ev_mth, ev_mtc, evs_nil, evs_cons, evi_e, evi_rng, evi_enum, evi_zip, es_set, es_unp, es_par, es_sti, es_ex, es_ret, es_ret0, es_pass, es_brk, es_ifs, es_loop, ess_nil, ess_cons, orS_some, fill_nil, fill_cons, spill_nil, spill_cons, puts_nil, puts_cons, bT_var, done_next, done_ret, done_next1, done_ret1, eb_len, eb_abs, eb_int, eb_str, eb_list, eb_tuple, eb_dict, eb_sum, eb_min, eb_max, eb_any, eb_all, eb_sorted, eb_sortedSet, eb_lenSet, eb_listRange, eb_tupRange, eb_tupEnum, eb_tupZip, eb_listZip, eb_newDict, eb_newDicT, eb_isinst, es_aug, ev_mtl, ev_mtt, ev_mtq, ev_mtd, ev_alt, alt_ok, alt_stuck, eb_minD, eb_maxD, eb_sortedTxt, eb_sortedSetS, eb_sumL, eb_listTxt, e]
  have hlr : vs.length = (1 + r).toNat := by rw [hl3]; simp [rngL]
  obtain ⟨u, e4, hu, hu2⟩ := join_ok (by omega) hv3
  refine ⟨u, h3, ?_, hu2, by omega, by omega, hh3⟩
  rw [show (wordD d g (kes lots)).io = [0] from rfl]
  unfold wordD
  simp only [ok_bind, get_z, get_s, put_z, put_s, List.set_cons_zero, List.set_cons_succ, List.length_cons, List.length_nil, if_true, ev_var, ev_k, ev_g, ev_bin, ev_cmp, ev_cmp2, ev_neg, ev_not, ev_and, ev_or, ev_ite, ev_tup, ev_lst, ev_idx, ev_slc, ev_rev, ev_call, ev_repr, ev_mth, ev_mtc, evs_nil, evs_cons, evi_e, evi_rng, evi_enum, evi_zip, es_set, es_unp, es_par, es_sti, es_ex, es_ret, es_ret0, es_pass, es_brk, es_ifs, es_loop, ess_nil, ess_cons, orS_some, fill_nil, fill_cons, spill_nil, spill_cons, puts_nil, puts_cons, bT_var, done_next, done_ret, done_next1, done_ret1, eb_len, eb_abs, eb_int, eb_str, eb_list, eb_tuple, eb_dict, eb_sum, eb_min, eb_max, eb_any, eb_all, eb_sorted, eb_sortedSet, eb_lenSet, eb_listRange, eb_tupRange, eb_tupEnum, eb_tupZip, eb_listZip, eb_newDict, eb_newDicT, eb_isinst, es_aug, ev_mtl, ev_mtt, ev_mtq, ev_mtd, ev_alt, alt_ok, alt_stuck, eb_minD, eb_maxD, eb_sortedTxt, eb_sortedSetS, eb_sumL, eb_listTxt, ev_kes, e1, e3, isStr, e4, back, List.getD_cons_succ, List.getD_cons_zero]
end ME
/-! MiniPy: what more laws share: lists of integers, rows, the distance turned about (plain Lean) -/
namespace ME
open MP
theorem bigOf {n : Nat} (h : n ≤ 1000) : n ≤ big := by unfold big; omega
def av (i : Int) : Int := if i < 0 then -i else i
theorem idx2_0 {a b : Val} : idx (.tup [a, b]) (.int 0) = .ok a := rfl
theorem idx2_1 {a b : Val} : idx (.tup [a, b]) (.int 1) = .ok b := rfl
theorem idx3_0 {a b c : Val} : idx (.tup [a, b, c]) (.int 0) = .ok a := rfl
theorem idx3_1 {a b c : Val} : idx (.tup [a, b, c]) (.int 1) = .ok b := rfl
theorem idx3_2 {a b c : Val} : idx (.tup [a, b, c]) (.int 2) = .ok c := rfl
theorem abs_i {x : Int} : blt .abs [.int x] = .ok (.int (av x)) := rfl
theorem max2_i {x y : Int} : blt .max [.int x, .int y] = .ok (.int (if y > x then y else x)) := rfl
theorem min2_i {x y : Int} : blt .min [.int x, .int y] = .ok (.int (if y < x then y else x)) := rfl
theorem min3_i {x y z : Int} : blt .min [.int x, .int y, .int z] = .ok (.int (min (min x y) z)) := rfl
theorem toint_b {b : Bool} : blt .int [.bool b] = .ok (.int (if b then 1 else 0)) := rfl
theorem sum_i {α : Type} {l : List α} {g : α → Int} : blt .sum [.lst (l.map fun x => Val.int (g x))] = .ok (.int (l.map g).sum) := by
  have : l.map (fun x => Val.int (g x)) = (l.map g).map Val.int := by rw [List.map_map]; rfl
  rw [this]
  show (orStuck (allInts _)).bind _ = _
  rw [allInts_mapM]; rfl
theorem eq_c {c d : Nat} : cmp .eq (.str [c]) (.str [d]) = .ok (.bool (c == d)) := by
  show Res.ok (Val.bool (([c] : List Nat) == [d])) = _
  simp
theorem ne_c {c d : Nat} : cmp .ne (.str [c]) (.str [d]) = .ok (.bool (!(c == d))) := by
  show Res.ok (Val.bool (!(([c] : List Nat) == [d]))) = _
  simp
theorem eq_s {s t : List Nat} : cmp .eq (.str s) (.str t) = .ok (.bool (s == t)) := rfl
theorem ne_s {s t : List Nat} : cmp .ne (.str s) (.str t) = .ok (.bool (!(s == t))) := rfl
theorem pair_str (a b : List Nat) : pairUp (a.map fun c => Val.str [c]) (b.map fun c => Val.str [c]) = (a.zip b).map fun u => .tup [.str [u.1], .str [u.2]] := by
  unfold pairUp
  rw [List.zip_map, List.map_map]
  rfl
theorem drop_lets {s : List Nat} (hs : Lets s) (k : Nat) : Lets (s.drop k) := fun c h => hs c (List.mem_of_mem_drop h)
theorem take_lets {s : List Nat} (hs : Lets s) (k : Nat) : Lets (s.take k) := fun c h => hs c (List.mem_of_mem_take h)
theorem rev_lets {s : List Nat} (hs : Lets s) : Lets s.reverse := fun c h => hs c (List.mem_reverse.mp h)
theorem add_s {a b : List Nat} (h : a.length + b.length ≤ 1000) : bin .add (.str a) (.str b) = .ok (.str (a ++ b)) := if_pos (by unfold big; omega)
theorem rev_s {s : List Nat} : rev (.str s) = .ok (.str s.reverse) := rfl
theorem numb_map {α : Type} (f : α → Val) (t : List α) : numb 0 (t.map f) = t.zipIdx.map fun u => Val.tup [.int u.2, f u.1] := by
  have key : ∀ (t : List α) (k : Nat), numb k (t.map f) = (t.zipIdx k).map fun u => Val.tup [.int u.2, f u.1] := fun t => by
    induction t with
    | nil => intro k; rfl
    | cons c t ih =>
      intro k
      rw [List.map_cons, List.zipIdx_cons, List.map_cons]
      show Val.tup [.int k, f c] :: numb (k + 1) _ = _
      rw [ih]
  exact key t 0
theorem numb_str (t : List Nat) : numb 0 (t.map fun c => Val.str [c]) = t.zipIdx.map fun u => Val.tup [.int u.2, .str [u.1]] := numb_map _ t
theorem zipIdx_split {α : Type} {t : List α} {pre : List (α × Nat)} {x : α × Nat} {post : List (α × Nat)} (h : t.zipIdx = pre ++ x :: post) : x.2 = pre.length ∧ t[pre.length]? = some x.1 := by
  have e : t.zipIdx[pre.length]? = some x := by rw [h]; simp
  rw [List.getElem?_zipIdx] at e
  obtain ⟨a, e1, e2⟩ := Option.map_eq_some_iff.mp e
  subst e2
  exact ⟨by simp, e1⟩
theorem getI {xs : List Int} {i : Nat} (h : i < xs.length) : idx (.lst (xs.map .int)) (.int (i : Int)) = .ok (.int (xs.getD i 0)) :=
  idx_lst (by rw [List.getElem?_map, List.getD_eq_getElem?_getD, List.getElem?_eq_getElem h]; rfl)
theorem app_i {xs : List Int} {x : Int} (h : xs.length ≤ 1000) : mutate .append (.lst (xs.map .int)) [.int x] = .ok (.lst ((xs ++ [x]).map .int), .none) := by
  show (if (xs.map Val.int).length < big then Res.ok (Val.lst (xs.map .int ++ [.int x]), Val.none) else .stuck) = _
  rw [if_pos (by rw [List.length_map]; unfold big; omega), List.map_append]; rfl
theorem app_v {vs : List Val} {v : Val} (h : vs.length ≤ 1000) : mutate .append (.lst vs) [v] = .ok (.lst (vs ++ [v]), .none) := if_pos (by unfold big; omega)
theorem idx_last {vs : List Val} {v : Val} : idx (.lst (vs ++ [v])) (.int (-1)) = .ok v := by
  show orStuck (at? (vs ++ [v]) (-1)) = _
  unfold at? place
  rw [if_neg (by decide), if_pos (by rw [List.length_append]; simp; omega)]
  show orStuck ((vs ++ [v])[((-1 : Int) + ((vs ++ [v]).length : Int)).toNat]?) = _
  rw [List.length_append, show ((-1 : Int) + ((vs.length + [v].length : Nat) : Int)).toNat = vs.length by simp; omega]
  simp [orStuck]
theorem last_row {xs : List Int} {k : Nat} (h : xs.length = k + 1) : idx (.lst (xs.map .int)) (.int (-1)) = .ok (.int (xs.getD k 0)) := by
  show orStuck (at? (xs.map Val.int) (-1)) = _
  unfold at? place
  rw [if_neg (by decide), if_pos (by rw [List.length_map]; omega)]
  show orStuck ((xs.map Val.int)[((-1 : Int) + ((xs.map Val.int).length : Int)).toNat]?) = _
  rw [List.length_map, show ((-1 : Int) + (xs.length : Int)).toNat = k by omega, List.getElem?_map, List.getD_eq_getElem?_getD, List.getElem?_eq_getElem (by omega)]
  rfl
theorem cut_any {α : Type} {xs : List α} {a b : Nat} : cut xs (.int a) (.int b) = some ((xs.drop a).take (b - a)) := by
  unfold cut clip
  have h1 : ¬ ((a : Int) < 0) := by omega
  have h2 : ¬ ((b : Int) < 0) := by omega
  simp only [h1, h2, if_false, Int.toNat_natCast]
  show some ((xs.drop (min a xs.length)).take (min b xs.length - min a xs.length)) = _
  congr 1
  rcases Nat.le_total a xs.length with h | h
  · rw [Nat.min_eq_left h]
    rcases Nat.le_total b xs.length with h3 | h3
    · rw [Nat.min_eq_left h3]
    · rw [Nat.min_eq_right h3, List.take_of_length_le (by rw [List.length_drop]; omega), List.take_of_length_le (by rw [List.length_drop]; omega)]
  · rw [Nat.min_eq_right h, List.drop_of_length_le (Nat.le_refl _), List.drop_of_length_le h, List.take_nil, List.take_nil]
theorem slc_strA {s : List Nat} {a b : Nat} : slc (.str s) (.int a) (.int b) = .ok (.str ((s.drop a).take (b - a))) := by
  show orStuck ((cut s (.int a) (.int b)).map Val.str) = _
  rw [cut_any]; rfl
theorem listTxt_ok {s : List Nat} : blt .listTxt [.str s] = .ok (.lst (s.map fun c => .str [c])) := rfl
theorem listRange_ok {n : Int} {k : Nat} (h : n = k) (hk : k ≤ 1000) : blt .listRange [.int n] = .ok (.lst ((List.range k).map fun (i : Nat) => Val.int (i : Int))) := by
  subst h
  show (range [.int (k : Int)]).bind _ = _
  rw [range1 (lim_ofM (by omega) (by omega)), ok_bind, rng0, if_pos (by simp; unfold big; omega)]
  simp
/-- the i-th statement; a loop's parts -/
def sat : Ss → Nat → S
  | .cons s _, 0 => s
  | .cons _ r, i + 1 => sat r i
  | .nil, _ => .bad
def lpB : S → Ss
  | .loop _ _ b => b
  | .whl _ b => b
  | _ => .nil
def lpT : S → T
  | .loop t _ _ => t
  | _ => .tup []
def exE : S → E
  | .set _ e => e
  | .ret e => e
  | .ex e => e
  | _ => .bad
theorem numb_range {f : Nat → Val} : ∀ (n k : Nat), numb k ((List.range' k n).map f) = (List.range' k n).map fun (i : Nat) => Val.tup [.int (i : Int), f i]
  | 0, k => rfl
  | n + 1, k => by
    rw [List.range'_succ, List.map_cons, List.map_cons]
    show Val.tup [.int k, f k] :: numb (k + 1) _ = _
    rw [numb_range n (k + 1)]
theorem numb_range0 {f : Nat → Val} {n : Nat} : numb 0 ((List.range n).map f) = (List.range n).map fun (i : Nat) => Val.tup [.int (i : Int), f i] := by
  rw [List.range_eq_range']; exact numb_range n 0
theorem take_succ {α : Type} {l pre post : List α} {x : α} (h : l = pre ++ x :: post) : l.take pre.length = pre ∧ l.take (pre.length + 1) = pre ++ [x] ∧ pre.length < l.length ∧ l[pre.length]? = some x := by
  subst h
  refine ⟨by simp, by rw [List.take_append]; simp [List.take_of_length_le], by simp, by simp⟩
/-! ### least, greatest -/
theorem min_l {n : Int} {ns : List Int} : blt .min [.lst ((n :: ns).map Val.int)] = .ok (.int (ns.foldl min n)) := by
  show (orStuck (allInts ((n :: ns).map Val.int))).bind _ = _
  rw [allInts_mapM]; rfl
theorem max_l {n : Int} {ns : List Int} : blt .max [.lst ((n :: ns).map Val.int)] = .ok (.int (ns.foldl max n)) := by
  show (orStuck (allInts ((n :: ns).map Val.int))).bind _ = _
  rw [allInts_mapM]; rfl
theorem foldMin_le : ∀ (ns : List Int) (n : Int), (ns.foldl min n ≤ n ∧ ∀ y ∈ ns, ns.foldl min n ≤ y) ∧ (ns.foldl min n = n ∨ ns.foldl min n ∈ ns)
  | [], n => by simp
  | x :: ns, n => by
    obtain ⟨⟨h1, h2⟩, h3⟩ := foldMin_le ns (min n x)
    rw [List.foldl_cons]
    refine ⟨⟨by omega, fun y hy => ?_⟩, ?_⟩
    · rcases List.mem_cons.mp hy with rfl | hy
      · omega
      · exact h2 y hy
    · rcases h3 with h3 | h3
      · by_cases h : n ≤ x
        · left; omega
        · right; rw [h3]; have : min n x = x := by omega
          rw [this]; simp
      · right; exact List.mem_cons_of_mem _ h3
theorem foldMax_le : ∀ (ns : List Int) (n : Int), (n ≤ ns.foldl max n ∧ ∀ y ∈ ns, y ≤ ns.foldl max n) ∧ (ns.foldl max n = n ∨ ns.foldl max n ∈ ns)
  | [], n => by simp
  | x :: ns, n => by
    obtain ⟨⟨h1, h2⟩, h3⟩ := foldMax_le ns (max n x)
    rw [List.foldl_cons]
    refine ⟨⟨by omega, fun y hy => ?_⟩, ?_⟩
    · rcases List.mem_cons.mp hy with rfl | hy
      · omega
      · exact h2 y hy
    · rcases h3 with h3 | h3
      · by_cases h : x ≤ n
        · left; omega
        · right; rw [h3]; have : max n x = x := by omega
          rw [this]; simp
      · right; exact List.mem_cons_of_mem _ h3
theorem min_is {ns : List Int} {m : Int} (hm : m ∈ ns) (h : ∀ y ∈ ns, m ≤ y) : blt .min [.lst (ns.map Val.int)] = .ok (.int m) := by
  cases ns with
  | nil => cases hm
  | cons n ns =>
    rw [min_l]
    obtain ⟨⟨h1, h2⟩, h3⟩ := foldMin_le ns n
    have a : m ≤ ns.foldl min n := h3.elim (fun z => by rw [z]; exact h n List.mem_cons_self) fun z => h _ (List.mem_cons_of_mem _ z)
    have b : ns.foldl min n ≤ m := (List.mem_cons.mp hm).elim (fun z => by rw [z]; exact h1) fun z => h2 m z
    rw [show ns.foldl min n = m by omega]
theorem max_is {ns : List Int} {m : Int} (hm : m ∈ ns) (h : ∀ y ∈ ns, y ≤ m) : blt .max [.lst (ns.map Val.int)] = .ok (.int m) := by
  cases ns with
  | nil => cases hm
  | cons n ns =>
    rw [max_l]
    obtain ⟨⟨h1, h2⟩, h3⟩ := foldMax_le ns n
    have a : ns.foldl max n ≤ m := h3.elim (fun z => by rw [z]; exact h n List.mem_cons_self) fun z => h _ (List.mem_cons_of_mem _ z)
    have b : m ≤ ns.foldl max n := (List.mem_cons.mp hm).elim (fun z => by rw [z]; exact h1) fun z => h2 m z
    rw [show ns.foldl max n = m by omega]
/-! ### _law_hand without a bound -/
def handA (K J : Int) : MP.Def := ⟨1, 2, [], (.cons (.ret (.lst (.cons (.lc (.blt .abs (.cons (.blt .int (.cons (.var 1) .nil)) .nil)) (.var 1) (.e (.slc (.var 0) (.k .none) (.k (Val.int 63)))) (.k (.bool true)) [1]) (.cons (.k (Val.int 0)) (.cons (.k (Val.int 0)) (.cons (.bin .add (.k (Val.int K)) (.bin .mul (.k (Val.int J)) (.blt .len (.cons (.slc (.var 0) (.k .none) (.k (Val.int 63))) .nil)))) (.cons (.k (Val.int 0)) .nil))))))) .nil)⟩
theorem slc63 {ns : List Int} (hl : ns.length ≤ 63) : slc (.lst (ns.map Val.int)) .none (.int 63) = .ok (.lst (ns.map Val.int)) := by
  have hc : cut (ns.map Val.int) .none (.int 63) = some (ns.map Val.int) := by
    unfold cut
    show some (((ns.map Val.int).drop 0).take (min 63 (ns.map Val.int).length - 0)) = _
    rw [List.drop_zero, Nat.sub_zero, List.length_map, Nat.min_eq_right hl, List.take_of_length_le (by rw [List.length_map]; exact Nat.le_refl _)]
  show orStuck ((cut (ns.map Val.int) .none (.int 63)).map Val.lst) = _
  rw [hc]; rfl
theorem handA_ok {P : Prog} {n f : Nat} {K J : Int} (hd : P.defs[f]? = some (handA K J)) (hj : small64 J = true) {ns : List Int} (hl : ns.length ≤ 63) : ∃ h, callN P (n + 1) f [.lst (ns.map .int)] = .ok (h, []) ∧ Hand h := by
  rw [callN_eq (ρ := [some (.lst (ns.map .int)), Option.none]) hd rfl rfl]
  generalize hG : (⟨callN P n, P.con, P.rp, P.wh⟩ : Gl) = G
  have e0 := slc63 hl
  have e := lc_all (G := G) (elt := .blt .abs (.cons (.blt .int (.cons (.var 1) .nil)) .nil)) (t := .var 1) (it := .e (.slc (.var 0) (.k .none) (.k (Val.int 63)))) (own := [1])
    (ρ := [some (.lst (ns.map .int)), Option.none]) (ρ1 := [some (.lst (ns.map .int)), Option.none]) (f := Val.int) (l := ns) (fun x => .int (av x))
    (by simp only [evI, evE, ok_bind, get_z, okPart, if_true, e0, walked]) (by unfold big; omega) rfl (fun x hx => ⟨_, rfl, rfl, rfl, rfl⟩)
  show ∃ h, (evSs G (.cons (.ret (.lst (.cons (.lc _ _ _ _ _) _))) _) _).bind (doneR []) = _ ∧ _
  refine ⟨_, ?_, ns.map av, 0, 0, K + J * (ns.length : Int), 0, rfl⟩
  simp only [ok_bind, get_z, get_s, put_z, put_s, List.set_cons_zero, List.set_cons_succ, List.length_cons, List.length_nil, if_true, ev_var, ev_k, ev_g, ev_bin, ev_cmp, ev_cmp2, ev_neg, ev_not, ev_and, ev_or, ev_ite, ev_tup, ev_lst, ev_idx, ev_slc, ev_rev, ev_call, ev_repr, ev_mth, ev_mtc, evs_nil, evs_cons, evi_e, evi_rng, evi_enum, evi_zip, es_set, es_unp, es_par, es_sti, es_ex, es_ret, es_ret0, es_pass, es_brk, es_ifs, es_loop, ess_nil, ess_cons, orS_some, fill_nil, fill_cons, spill_nil, spill_cons, puts_nil, puts_cons, bT_var, done_next, done_ret, done_next1, done_ret1, eb_len, eb_abs, eb_int, eb_str, eb_list, eb_tuple, eb_dict, eb_sum, eb_min, eb_max, eb_any, eb_all, eb_sorted, eb_sortedSet, eb_lenSet, eb_listRange, eb_tupRange, eb_tupEnum, eb_tupZip, eb_listZip, eb_newDict, eb_newDicT, eb_isinst, es_aug, ev_mtl, ev_mtt, ev_mtq, ev_mtd, ev_alt, alt_ok, alt_stuck, eb_minD, eb_maxD, eb_sortedTxt, eb_sortedSetS, eb_sumL, eb_listTxt, e, e0, okp_none, okp_int, len_l, add_i, mul_l hj, List.map_map, List.length_map]
  rfl
/-! ### the distance turned about -/
section
variable {s : Nat → Nat → Int} {w : Int}
/-- costs that can be had -/
inductive Way (s : Nat → Nat → Int) (w : Int) : Int → List Nat → List Nat → Prop
  | nil : Way s w 0 [] []
  | drop {n x xs ys} : Way s w n xs ys → Way s w (n + w) (x :: xs) ys
  | put {n y xs ys} : Way s w n xs ys → Way s w (n + w) xs (y :: ys)
  | chg {n x y xs ys} : Way s w n xs ys → Way s w (n + s x y) (x :: xs) (y :: ys)
theorem lev_drop {x : Nat} {xs ys : List Nat} : lev s w (x :: xs) ys ≤ lev s w xs ys + w := by
  cases ys with
  | nil => rw [lev_nil2, lev_nil2, mul_succ_len]; omega
  | cons y ys => rw [lev_cons]; omega
theorem lev_put {y : Nat} {xs ys : List Nat} : lev s w xs (y :: ys) ≤ lev s w xs ys + w := by
  cases xs with
  | nil => rw [lev_nil, lev_nil, mul_succ_len]; omega
  | cons x xs => rw [lev_cons]; omega
theorem lev_chg {x y : Nat} {xs ys : List Nat} : lev s w (x :: xs) (y :: ys) ≤ lev s w xs ys + s x y := by rw [lev_cons]; omega
theorem Way.le {n : Int} {xs ys : List Nat} (h : Way s w n xs ys) : lev s w xs ys ≤ n := by
  induction h with
  | nil => rw [lev_nil]; simp
  | drop _ ih => exact Int.le_trans lev_drop (by omega)
  | put _ ih => exact Int.le_trans lev_put (by omega)
  | chg _ ih => exact Int.le_trans lev_chg (by omega)
theorem Way.cast {n m : Int} {xs ys : List Nat} (h : Way s w n xs ys) (e : n = m) : Way s w m xs ys := e ▸ h
theorem way_put : ∀ ys : List Nat, Way s w (w * ys.length) [] ys
  | [] => Way.nil.cast (by simp)
  | y :: ys => (way_put ys).put.cast (by rw [mul_succ_len])
theorem way_drop : ∀ ys : List Nat, Way s w (w * ys.length) ys []
  | [] => Way.nil.cast (by simp)
  | y :: ys => (way_drop ys).drop.cast (by rw [mul_succ_len])
theorem lev_way : ∀ (n : Nat) (xs ys : List Nat), xs.length + ys.length ≤ n → Way s w (lev s w xs ys) xs ys
  | _, [], ys, _ => (way_put ys).cast (lev_nil ys).symm
  | _, x :: xs, [], _ => (way_drop (x :: xs)).cast (lev_nil2 _).symm
  | n + 1, x :: xs, y :: ys, h => by
    simp only [List.length_cons] at h
    have h1 := lev_way n xs (y :: ys) (by simp; omega)
    have h2 := lev_way n (x :: xs) ys (by simp; omega)
    have h3 := lev_way n xs ys (by omega)
    have e := lev_cons (s := s) (w := w) x xs y ys
    by_cases c1 : lev s w (x :: xs) (y :: ys) = lev s w xs (y :: ys) + w
    · exact h1.drop.cast c1.symm
    · by_cases c2 : lev s w (x :: xs) (y :: ys) = lev s w (x :: xs) ys + w
      · exact h2.put.cast c2.symm
      · exact h3.chg.cast (by omega)
  | 0, x :: xs, y :: ys, h => by simp only [List.length_cons] at h; omega
theorem Way.append {n : Int} {xs ys : List Nat} (h : Way s w n xs ys) : ∀ {m : Int} {as bs : List Nat}, Way s w m as bs → Way s w (n + m) (xs ++ as) (ys ++ bs) := by
  induction h with
  | nil => intro m as bs k; exact k.cast (by omega)
  | drop _ ih => intro m as bs k; exact (ih k).drop.cast (by omega)
  | put _ ih => intro m as bs k; exact (ih k).put.cast (by omega)
  | chg _ ih => intro m as bs k; exact (ih k).chg.cast (by omega)
theorem Way.rev {n : Int} {xs ys : List Nat} (h : Way s w n xs ys) : Way s w n xs.reverse ys.reverse := by
  induction h with
  | nil => exact .nil
  | @drop n x xs ys _ ih =>
    rw [List.reverse_cons]
    have := ih.append ((Way.nil (s := s) (w := w)).drop (x := x))
    rw [List.append_nil] at this
    exact this.cast (by omega)
  | @put n y xs ys _ ih =>
    rw [List.reverse_cons]
    have := ih.append ((Way.nil (s := s) (w := w)).put (y := y))
    rw [List.append_nil] at this
    exact this.cast (by omega)
  | @chg n x y xs ys _ ih =>
    rw [List.reverse_cons, List.reverse_cons]
    exact (ih.append ((Way.nil (s := s) (w := w)).chg (x := x) (y := y))).cast (by omega)
theorem lev_rev (xs ys : List Nat) : lev s w xs.reverse ys.reverse = lev s w xs ys := by
  have a := (lev_way (s := s) (w := w) _ xs ys (Nat.le_refl _)).rev.le
  have b := (lev_way (s := s) (w := w) _ xs.reverse ys.reverse (Nat.le_refl _)).rev.le
  rw [List.reverse_reverse, List.reverse_reverse] at b
  omega
end
/-- the same, such that it can be computed -/
def levF (s : Nat → Nat → Int) (w : Int) : Nat → List Nat → List Nat → Int
  | _, [], ys => w * ys.length
  | _, x :: xs, [] => w * (x :: xs).length
  | 0, _ :: _, _ :: _ => 0
  | n + 1, x :: xs, y :: ys => min (min (levF s w n xs (y :: ys) + w) (levF s w n (x :: xs) ys + w)) (levF s w n xs ys + s x y)
theorem lev_F {s : Nat → Nat → Int} {w : Int} : ∀ (n : Nat) (xs ys : List Nat), xs.length + ys.length ≤ n → lev s w xs ys = levF s w n xs ys
  | n, [], ys, _ => by rw [lev_nil]; cases n <;> rfl
  | n, x :: xs, [], _ => by rw [lev_nil2]; cases n <;> rfl
  | n + 1, x :: xs, y :: ys, h => by
    simp only [List.length_cons] at h
    rw [lev_cons, lev_F n xs (y :: ys) (by simp; omega), lev_F n (x :: xs) ys (by simp; omega), lev_F n xs ys (by omega)]
    rfl
  | 0, x :: xs, y :: ys, h => by simp only [List.length_cons] at h; omega
/-- letters alike or not -/
def s1 (c d : Nat) : Int := if (!(c == d)) = true then 1 else 0
theorem s1_self (c : Nat) : s1 c c = 0 := by unfold s1; simp
theorem s1_ne {c d : Nat} (h : c ≠ d) : s1 c d = 1 := by unfold s1; rw [beq_false_of_ne h]; rfl
theorem s1_symm (c d : Nat) : s1 c d = s1 d c := by
  by_cases h : c = d
  · rw [h]
  · rw [s1_ne h, s1_ne (Ne.symm h)]
theorem s1_pos (c d : Nat) : 0 ≤ s1 c d := by unfold s1; split <;> omega
theorem s1_le (c d : Nat) : s1 c d ≤ 1 := by unfold s1; split <;> omega
theorem s1_zero (c d : Nat) : s1 c d = 0 ↔ c = d := by
  by_cases h : c = d
  · rw [h, s1_self]; simp
  · rw [s1_ne h]; simp [h]
theorem s1_tri (a b c : Nat) : s1 a c ≤ s1 a b + s1 b c := by
  by_cases h : a = b
  · rw [h, s1_self]; omega
  · rw [s1_ne h]
    have := s1_le a c
    have := s1_pos b c
    omega
theorem lev_self (xs : List Nat) : lev s1 1 xs xs = 0 := (lev_zero s1_pos s1_zero (by decide) _ xs xs (Nat.le_refl _)).mpr rfl
theorem lev_step1 (x : Nat) (xs ys : List Nat) : lev s1 1 xs ys ≤ lev s1 1 (x :: xs) ys + 1 := by
  have t := lev_tri (s := s1) (w := 1) s1_pos s1_tri s1_symm (by decide) _ xs (x :: xs) ys (Nat.le_refl _)
  have p := lev_put (s := s1) (w := 1) (y := x) (xs := xs) (ys := xs)
  rw [lev_self] at p
  omega
end ME
namespace K18
open MP L2 PySem.Spec PySem PyProof.Rows

def top (i : Nat) : Stmt := PySem.Challenge.pw_twotexts_k18_whole_patterns_with_slips.main.body.getD i (.Pass ⟨0, 0, 0, 0⟩)
/-- is_integer -/
def d0 : MP.Def := ⟨1, 1, [], (.cons (.ret (.and (.blt (.isinst [.int]) (.cons (.var 0) .nil)) (.not (.blt (.isinst [.bool]) (.cons (.var 0) .nil))))) .nil)⟩
def fi0 : FInfo := ⟨"is_integer", 1, [], 0⟩
def N0 : List PySem.Str := ["thing"]
/-- is_within -/
def d1 : MP.Def := ⟨3, 3, [], (.cons (.ret (.and (.call 0 (.cons (.var 0) .nil) []) (.cmp2 .le .le (.var 1) (.var 0) (.var 2)))) .nil)⟩
def fi1 : FInfo := ⟨"is_within", 3, [], 0⟩
def N1 : List PySem.Str := ["thing", "least", "most"]
/-- is_letters -/
def d2 : MP.Def := ⟨3, 4, [], (.cons (.ret (.and (.blt (.isinst [.str]) (.cons (.var 0) .nil)) (.and (.cmp2 .le .le (.var 1) (.blt .len (.cons (.var 0) .nil)) (.var 2)) (.blt .all (.cons (.lc (.cmp .mem (.var 3) (.g 0)) (.var 3) (.e (.var 0)) (.k (.bool true)) [3]) .nil))))) .nil)⟩
def fi2 : FInfo := ⟨"is_letters", 3, [], 0⟩
def N2 : List PySem.Str := ["thing", "least", "most", "sign"]
/-- is_word -/
def d3 : MP.Def := ⟨1, 1, [], (.cons (.ret (.call 2 (.cons (.var 0) (.cons (.k (Val.int 1)) (.cons (.g 1) .nil))) [])) .nil)⟩
def fi3 : FInfo := ⟨"is_word", 1, [], 0⟩
def N3 : List PySem.Str := ["thing"]
/-- check_word -/
def d4 : MP.Def := ⟨1, 1, [], (.cons (.ifs (.not (.call 3 (.cons (.var 0) .nil) [])) (.cons .bad .nil) .nil) .nil)⟩
def fi4 : FInfo := ⟨"check_word", 1, [], 0⟩
def N4 : List PySem.Str := ["thing"]
/-- edit_table -/
def d5 : MP.Def := ⟨2, 8, [], (.cons (.set 2 (.lst (.cons (.blt .listRange (.cons (.bin .add (.blt .len (.cons (.var 1) .nil)) (.k (Val.int 1))) .nil)) .nil))) (.cons (.loop (.tup [(.var 3), (.var 4)]) (.enum (.var 0)) (.cons (.set 5 (.lst (.cons (.bin .add (.var 3) (.k (Val.int 1))) .nil))) (.cons (.loop (.tup [(.var 6), (.var 7)]) (.enum (.var 1)) (.cons (.ex (.mtc .append 5 (.cons (.blt .min (.cons (.bin .add (.idx (.idx (.var 2) (.var 3)) (.bin .add (.var 6) (.k (Val.int 1)))) (.k (Val.int 1))) (.cons (.bin .add (.idx (.var 5) (.var 6)) (.k (Val.int 1))) (.cons (.bin .add (.idx (.idx (.var 2) (.var 3)) (.var 6)) (.blt .int (.cons (.cmp .ne (.var 4) (.var 7)) .nil))) .nil)))) .nil))) .nil)) (.cons (.ex (.mtc .append 2 (.cons (.var 5) .nil))) .nil)))) (.cons (.ret (.var 2)) .nil)))⟩
def fi5 : FInfo := ⟨"edit_table", 2, [], 0⟩
def N5 : List PySem.Str := ["one", "other", "found", "i", "sign", "row", "j", "its"]
/-- check_page -/
def d6 : MP.Def := ⟨1, 1, [], (.cons (.ifs (.not (.call 2 (.cons (.var 0) (.cons (.k (Val.int 0)) (.cons (.g 2) .nil))) [])) (.cons .bad .nil) .nil) .nil)⟩
def fi6 : FInfo := ⟨"check_page", 1, [], 0⟩
def N6 : List PySem.Str := ["page"]
/-- check_both -/
def d7 : MP.Def := ⟨2, 2, [], (.cons (.ex (.call 6 (.cons (.var 0) .nil) [])) (.cons (.ex (.call 4 (.cons (.var 1) .nil) [])) .nil))⟩
def fi7 : FInfo := ⟨"check_both", 2, [], 0⟩
def N7 : List PySem.Str := ["page", "word"]
/-- check_asked -/
def d8 : MP.Def := ⟨3, 3, [], (.cons (.ex (.call 7 (.cons (.var 0) (.cons (.var 1) .nil)) [])) (.cons (.ifs (.not (.call 1 (.cons (.var 2) (.cons (.k (Val.int 0)) (.cons (.g 3) .nil))) [])) (.cons .bad .nil) .nil) .nil))⟩
def fi8 : FInfo := ⟨"check_asked", 3, [], 0⟩
def N8 : List PySem.Str := ["page", "word", "most"]
/-- next_column -/
def d9 : MP.Def := ⟨3, 6, [], (.cons (.set 3 (.lst (.cons (.k (Val.int 0)) .nil))) (.cons (.loop (.tup [(.var 4), (.var 5)]) (.enum (.var 1)) (.cons (.ex (.mtc .append 3 (.cons (.blt .min (.cons (.bin .add (.idx (.var 0) (.bin .add (.var 4) (.k (Val.int 1)))) (.k (Val.int 1))) (.cons (.bin .add (.idx (.var 3) (.var 4)) (.k (Val.int 1))) (.cons (.bin .add (.idx (.var 0) (.var 4)) (.blt .int (.cons (.cmp .ne (.var 5) (.var 2)) .nil))) .nil)))) .nil))) .nil)) (.cons (.ret (.var 3)) .nil)))⟩
def fi9 : FInfo := ⟨"next_column", 3, [], 0⟩
def N9 : List PySem.Str := ["column", "word", "sign", "found", "at", "its"]
/-- raw_slips -/
def d10 : MP.Def := ⟨2, 5, [], (.cons (.set 2 (.blt .listRange (.cons (.bin .add (.blt .len (.cons (.var 1) .nil)) (.k (Val.int 1))) .nil))) (.cons (.set 3 (.lst (.cons (.idx (.var 2) (.neg (.k (Val.int 1)))) .nil))) (.cons (.loop (.var 4) (.e (.var 0)) (.cons (.set 2 (.call 9 (.cons (.var 2) (.cons (.var 1) (.cons (.var 4) .nil))) [])) (.cons (.ex (.mtc .append 3 (.cons (.idx (.var 2) (.neg (.k (Val.int 1)))) .nil))) .nil))) (.cons (.ret (.var 3)) .nil))))⟩
def fi10 : FInfo := ⟨"raw_slips", 2, [], 0⟩
def N10 : List PySem.Str := ["page", "word", "column", "found", "sign"]
/-- slips_row -/
def d11 : MP.Def := ⟨2, 2, [], (.cons (.ex (.call 7 (.cons (.var 0) (.cons (.var 1) .nil)) [])) (.cons (.ret (.blt .tuple (.cons (.call 10 (.cons (.var 0) (.cons (.var 1) .nil)) []) .nil))) .nil))⟩
def fi11 : FInfo := ⟨"slips_row", 2, [], 0⟩
def N11 : List PySem.Str := ["page", "word"]
/-- raw_ends -/
def d12 : MP.Def := ⟨3, 5, [], (.cons (.ret (.lc (.var 3) (.tup [(.var 3), (.var 4)]) (.enum (.call 10 (.cons (.var 0) (.cons (.var 1) .nil)) [])) (.cmp .le (.var 4) (.var 2)) [3, 4])) .nil)⟩
def fi12 : FInfo := ⟨"raw_ends", 3, [], 0⟩
def N12 : List PySem.Str := ["page", "word", "most", "end", "edits"]
/-- ends_within -/
def d13 : MP.Def := ⟨3, 3, [], (.cons (.ex (.call 8 (.cons (.var 0) (.cons (.var 1) (.cons (.var 2) .nil))) [])) (.cons (.ret (.blt .tuple (.cons (.call 12 (.cons (.var 0) (.cons (.var 1) (.cons (.var 2) .nil))) []) .nil))) .nil))⟩
def fi13 : FInfo := ⟨"ends_within", 3, [], 0⟩
def N13 : List PySem.Str := ["page", "word", "most"]
/-- best_end -/
def d14 : MP.Def := ⟨2, 3, [], (.cons (.ex (.call 7 (.cons (.var 0) (.cons (.var 1) .nil)) [])) (.cons (.set 2 (.call 10 (.cons (.var 0) (.cons (.var 1) .nil)) [])) (.cons (.ret (.tup (.cons (.blt .min (.cons (.var 2) .nil)) (.cons (.mtl .index (.var 2) (.cons (.blt .min (.cons (.var 2) .nil)) .nil)) .nil)))) .nil)))⟩
def fi14 : FInfo := ⟨"best_end", 2, [], 0⟩
def N14 : List PySem.Str := ["page", "word", "row"]
/-- longest_at -/
def d15 : MP.Def := ⟨3, 7, [], (.cons (.set 3 (.call 5 (.cons (.rev (.slc (.var 0) (.k .none) (.var 2))) (.cons (.rev (.var 1)) .nil)) [])) (.cons (.set 4 (.lc (.idx (.var 5) (.blt .len (.cons (.var 1) .nil))) (.var 5) (.e (.var 3)) (.k (.bool true)) [5])) (.cons (.ret (.blt .max (.cons (.lc (.var 6) (.tup [(.var 6), (.var 5)]) (.enum (.var 4)) (.cmp .eq (.var 5) (.blt .min (.cons (.var 4) .nil))) [6, 5]) .nil))) .nil)))⟩
def fi15 : FInfo := ⟨"longest_at", 3, [], 0⟩
def N15 : List PySem.Str := ["page", "word", "end", "table", "row", "edits", "long"]
/-- stretch_at -/
def d16 : MP.Def := ⟨3, 3, [], (.cons (.ex (.call 7 (.cons (.var 0) (.cons (.var 1) .nil)) [])) (.cons (.ifs (.not (.call 1 (.cons (.var 2) (.cons (.k (Val.int 0)) (.cons (.blt .len (.cons (.var 0) .nil)) .nil))) [])) (.cons .bad .nil) .nil) (.cons (.ret (.slc (.var 0) (.bin .sub (.var 2) (.call 15 (.cons (.var 0) (.cons (.var 1) (.cons (.var 2) .nil))) [])) (.var 2))) .nil)))⟩
def fi16 : FInfo := ⟨"stretch_at", 3, [], 0⟩
def N16 : List PySem.Str := ["page", "word", "end"]
/-- once_each -/
def d17 : MP.Def := ⟨3, 7, [], (.cons (.ex (.call 8 (.cons (.var 0) (.cons (.var 1) (.cons (.var 2) .nil))) [])) (.cons (.par [3, 4] (.cons (.k (Val.int 0)) (.cons (.k (Val.int 0)) .nil))) (.cons (.loop (.var 5) (.e (.call 12 (.cons (.var 0) (.cons (.var 1) (.cons (.var 2) .nil))) [])) (.cons (.set 6 (.bin .sub (.var 5) (.call 15 (.cons (.var 0) (.cons (.var 1) (.cons (.var 5) .nil))) []))) (.cons (.ifs (.cmp .ge (.var 6) (.var 4)) (.cons (.par [3, 4] (.cons (.bin .add (.var 3) (.k (Val.int 1))) (.cons (.var 5) .nil))) .nil) .nil) .nil))) (.cons (.ret (.var 3)) .nil))))⟩
def fi17 : FInfo := ⟨"once_each", 3, [], 0⟩
def N17 : List PySem.Str := ["page", "word", "most", "found", "last", "end", "begin"]
/-- _law_hand -/
def d18 : MP.Def := ⟨1, 2, [], (.cons (.ret (.lst (.cons (.lc (.blt .abs (.cons (.blt .int (.cons (.var 1) .nil)) .nil)) (.var 1) (.e (.slc (.var 0) (.k .none) (.k (Val.int 63)))) (.k (.bool true)) [1]) (.cons (.k (Val.int 0)) (.cons (.k (Val.int 0)) (.cons (.bin .add (.k (Val.int 487)) (.bin .mul (.k (Val.int 3)) (.blt .len (.cons (.slc (.var 0) (.k .none) (.k (Val.int 63))) .nil)))) (.cons (.k (Val.int 0)) .nil))))))) .nil)⟩
def fi18 : FInfo := ⟨"_law_hand", 1, [], 1⟩
def N18 : List PySem.Str := ["script", "cell"]
/-- _law_draw -/
def d19 : MP.Def := ⟨2, 5, [0], (.cons (.ifs (.and (.cmp .eq (.idx (.var 0) (.k (Val.int 2))) (.k (Val.int 0))) (.cmp .lt (.idx (.var 0) (.k (Val.int 1))) (.blt .len (.cons (.idx (.var 0) (.k (Val.int 0))) .nil)))) (.cons (.set 2 (.idx (.idx (.var 0) (.k (Val.int 0))) (.idx (.var 0) (.k (Val.int 1))))) (.cons (.sti 0 (.k (Val.int 1)) (.bin .add (.idx (.var 0) (.k (Val.int 1))) (.k (Val.int 1)))) (.cons (.sti 0 (.k (Val.int 3)) (.bin .mod (.blt .int (.cons (.bin .add (.bin .add (.bin .mul (.idx (.var 0) (.k (Val.int 3))) (.k (Val.int 69621))) (.bin .mul (.var 2) (.k (Val.int 40692)))) (.k (Val.int 439))) .nil)) (.k (Val.int 2147483629)))) (.cons (.ifs (.cmp .ge (.var 2) (.bin .pow (.k (Val.int 10)) (.k (Val.int 18)))) (.cons (.sti 0 (.k (Val.int 2)) (.var 2)) .nil) .nil) .nil)))) .nil) (.cons (.ifs (.cmp .gt (.idx (.var 0) (.k (Val.int 2))) (.k (Val.int 0))) (.cons (.set 3 (.bin .mod (.blt .int (.cons (.idx (.var 0) (.k (Val.int 2))) .nil)) (.var 1))) (.cons (.sti 0 (.k (Val.int 2)) (.bin .fdiv (.idx (.var 0) (.k (Val.int 2))) (.var 1))) (.cons (.ret (.var 3)) .nil))) .nil) (.cons (.sti 0 (.k (Val.int 4)) (.bin .add (.idx (.var 0) (.k (Val.int 4))) (.k (Val.int 1)))) (.cons (.set 4 (.bin .mod (.blt .int (.cons (.bin .mul (.blt .int (.cons (.bin .add (.idx (.var 0) (.k (Val.int 3))) (.bin .mul (.k (Val.int 7919)) (.idx (.var 0) (.k (Val.int 4))))) .nil)) (.k (Val.int 48271))) .nil)) (.k (Val.int 2147483647)))) (.cons (.set 4 (.bin .mod (.blt .int (.cons (.bin .mul (.var 4) (.bin .add (.bin .fdiv (.var 4) (.k (Val.int 1009))) (.k (Val.int 69621)))) .nil)) (.k (Val.int 2147483647)))) (.cons (.set 4 (.bin .mod (.blt .int (.cons (.bin .mul (.var 4) (.bin .add (.bin .fdiv (.var 4) (.k (Val.int 2003))) (.k (Val.int 40014)))) .nil)) (.k (Val.int 2147483563)))) (.cons (.ret (.bin .mod (.blt .int (.cons (.bin .fdiv (.var 4) (.k (Val.int 16))) .nil)) (.var 1))) .nil)))))))⟩
def fi19 : FInfo := ⟨"_law_draw", 2, [(0, 1)], 0⟩
def N19 : List PySem.Str := ["hand", "many", "cell", "digit", "number"]
/-- _law_any -/
def d20 : MP.Def := ⟨2, 2, [0], (.cons (.ret (.idx (.var 1) (.call 19 (.cons (.var 0) (.cons (.blt .len (.cons (.var 1) .nil)) .nil)) [(0, 0)]))) .nil)⟩
def fi20 : FInfo := ⟨"_law_any", 2, [(0, 1)], 0⟩
def N20 : List PySem.Str := ["hand", "some"]
/-- _law_same -/
def d21 : MP.Def := ⟨2, 2, [], (.cons (.ret (.cmp .eq (.blt .repr (.cons (.var 0) .nil)) (.blt .repr (.cons (.var 1) .nil)))) .nil)⟩
def fi21 : FInfo := ⟨"_law_same", 2, [], 0⟩
def N21 : List PySem.Str := ["one", "other"]
/-- _law_page -/
def d22 : MP.Def := ⟨2, 4, [0], (.cons (.set 2 (.call 20 (.cons (.var 0) (.cons (.lst (.cons (.k (Val.str [97, 98])) (.cons (.k (Val.str [97, 98, 99])) (.cons (.k (Val.str [97, 98, 99, 100])) .nil)))) .nil)) [(0, 0)])) (.cons (.ret (.mth .join (.k (Val.str [])) (.cons (.lc (.call 20 (.cons (.var 0) (.cons (.blt .listTxt (.cons (.var 2) .nil)) .nil)) [(0, 0)]) (.var 3) (.rng (.cons (.call 19 (.cons (.var 0) (.cons (.bin .add (.var 1) (.k (Val.int 1))) .nil)) [(0, 0)]) .nil)) (.k (.bool true)) [3]) .nil))) .nil))⟩
def fi22 : FInfo := ⟨"_law_page", 2, [(0, 1)], 0⟩
def N22 : List PySem.Str := ["hand", "most", "letters", "place"]
/-- _law_edits -/
def d23 : MP.Def := ⟨2, 8, [], (.cons (.set 2 (.blt .listRange (.cons (.bin .add (.blt .len (.cons (.var 1) .nil)) (.k (Val.int 1))) .nil))) (.cons (.loop (.tup [(.var 3), (.var 4)]) (.enum (.var 0)) (.cons (.set 5 (.lst (.cons (.bin .add (.var 3) (.k (Val.int 1))) .nil))) (.cons (.loop (.tup [(.var 6), (.var 7)]) (.enum (.var 1)) (.cons (.ex (.mtc .append 5 (.cons (.blt .min (.cons (.bin .add (.idx (.var 5) (.neg (.k (Val.int 1)))) (.k (Val.int 1))) (.cons (.bin .add (.idx (.var 2) (.bin .add (.var 6) (.k (Val.int 1)))) (.k (Val.int 1))) (.cons (.bin .add (.idx (.var 2) (.var 6)) (.blt .int (.cons (.cmp .ne (.var 7) (.var 4)) .nil))) .nil)))) .nil))) .nil)) (.cons (.set 2 (.var 5)) .nil)))) (.cons (.ret (.idx (.var 2) (.neg (.k (Val.int 1))))) .nil)))⟩
def fi23 : FInfo := ⟨"_law_edits", 2, [], 0⟩
def N23 : List PySem.Str := ["one", "other", "ahead", "at", "letter", "row", "spot_here", "sign"]
/-- _law_stretches -/
def d24 : MP.Def := ⟨3, 6, [], (.cons (.set 3 (.lst .nil)) (.cons (.loop (.var 4) (.rng (.cons (.bin .add (.var 2) (.k (Val.int 1))) .nil)) (.cons (.set 5 (.slc (.var 0) (.bin .sub (.var 2) (.var 4)) (.var 2))) (.cons (.ex (.mtc .append 3 (.cons (.tup (.cons (.call 23 (.cons (.var 5) (.cons (.var 1) .nil)) []) (.cons (.bin .sub (.k (Val.int 0)) (.var 4)) (.cons (.var 5) .nil)))) .nil))) .nil))) (.cons (.ret (.tup (.cons (.idx (.blt .minD (.cons (.var 3) .nil)) (.k (Val.int 0))) (.cons (.idx (.blt .minD (.cons (.var 3) .nil)) (.k (Val.int 2))) .nil)))) .nil)))⟩
def fi24 : FInfo := ⟨"_law_stretches", 3, [], 0⟩
def N24 : List PySem.Str := ["page", "word", "end", "some", "size", "stretch"]
/-- _law_row -/
def d25 : MP.Def := ⟨2, 3, [], (.cons (.ret (.lc (.idx (.call 24 (.cons (.var 0) (.cons (.var 1) (.cons (.var 2) .nil))) []) (.k (Val.int 0))) (.var 2) (.rng (.cons (.bin .add (.blt .len (.cons (.var 0) .nil)) (.k (Val.int 1))) .nil)) (.k (.bool true)) [2])) .nil)⟩
def fi25 : FInfo := ⟨"_law_row", 2, [], 0⟩
def N25 : List PySem.Str := ["page", "word", "end"]
/-- _law_once -/
def d26 : MP.Def := ⟨3, 10, [], (.cons (.set 3 (.lst .nil)) (.cons (.loop (.var 4) (.rng (.cons (.bin .add (.blt .len (.cons (.var 0) .nil)) (.k (Val.int 1))) .nil)) (.cons (.set 5 (.ite (.cmp .gt (.var 4) (.k (Val.int 0))) (.idx (.var 3) (.neg (.k (Val.int 1)))) (.k (Val.int 0)))) (.cons (.unp (.tup [(.var 6), (.var 7)]) (.call 24 (.cons (.var 0) (.cons (.var 1) (.cons (.var 4) .nil))) [])) (.cons (.ifs (.cmp .le (.var 6) (.var 2)) (.cons (.set 8 (.bin .sub (.var 4) (.blt .len (.cons (.var 7) .nil)))) (.cons (.set 9 (.ite (.cmp .lt (.var 8) (.var 4)) (.idx (.var 3) (.var 8)) (.var 5))) (.cons (.set 5 (.blt .max (.cons (.var 5) (.cons (.bin .add (.var 9) (.k (Val.int 1))) .nil)))) .nil))) .nil) (.cons (.ex (.mtc .append 3 (.cons (.var 5) .nil))) .nil))))) (.cons (.ret (.idx (.var 3) (.neg (.k (Val.int 1))))) .nil)))⟩
def fi26 : FInfo := ⟨"_law_once", 3, [], 0⟩
def N26 : List PySem.Str := ["page", "word", "most", "best", "end", "ahead", "many", "stretch", "begin", "before"]
/-- _law_is_right -/
def d27 : MP.Def := ⟨3, 10, [0], (.cons (.set 3 (.call 25 (.cons (.var 1) (.cons (.var 2) .nil)) [])) (.cons (.ifs (.not (.call 21 (.cons (.call 11 (.cons (.var 1) (.cons (.var 2) .nil)) []) (.cons (.blt .tuple (.cons (.var 3) .nil)) .nil)) [])) (.cons (.ret (.k (Val.bool false))) .nil) .nil) (.cons (.ifs (.not (.blt .all (.cons (.lc (.cmp .lt (.blt .abs (.cons (.bin .sub (.var 4) (.var 5)) .nil)) (.k (Val.int 2))) (.tup [(.var 4), (.var 5)]) (.zip (.var 3) (.slc (.var 3) (.k (Val.int 1)) (.k .none))) (.k (.bool true)) [4, 5]) .nil))) (.cons (.ret (.k (Val.bool false))) .nil) .nil) (.cons (.ifs (.not (.call 21 (.cons (.call 14 (.cons (.var 1) (.cons (.var 2) .nil)) []) (.cons (.tup (.cons (.blt .min (.cons (.var 3) .nil)) (.cons (.mtl .index (.var 3) (.cons (.blt .min (.cons (.var 3) .nil)) .nil)) .nil))) .nil)) [])) (.cons (.ret (.k (Val.bool false))) .nil) .nil) (.cons (.loop (.var 6) (.rng (.cons (.bin .add (.blt .len (.cons (.var 1) .nil)) (.k (Val.int 1))) .nil)) (.cons (.ifs (.not (.call 21 (.cons (.call 16 (.cons (.var 1) (.cons (.var 2) (.cons (.var 6) .nil))) []) (.cons (.idx (.call 24 (.cons (.var 1) (.cons (.var 2) (.cons (.var 6) .nil))) []) (.k (Val.int 1))) .nil)) [])) (.cons (.ret (.k (Val.bool false))) .nil) .nil) .nil)) (.cons (.loop (.var 7) (.e (.tup (.cons (.k (Val.int 0)) (.cons (.k (Val.int 1)) (.cons (.call 19 (.cons (.var 0) (.cons (.k (Val.int 13)) .nil)) [(0, 0)]) .nil))))) (.cons (.set 8 (.blt .tuple (.cons (.lc (.var 6) (.tup [(.var 6), (.var 9)]) (.enum (.var 3)) (.cmp .le (.var 9) (.var 7)) [6, 9]) .nil))) (.cons (.ifs (.not (.call 21 (.cons (.call 13 (.cons (.var 1) (.cons (.var 2) (.cons (.var 7) .nil))) []) (.cons (.var 8) .nil)) [])) (.cons (.ret (.k (Val.bool false))) .nil) .nil) (.cons (.ifs (.not (.call 21 (.cons (.call 17 (.cons (.var 1) (.cons (.var 2) (.cons (.var 7) .nil))) []) (.cons (.call 26 (.cons (.var 1) (.cons (.var 2) (.cons (.var 7) .nil))) []) .nil)) [])) (.cons (.ret (.k (Val.bool false))) .nil) .nil) .nil)))) (.cons (.ret (.k (Val.bool true))) .nil)))))))⟩
def fi27 : FInfo := ⟨"_law_is_right", 3, [(0, 1)], 0⟩
def N27 : List PySem.Str := ["hand", "page", "word", "row", "one", "other", "end", "most", "due", "many"]
/-- law -/
def d28 : MP.Def := ⟨1, 5, [], (.cons (.set 1 (.call 18 (.cons (.var 0) .nil) [])) (.cons (.ifs (.or (.cmp .ne (.call 11 (.cons (.k (Val.str [97, 98, 120, 97, 98])) (.cons (.k (Val.str [97, 98])) .nil)) []) (.tup (.cons (.k (Val.int 2)) (.cons (.k (Val.int 1)) (.cons (.k (Val.int 0)) (.cons (.k (Val.int 1)) (.cons (.k (Val.int 1)) (.cons (.k (Val.int 0)) .nil)))))))) (.cmp .ne (.call 13 (.cons (.k (Val.str [97, 98, 120, 97, 98])) (.cons (.k (Val.str [97, 98])) (.cons (.k (Val.int 0)) .nil))) []) (.tup (.cons (.k (Val.int 2)) (.cons (.k (Val.int 5)) .nil))))) (.cons (.ret (.k (Val.bool false))) .nil) .nil) (.cons (.ifs (.or (.cmp .ne (.call 16 (.cons (.k (Val.str [97, 98, 120, 97, 98])) (.cons (.k (Val.str [97, 98])) (.cons (.k (Val.int 3)) .nil))) []) (.k (Val.str [97, 98, 120]))) (.cmp .ne (.call 14 (.cons (.k (Val.str [97, 98, 120, 97, 98])) (.cons (.k (Val.str [97, 98])) .nil)) []) (.tup (.cons (.k (Val.int 0)) (.cons (.k (Val.int 2)) .nil))))) (.cons (.ret (.k (Val.bool false))) .nil) .nil) (.cons (.ifs (.cmp .ne (.call 17 (.cons (.k (Val.str [97, 98, 120, 97, 98])) (.cons (.k (Val.str [97, 98])) (.cons (.k (Val.int 0)) .nil))) []) (.k (Val.int 2))) (.cons (.ret (.k (Val.bool false))) .nil) .nil) (.cons (.loop (.var 2) (.rng (.cons (.k (Val.int 5)) .nil)) (.cons (.par [3, 4] (.cons (.call 22 (.cons (.var 1) (.cons (.k (Val.int 10)) .nil)) [(0, 1)]) (.cons (.bin .add (.call 22 (.cons (.var 1) (.cons (.k (Val.int 3)) .nil)) [(0, 1)]) (.k (Val.str [97]))) .nil))) (.cons (.set 4 (.call 20 (.cons (.var 1) (.cons (.lst (.cons (.var 4) (.cons (.bin .add (.slc (.var 3) (.k (Val.int 1)) (.k (Val.int 4))) (.k (Val.str [98]))) .nil))) .nil)) [(0, 1)])) (.cons (.ifs (.not (.call 27 (.cons (.var 1) (.cons (.var 3) (.cons (.var 4) .nil))) [(0, 1)])) (.cons (.ret (.k (Val.bool false))) .nil) .nil) .nil)))) (.cons (.ret (.k (Val.bool true))) .nil))))))⟩
def fi28 : FInfo := ⟨"law", 1, [], 0⟩
def N28 : List PySem.Str := ["script", "hand", "turn", "page", "word"]
def con (j : Nat) : Val := match j with
  | 0 => (Val.str [97, 98, 99, 100, 101, 102, 103, 104, 105, 106, 107, 108, 109, 110, 111, 112, 113, 114, 115, 116, 117, 118, 119, 120, 121, 122])
  | 1 => (Val.int 12)
  | 2 => (Val.int 60)
  | 3 => (Val.int 12)
  | _ => .none
def P : Prog := ⟨[d0, d1, d2, d3, d4, d5, d6, d7, d8, d9, d10, d11, d12, d13, d14, d15, d16, d17, d18, d19, d20, d21, d22, d23, d24, d25, d26, d27, d28], con, shownOf, 0⟩
def free : List PySem.Str := ["abs", "all", "bool", "enumerate", "int", "isinstance", "len", "list", "max", "min", "range", "repr", "str", "tuple", "zip"]
def S : Stat := ⟨P, [fi0, fi1, fi2, fi3, fi4, fi5, fi6, fi7, fi8, fi9, fi10, fi11, fi12, fi13, fi14, fi15, fi16, fi17, fi18, fi19, fi20, fi21, fi22, fi23, fi24, fi25, fi26, fi27, fi28], ["LETTERS", "MOST_TEXT", "MOST_PAGE", "MOST_SLIPS"], free, fun _ _ _ _ _ => False⟩
theorem b0 : JSs ⟨S, N0, defScope (top 9), fun _ => true, fi0.io, fi0.ret, []⟩ (modes fi0.np fi0.io ++ List.replicate (N0.length - fi0.np) 0) (defBody (top 9)) d0.body [0] := by
  show JSs ⟨S, N0, defScope (top 9), fun _ => true, [], 0, []⟩ [0] _ _ _
  exact (jss_cons (Γ1 := [0]) (js_ret (b := true) (by decide +kernel) (je_and (JE.frz (je_isi (bn_isinstance (by decide +kernel) (by decide +kernel)) (bn_int (by decide +kernel) (by decide +kernel)) (fun _ _ => rfl) (jb_var rfl (vis_by (by decide +kernel)) (by decide +kernel)))) (je_one (je_not (JE.lent (je_isi (bn_isinstance (by decide +kernel) (by decide +kernel)) (bn_bool (by decide +kernel) (by decide +kernel)) (fun _ _ => rfl) (jb_var rfl (vis_by (by decide +kernel)) (by decide +kernel)))))))) jss_nil)
def p0 : DefP := ⟨"is_integer", ["thing"], N0, defArgs (top 9), defBody (top 9), defScope (top 9), d0⟩
theorem good0 : DefGood S 0 fi0 p0 := ⟨rfl, C8.fnScope_by (by decide +kernel), defOk_by rfl (by decide +kernel), rfl, fun _ _ _ _ _ _ us hl => match us, hl with | [_], _ => rfl, ⟨_, b0, by decide +kernel⟩⟩
theorem b1 : JSs ⟨S, N1, defScope (top 10), fun _ => true, fi1.io, fi1.ret, []⟩ (modes fi1.np fi1.io ++ List.replicate (N1.length - fi1.np) 0) (defBody (top 10)) d1.body [0, 0, 0] := by
  show JSs ⟨S, N1, defScope (top 10), fun _ => true, [], 0, []⟩ [0, 0, 0] _ _ _
  exact (jss_cons (Γ1 := [0, 0, 0]) (js_ret (b := true) (by decide +kernel) (je_and (je_call (fi := fi0) (ss := [none]) rfl (by decide +kernel) (by decide +kernel) (fun _ _ => rfl) (fun _ => rfl) (callOk_by (by decide +kernel)) (by decide +kernel) (ja_val (fun _ _ => rfl) (je_var rfl (vis_by (by decide +kernel)) rfl) ja_nil)) (je_one (JE.frz (je_chain c_le c_le (jb_var rfl (vis_by (by decide +kernel)) (by decide +kernel)) (jb_var rfl (vis_by (by decide +kernel)) (by decide +kernel)) (jb_var rfl (vis_by (by decide +kernel)) (by decide +kernel)) rfl))))) jss_nil)
def p1 : DefP := ⟨"is_within", ["thing", "least", "most"], N1, defArgs (top 10), defBody (top 10), defScope (top 10), d1⟩
theorem good1 : DefGood S 1 fi1 p1 := ⟨rfl, C8.fnScope_by (by decide +kernel), defOk_by rfl (by decide +kernel), rfl, fun _ _ _ _ _ _ us hl => match us, hl with | [_, _, _], _ => rfl, ⟨_, b1, by decide +kernel⟩⟩
theorem b2 : JSs ⟨S, N2, defScope (top 11), fun _ => true, fi2.io, fi2.ret, []⟩ (modes fi2.np fi2.io ++ List.replicate (N2.length - fi2.np) 0) (defBody (top 11)) d2.body [0, 0, 0, 0] := by
  show JSs ⟨S, N2, defScope (top 11), fun _ => true, [], 0, []⟩ [0, 0, 0, 0] _ _ _
  exact (jss_cons (Γ1 := [0, 0, 0, 0]) (js_ret (b := true) (by decide +kernel) (je_and (JE.frz (je_isi (bn_isinstance (by decide +kernel) (by decide +kernel)) (bn_str (by decide +kernel) (by decide +kernel)) (fun _ _ => rfl) (jb_var rfl (vis_by (by decide +kernel)) (by decide +kernel)))) (je_and (JE.frz (je_chain c_le c_le (jb_var rfl (vis_by (by decide +kernel)) (by decide +kernel)) (JE.lent (je_len (bn_len (by decide +kernel) (by decide +kernel)) (fun _ _ => rfl) (jb_var rfl (vis_by (by decide +kernel)) (by decide +kernel)))) (jb_var rfl (vis_by (by decide +kernel)) (by decide +kernel)) rfl)) (je_one (JE.frz (je_all (bn_all (by decide +kernel) (by decide +kernel)) (fun _ _ => rfl) (JE.lent (je_lc (k := 0) (own := [("sign", 3)]) (pb := true) (fz := true) (by decide +kernel) (by decide +kernel) (by decide +kernel) (by decide +kernel) (has_by (by decide +kernel)) (ji_e (JE.z (je_var rfl (vis_by (by decide +kernel)) rfl))) (jg_var rfl (by decide +kernel) rfl) jts_nil (JE.frz (je_cmp c_in (J2.v (je_var rfl (vis_by (by decide +kernel)) rfl) (JE.lent (k := 0) (je_con rfl rfl (by decide +kernel)))) rfl)) (fun _ _ => rfl))))))))) jss_nil)
def p2 : DefP := ⟨"is_letters", ["thing", "least", "most"], N2, defArgs (top 11), defBody (top 11), defScope (top 11), d2⟩
theorem good2 : DefGood S 2 fi2 p2 := ⟨rfl, C8.fnScope_by (by decide +kernel), defOk_by rfl (by decide +kernel), rfl, fun _ _ _ _ _ _ us hl => match us, hl with | [_, _, _], _ => rfl, ⟨_, b2, by decide +kernel⟩⟩
theorem b3 : JSs ⟨S, N3, defScope (top 12), fun _ => true, fi3.io, fi3.ret, []⟩ (modes fi3.np fi3.io ++ List.replicate (N3.length - fi3.np) 0) (defBody (top 12)) d3.body [0] := by
  show JSs ⟨S, N3, defScope (top 12), fun _ => true, [], 0, []⟩ [0] _ _ _
  exact (jss_cons (Γ1 := [0]) (js_ret (b := true) (by decide +kernel) (je_call (fi := fi2) (ss := [none, none, none]) rfl (by decide +kernel) (by decide +kernel) (fun _ _ => rfl) (fun _ => rfl) (callOk_by (by decide +kernel)) (by decide +kernel) (ja_val (fun _ _ => rfl) (je_var rfl (vis_by (by decide +kernel)) rfl) (ja_val (fun _ _ => rfl) je_int (ja_val (fun _ _ => rfl) (je_con rfl rfl (by decide +kernel)) ja_nil))))) jss_nil)
def p3 : DefP := ⟨"is_word", ["thing"], N3, defArgs (top 12), defBody (top 12), defScope (top 12), d3⟩
theorem good3 : DefGood S 3 fi3 p3 := ⟨rfl, C8.fnScope_by (by decide +kernel), defOk_by rfl (by decide +kernel), rfl, fun _ _ _ _ _ _ us hl => match us, hl with | [_], _ => rfl, ⟨_, b3, by decide +kernel⟩⟩
theorem b4 : JSs ⟨S, N4, defScope (top 13), fun _ => true, fi4.io, fi4.ret, []⟩ (modes fi4.np fi4.io ++ List.replicate (N4.length - fi4.np) 0) (defBody (top 13)) d4.body [0] := by
  show JSs ⟨S, N4, defScope (top 13), fun _ => true, [], 0, []⟩ [0] _ _ _
  exact (jss_cons (Γ1 := [0])
  (js_if (b := true) (Γ' := [0]) (jt_not (jt_of (JE.lent (je_call (fi := fi3) (ss := [none]) rfl (by decide +kernel) (by decide +kernel) (fun _ _ => rfl) (fun _ => rfl) (callOk_by (by decide +kernel)) (by decide +kernel) (ja_val (fun _ _ => rfl) (je_var rfl (vis_by (by decide +kernel)) rfl) ja_nil))) (fun _ _ => rfl))) (jss_cons (Γ1 := [0]) js_bad jss_nil) jss_nil)
  jss_nil)
def p4 : DefP := ⟨"check_word", ["thing"], N4, defArgs (top 13), defBody (top 13), defScope (top 13), d4⟩
theorem good4 : DefGood S 4 fi4 p4 := ⟨rfl, C8.fnScope_by (by decide +kernel), defOk_by rfl (by decide +kernel), rfl, fun _ _ _ _ _ _ us hl => match us, hl with | [_], _ => rfl, ⟨_, b4, by decide +kernel⟩⟩
theorem b5 : JSs ⟨S, N5, defScope (top 15), fun _ => true, fi5.io, fi5.ret, []⟩ (modes fi5.np fi5.io ++ List.replicate (N5.length - fi5.np) 0) (defBody (top 15)) d5.body [0, 0, 0, 0, 0, 0, 0, 0] := by
  show JSs ⟨S, N5, defScope (top 15), fun _ => true, [], 0, []⟩ [0, 0, 0, 0, 0, 0, 0, 0] _ _ _
  exact (jss_cons (Γ1 := [0, 0, 1, 0, 0, 0, 0, 0])
  (js_set (b := true) (k := 1) rfl (by decide +kernel) (by decide +kernel) (by decide +kernel) (je_lst (ja_val (fun _ _ => rfl) (JE.frz (je_listRange (bn_list (by decide +kernel) (by decide +kernel)) (bn_range (by decide +kernel) (by decide +kernel)) (fun _ _ => rfl) (JE.lent (je_add (J2.v (JE.frz (je_len (bn_len (by decide +kernel) (by decide +kernel)) (fun _ _ => rfl) (jb_var rfl (vis_by (by decide +kernel)) (by decide +kernel)))) (JE.lent (k := 0) je_int)))))) ja_nil) (by decide +kernel) (by decide +kernel)) (fun _ => rfl))
  (jss_cons (Γ1 := [0, 0, 1, 0, 0, 0, 0, 0])
  (js_for (b := true) (Γ := [0, 0, 1, 0, 0, 0, 0, 0]) (Γ' := [0, 0, 1, 0, 0, 0, 0, 0]) (by decide +kernel) (ji_enum (bn_enumerate (by decide +kernel) (by decide +kernel)) (fun _ _ => rfl) (JE.z (je_var rfl (vis_by (by decide +kernel)) rfl))) (jg_tup (jgs_cons (jg_var rfl (by decide +kernel) rfl) (jgs_cons (jg_var rfl (by decide +kernel) rfl) jgs_nil (fun _ => rfl)) (fun _ => rfl)) (fun _ => rfl) (fun _ => rfl)) (jss_cons (Γ1 := [0, 0, 1, 0, 0, 1, 0, 0])
  (js_set (b := true) (k := 1) rfl (by decide +kernel) (by decide +kernel) (by decide +kernel) (je_lst (ja_val (fun _ _ => rfl) (JE.frz (je_add (J2.v (je_var rfl (vis_by (by decide +kernel)) rfl) (JE.lent (k := 0) je_int)))) ja_nil) (by decide +kernel) (by decide +kernel)) (fun _ => rfl))
  (jss_cons (Γ1 := [0, 0, 1, 0, 0, 1, 0, 0])
  (js_for (b := true) (Γ := [0, 0, 1, 0, 0, 1, 0, 0]) (Γ' := [0, 0, 1, 0, 0, 1, 0, 0]) (by decide +kernel) (ji_enum (bn_enumerate (by decide +kernel) (by decide +kernel)) (fun _ _ => rfl) (JE.z (je_var rfl (vis_by (by decide +kernel)) rfl))) (jg_tup (jgs_cons (jg_var rfl (by decide +kernel) rfl) (jgs_cons (jg_var rfl (by decide +kernel) rfl) jgs_nil (fun _ => rfl)) (fun _ => rfl)) (fun _ => rfl) (fun _ => rfl)) (jss_cons (Γ1 := [0, 0, 1, 0, 0, 1, 0, 0])
  (js_ex (b := false) (jm_append rfl (vis_by (by decide +kernel)) rfl (by decide +kernel) (fun _ _ => rfl) (fun _ => rfl) (fun _ => rfl) rfl (fun _ => rfl) (ja_val (fun _ _ => rfl) (je_min3 (bn_min (by decide +kernel) (by decide +kernel)) (fun _ _ => rfl) (fun _ _ => rfl) (fun _ _ => rfl) (ja_val (fun _ _ => rfl) (JE.frz (je_add (J2.v (je_idx (fun _ _ => rfl) (J2.v (je_idx (fun _ _ => rfl) (J2.l (jb_var rfl (vis_by (by decide +kernel)) (by decide +kernel)) (jb_var rfl (vis_by (by decide +kernel)) (by decide +kernel)))) (JE.lent (je_add (J2.v (je_var rfl (vis_by (by decide +kernel)) rfl) (JE.lent (k := 0) je_int)))))) (JE.lent (k := 0) je_int)))) (ja_val (fun _ _ => rfl) (JE.frz (je_add (J2.v (je_idx (fun _ _ => rfl) (J2.l (jb_var rfl (vis_by (by decide +kernel)) (by decide +kernel)) (jb_var rfl (vis_by (by decide +kernel)) (by decide +kernel)))) (JE.lent (k := 0) je_int)))) (ja_val (fun _ _ => rfl) (JE.frz (je_add (J2.v (je_idx (fun _ _ => rfl) (J2.v (je_idx (fun _ _ => rfl) (J2.l (jb_var rfl (vis_by (by decide +kernel)) (by decide +kernel)) (jb_var rfl (vis_by (by decide +kernel)) (by decide +kernel)))) (jb_var rfl (vis_by (by decide +kernel)) (by decide +kernel)))) (JE.lent (je_toint (bn_int (by decide +kernel) (by decide +kernel)) (fun _ _ => rfl) (JE.lent (je_cmp c_ne (J2.v (je_var rfl (vis_by (by decide +kernel)) rfl) (jb_var rfl (vis_by (by decide +kernel)) (by decide +kernel))) rfl))))))) ja_nil)))) ja_nil)) (fun _ => rfl))
  jss_nil) (by decide +kernel) (fun _ _ => rfl))
  (jss_cons (Γ1 := [0, 0, 1, 0, 0, 0, 0, 0])
  (JS.pre (Γ1 := [0, 0, 1, 0, 0, 0, 0, 0]) (by decide +kernel) (js_ex (b := false) (jm_append rfl (vis_by (by decide +kernel)) rfl (by decide +kernel) (fun _ _ => rfl) (fun _ => rfl) (fun _ => rfl) rfl (fun _ => rfl) (ja_val (fun _ _ => rfl) (je_var rfl (vis_by (by decide +kernel)) rfl) ja_nil)) (fun _ => rfl)))
  jss_nil))) (by decide +kernel) (fun _ _ => rfl))
  (jss_cons (Γ1 := [0, 0, 0, 0, 0, 0, 0, 0]) (JS.pre (Γ1 := [0, 0, 0, 0, 0, 0, 0, 0]) (by decide +kernel) (js_ret (b := true) (by decide +kernel) (je_var rfl (vis_by (by decide +kernel)) rfl))) jss_nil)))
def p5 : DefP := ⟨"edit_table", ["one", "other"], N5, defArgs (top 15), defBody (top 15), defScope (top 15), d5⟩
theorem good5 : DefGood S 5 fi5 p5 := ⟨rfl, C8.fnScope_by (by decide +kernel), defOk_by rfl (by decide +kernel), rfl, fun _ _ _ _ _ _ us hl => match us, hl with | [_, _], _ => rfl, ⟨_, b5, by decide +kernel⟩⟩
theorem b6 : JSs ⟨S, N6, defScope (top 19), fun _ => true, fi6.io, fi6.ret, []⟩ (modes fi6.np fi6.io ++ List.replicate (N6.length - fi6.np) 0) (defBody (top 19)) d6.body [0] := by
  show JSs ⟨S, N6, defScope (top 19), fun _ => true, [], 0, []⟩ [0] _ _ _
  exact (jss_cons (Γ1 := [0])
  (js_if (b := true) (Γ' := [0]) (jt_not (jt_of (JE.lent (je_call (fi := fi2) (ss := [none, none, none]) rfl (by decide +kernel) (by decide +kernel) (fun _ _ => rfl) (fun _ => rfl) (callOk_by (by decide +kernel)) (by decide +kernel) (ja_val (fun _ _ => rfl) (je_var rfl (vis_by (by decide +kernel)) rfl) (ja_val (fun _ _ => rfl) je_int (ja_val (fun _ _ => rfl) (je_con rfl rfl (by decide +kernel)) ja_nil))))) (fun _ _ => rfl))) (jss_cons (Γ1 := [0]) js_bad jss_nil) jss_nil)
  jss_nil)
def p6 : DefP := ⟨"check_page", ["page"], N6, defArgs (top 19), defBody (top 19), defScope (top 19), d6⟩
theorem good6 : DefGood S 6 fi6 p6 := ⟨rfl, C8.fnScope_by (by decide +kernel), defOk_by rfl (by decide +kernel), rfl, fun _ _ _ _ _ _ us hl => match us, hl with | [_], _ => rfl, ⟨_, b6, by decide +kernel⟩⟩
theorem b7 : JSs ⟨S, N7, defScope (top 20), fun _ => true, fi7.io, fi7.ret, []⟩ (modes fi7.np fi7.io ++ List.replicate (N7.length - fi7.np) 0) (defBody (top 20)) d7.body [0, 0] := by
  show JSs ⟨S, N7, defScope (top 20), fun _ => true, [], 0, []⟩ [0, 0] _ _ _
  exact (jss_cons (Γ1 := [0, 0])
  (js_ex (b := true) (je_call (fi := fi6) (ss := [none]) rfl (by decide +kernel) (by decide +kernel) (fun _ _ => rfl) (fun _ => rfl) (callOk_by (by decide +kernel)) (by decide +kernel) (ja_val (fun _ _ => rfl) (je_var rfl (vis_by (by decide +kernel)) rfl) ja_nil)) (fun _ => rfl))
  (jss_cons (Γ1 := [0, 0])
  (js_ex (b := true) (je_call (fi := fi4) (ss := [none]) rfl (by decide +kernel) (by decide +kernel) (fun _ _ => rfl) (fun _ => rfl) (callOk_by (by decide +kernel)) (by decide +kernel) (ja_val (fun _ _ => rfl) (je_var rfl (vis_by (by decide +kernel)) rfl) ja_nil)) (fun _ => rfl))
  jss_nil))
def p7 : DefP := ⟨"check_both", ["page", "word"], N7, defArgs (top 20), defBody (top 20), defScope (top 20), d7⟩
theorem good7 : DefGood S 7 fi7 p7 := ⟨rfl, C8.fnScope_by (by decide +kernel), defOk_by rfl (by decide +kernel), rfl, fun _ _ _ _ _ _ us hl => match us, hl with | [_, _], _ => rfl, ⟨_, b7, by decide +kernel⟩⟩
theorem b8 : JSs ⟨S, N8, defScope (top 21), fun _ => true, fi8.io, fi8.ret, []⟩ (modes fi8.np fi8.io ++ List.replicate (N8.length - fi8.np) 0) (defBody (top 21)) d8.body [0, 0, 0] := by
  show JSs ⟨S, N8, defScope (top 21), fun _ => true, [], 0, []⟩ [0, 0, 0] _ _ _
  exact (jss_cons (Γ1 := [0, 0, 0])
  (js_ex (b := true) (je_call (fi := fi7) (ss := [none, none]) rfl (by decide +kernel) (by decide +kernel) (fun _ _ => rfl) (fun _ => rfl) (callOk_by (by decide +kernel)) (by decide +kernel) (ja_val (fun _ _ => rfl) (je_var rfl (vis_by (by decide +kernel)) rfl) (ja_val (fun _ _ => rfl) (je_var rfl (vis_by (by decide +kernel)) rfl) ja_nil))) (fun _ => rfl))
  (jss_cons (Γ1 := [0, 0, 0])
  (js_if (b := true) (Γ' := [0, 0, 0]) (jt_not (jt_of (JE.lent (je_call (fi := fi1) (ss := [none, none, none]) rfl (by decide +kernel) (by decide +kernel) (fun _ _ => rfl) (fun _ => rfl) (callOk_by (by decide +kernel)) (by decide +kernel) (ja_val (fun _ _ => rfl) (je_var rfl (vis_by (by decide +kernel)) rfl) (ja_val (fun _ _ => rfl) je_int (ja_val (fun _ _ => rfl) (je_con rfl rfl (by decide +kernel)) ja_nil))))) (fun _ _ => rfl))) (jss_cons (Γ1 := [0, 0, 0]) js_bad jss_nil) jss_nil)
  jss_nil))
def p8 : DefP := ⟨"check_asked", ["page", "word", "most"], N8, defArgs (top 21), defBody (top 21), defScope (top 21), d8⟩
theorem good8 : DefGood S 8 fi8 p8 := ⟨rfl, C8.fnScope_by (by decide +kernel), defOk_by rfl (by decide +kernel), rfl, fun _ _ _ _ _ _ us hl => match us, hl with | [_, _, _], _ => rfl, ⟨_, b8, by decide +kernel⟩⟩
theorem b9 : JSs ⟨S, N9, defScope (top 22), fun _ => true, fi9.io, fi9.ret, []⟩ (modes fi9.np fi9.io ++ List.replicate (N9.length - fi9.np) 0) (defBody (top 22)) d9.body [0, 0, 0, 0, 0, 0] := by
  show JSs ⟨S, N9, defScope (top 22), fun _ => true, [], 0, []⟩ [0, 0, 0, 0, 0, 0] _ _ _
  exact (jss_cons (Γ1 := [0, 0, 0, 1, 0, 0])
  (js_set (b := true) (k := 1) rfl (by decide +kernel) (by decide +kernel) (by decide +kernel) (je_lst (ja_val (fun _ _ => rfl) je_int ja_nil) (by decide +kernel) (by decide +kernel)) (fun _ => rfl))
  (jss_cons (Γ1 := [0, 0, 0, 1, 0, 0])
  (js_for (b := true) (Γ := [0, 0, 0, 1, 0, 0]) (Γ' := [0, 0, 0, 1, 0, 0]) (by decide +kernel) (ji_enum (bn_enumerate (by decide +kernel) (by decide +kernel)) (fun _ _ => rfl) (JE.z (je_var rfl (vis_by (by decide +kernel)) rfl))) (jg_tup (jgs_cons (jg_var rfl (by decide +kernel) rfl) (jgs_cons (jg_var rfl (by decide +kernel) rfl) jgs_nil (fun _ => rfl)) (fun _ => rfl)) (fun _ => rfl) (fun _ => rfl)) (jss_cons (Γ1 := [0, 0, 0, 1, 0, 0])
  (js_ex (b := false) (jm_append rfl (vis_by (by decide +kernel)) rfl (by decide +kernel) (fun _ _ => rfl) (fun _ => rfl) (fun _ => rfl) rfl (fun _ => rfl) (ja_val (fun _ _ => rfl) (je_min3 (bn_min (by decide +kernel) (by decide +kernel)) (fun _ _ => rfl) (fun _ _ => rfl) (fun _ _ => rfl) (ja_val (fun _ _ => rfl) (JE.frz (je_add (J2.v (je_idx (fun _ _ => rfl) (J2.v (je_var rfl (vis_by (by decide +kernel)) rfl) (JE.lent (je_add (J2.v (je_var rfl (vis_by (by decide +kernel)) rfl) (JE.lent (k := 0) je_int)))))) (JE.lent (k := 0) je_int)))) (ja_val (fun _ _ => rfl) (JE.frz (je_add (J2.v (je_idx (fun _ _ => rfl) (J2.l (jb_var rfl (vis_by (by decide +kernel)) (by decide +kernel)) (jb_var rfl (vis_by (by decide +kernel)) (by decide +kernel)))) (JE.lent (k := 0) je_int)))) (ja_val (fun _ _ => rfl) (JE.frz (je_add (J2.v (je_idx (fun _ _ => rfl) (J2.v (je_var rfl (vis_by (by decide +kernel)) rfl) (jb_var rfl (vis_by (by decide +kernel)) (by decide +kernel)))) (JE.lent (je_toint (bn_int (by decide +kernel) (by decide +kernel)) (fun _ _ => rfl) (JE.lent (je_cmp c_ne (J2.v (je_var rfl (vis_by (by decide +kernel)) rfl) (jb_var rfl (vis_by (by decide +kernel)) (by decide +kernel))) rfl))))))) ja_nil)))) ja_nil)) (fun _ => rfl))
  jss_nil) (by decide +kernel) (fun _ _ => rfl))
  (jss_cons (Γ1 := [0, 0, 0, 0, 0, 0]) (JS.pre (Γ1 := [0, 0, 0, 0, 0, 0]) (by decide +kernel) (js_ret (b := true) (by decide +kernel) (je_var rfl (vis_by (by decide +kernel)) rfl))) jss_nil)))
def p9 : DefP := ⟨"next_column", ["column", "word", "sign"], N9, defArgs (top 22), defBody (top 22), defScope (top 22), d9⟩
theorem good9 : DefGood S 9 fi9 p9 := ⟨rfl, C8.fnScope_by (by decide +kernel), defOk_by rfl (by decide +kernel), rfl, fun _ _ _ _ _ _ us hl => match us, hl with | [_, _, _], _ => rfl, ⟨_, b9, by decide +kernel⟩⟩
theorem b10 : JSs ⟨S, N10, defScope (top 23), fun _ => true, fi10.io, fi10.ret, []⟩ (modes fi10.np fi10.io ++ List.replicate (N10.length - fi10.np) 0) (defBody (top 23)) d10.body [0, 0, 0, 0, 0] := by
  show JSs ⟨S, N10, defScope (top 23), fun _ => true, [], 0, []⟩ [0, 0, 0, 0, 0] _ _ _
  exact (jss_cons (Γ1 := [0, 0, 0, 0, 0])
  (js_set (b := true) (k := 0) rfl (by decide +kernel) (by decide +kernel) (by decide +kernel) (JE.frz (je_listRange (bn_list (by decide +kernel) (by decide +kernel)) (bn_range (by decide +kernel) (by decide +kernel)) (fun _ _ => rfl) (JE.lent (je_add (J2.v (JE.frz (je_len (bn_len (by decide +kernel) (by decide +kernel)) (fun _ _ => rfl) (jb_var rfl (vis_by (by decide +kernel)) (by decide +kernel)))) (JE.lent (k := 0) je_int)))))) (fun _ => rfl))
  (jss_cons (Γ1 := [0, 0, 0, 1, 0])
  (js_set (b := true) (k := 1) rfl (by decide +kernel) (by decide +kernel) (by decide +kernel) (je_lst (ja_val (fun _ _ => rfl) (je_idx (fun _ _ => rfl) (J2.v (je_var rfl (vis_by (by decide +kernel)) rfl) (JE.lent (k := 0) (je_neg (JE.lent (k := 0) je_int))))) ja_nil) (by decide +kernel) (by decide +kernel)) (fun _ => rfl))
  (jss_cons (Γ1 := [0, 0, 0, 1, 0])
  (js_for (b := true) (Γ := [0, 0, 0, 1, 0]) (Γ' := [0, 0, 0, 1, 0]) (by decide +kernel) (ji_e (JE.z (je_var rfl (vis_by (by decide +kernel)) rfl))) (jg_var rfl (by decide +kernel) rfl) (jss_cons (Γ1 := [0, 0, 0, 1, 0])
  (js_set (b := true) (k := 0) rfl (by decide +kernel) (by decide +kernel) (by decide +kernel) (je_call (fi := fi9) (ss := [none, none, none]) rfl (by decide +kernel) (by decide +kernel) (fun _ _ => rfl) (fun _ => rfl) (callOk_by (by decide +kernel)) (by decide +kernel) (ja_val (fun _ _ => rfl) (je_var rfl (vis_by (by decide +kernel)) rfl) (ja_val (fun _ _ => rfl) (je_var rfl (vis_by (by decide +kernel)) rfl) (ja_val (fun _ _ => rfl) (je_var rfl (vis_by (by decide +kernel)) rfl) ja_nil)))) (fun _ => rfl))
  (jss_cons (Γ1 := [0, 0, 0, 1, 0])
  (js_ex (b := false) (jm_append rfl (vis_by (by decide +kernel)) rfl (by decide +kernel) (fun _ _ => rfl) (fun _ => rfl) (fun _ => rfl) rfl (fun _ => rfl) (ja_val (fun _ _ => rfl) (je_idx (fun _ _ => rfl) (J2.v (je_var rfl (vis_by (by decide +kernel)) rfl) (JE.lent (k := 0) (je_neg (JE.lent (k := 0) je_int))))) ja_nil)) (fun _ => rfl))
  jss_nil)) (by decide +kernel) (fun _ _ => rfl))
  (jss_cons (Γ1 := [0, 0, 0, 0, 0]) (JS.pre (Γ1 := [0, 0, 0, 0, 0]) (by decide +kernel) (js_ret (b := true) (by decide +kernel) (je_var rfl (vis_by (by decide +kernel)) rfl))) jss_nil))))
def p10 : DefP := ⟨"raw_slips", ["page", "word"], N10, defArgs (top 23), defBody (top 23), defScope (top 23), d10⟩
theorem good10 : DefGood S 10 fi10 p10 := ⟨rfl, C8.fnScope_by (by decide +kernel), defOk_by rfl (by decide +kernel), rfl, fun _ _ _ _ _ _ us hl => match us, hl with | [_, _], _ => rfl, ⟨_, b10, by decide +kernel⟩⟩
theorem b11 : JSs ⟨S, N11, defScope (top 24), fun _ => true, fi11.io, fi11.ret, []⟩ (modes fi11.np fi11.io ++ List.replicate (N11.length - fi11.np) 0) (defBody (top 24)) d11.body [0, 0] := by
  show JSs ⟨S, N11, defScope (top 24), fun _ => true, [], 0, []⟩ [0, 0] _ _ _
  exact (jss_cons (Γ1 := [0, 0])
  (js_ex (b := true) (je_call (fi := fi7) (ss := [none, none]) rfl (by decide +kernel) (by decide +kernel) (fun _ _ => rfl) (fun _ => rfl) (callOk_by (by decide +kernel)) (by decide +kernel) (ja_val (fun _ _ => rfl) (je_var rfl (vis_by (by decide +kernel)) rfl) (ja_val (fun _ _ => rfl) (je_var rfl (vis_by (by decide +kernel)) rfl) ja_nil))) (fun _ => rfl))
  (jss_cons (Γ1 := [0, 0]) (js_ret (b := true) (by decide +kernel) (je_totup (bn_tuple (by decide +kernel) (by decide +kernel)) (fun _ _ => rfl) (JE.lent (je_call (fi := fi10) (ss := [none, none]) rfl (by decide +kernel) (by decide +kernel) (fun _ _ => rfl) (fun _ => rfl) (callOk_by (by decide +kernel)) (by decide +kernel) (ja_val (fun _ _ => rfl) (je_var rfl (vis_by (by decide +kernel)) rfl) (ja_val (fun _ _ => rfl) (je_var rfl (vis_by (by decide +kernel)) rfl) ja_nil)))))) jss_nil))
def p11 : DefP := ⟨"slips_row", ["page", "word"], N11, defArgs (top 24), defBody (top 24), defScope (top 24), d11⟩
theorem good11 : DefGood S 11 fi11 p11 := ⟨rfl, C8.fnScope_by (by decide +kernel), defOk_by rfl (by decide +kernel), rfl, fun _ _ _ _ _ _ us hl => match us, hl with | [_, _], _ => rfl, ⟨_, b11, by decide +kernel⟩⟩
theorem b12 : JSs ⟨S, N12, defScope (top 25), fun _ => true, fi12.io, fi12.ret, []⟩ (modes fi12.np fi12.io ++ List.replicate (N12.length - fi12.np) 0) (defBody (top 25)) d12.body [0, 0, 0, 0, 0] := by
  show JSs ⟨S, N12, defScope (top 25), fun _ => true, [], 0, []⟩ [0, 0, 0, 0, 0] _ _ _
  exact (jss_cons (Γ1 := [0, 0, 0, 0, 0]) (js_ret (b := true) (by decide +kernel) (JE.frz (je_lc (k := 0) (own := [("end", 3), ("edits", 4)]) (pb := true) (fz := true) (by decide +kernel) (by decide +kernel) (by decide +kernel) (by decide +kernel) (has_by (by decide +kernel)) (ji_enum (bn_enumerate (by decide +kernel) (by decide +kernel)) (fun _ _ => rfl) (JE.z (je_call (fi := fi10) (ss := [none, none]) rfl (by decide +kernel) (by decide +kernel) (fun _ _ => rfl) (fun _ => rfl) (callOk_by (by decide +kernel)) (by decide +kernel) (ja_val (fun _ _ => rfl) (je_var rfl (vis_by (by decide +kernel)) rfl) (ja_val (fun _ _ => rfl) (je_var rfl (vis_by (by decide +kernel)) rfl) ja_nil))))) (jg_tup (jgs_cons (jg_var rfl (by decide +kernel) rfl) (jgs_cons (jg_var rfl (by decide +kernel) rfl) jgs_nil (fun _ => rfl)) (fun _ => rfl)) (fun _ => rfl) (fun _ => rfl)) (jts_one (jt_cmp c_le (J2.v (je_var rfl (vis_by (by decide +kernel)) rfl) (jb_var rfl (vis_by (by decide +kernel)) (by decide +kernel))) rfl)) (je_var rfl (vis_by (by decide +kernel)) rfl) (fun _ _ => rfl)))) jss_nil)
def p12 : DefP := ⟨"raw_ends", ["page", "word", "most"], N12, defArgs (top 25), defBody (top 25), defScope (top 25), d12⟩
theorem good12 : DefGood S 12 fi12 p12 := ⟨rfl, C8.fnScope_by (by decide +kernel), defOk_by rfl (by decide +kernel), rfl, fun _ _ _ _ _ _ us hl => match us, hl with | [_, _, _], _ => rfl, ⟨_, b12, by decide +kernel⟩⟩
theorem b13 : JSs ⟨S, N13, defScope (top 26), fun _ => true, fi13.io, fi13.ret, []⟩ (modes fi13.np fi13.io ++ List.replicate (N13.length - fi13.np) 0) (defBody (top 26)) d13.body [0, 0, 0] := by
  show JSs ⟨S, N13, defScope (top 26), fun _ => true, [], 0, []⟩ [0, 0, 0] _ _ _
  exact (jss_cons (Γ1 := [0, 0, 0])
  (js_ex (b := true) (je_call (fi := fi8) (ss := [none, none, none]) rfl (by decide +kernel) (by decide +kernel) (fun _ _ => rfl) (fun _ => rfl) (callOk_by (by decide +kernel)) (by decide +kernel) (ja_val (fun _ _ => rfl) (je_var rfl (vis_by (by decide +kernel)) rfl) (ja_val (fun _ _ => rfl) (je_var rfl (vis_by (by decide +kernel)) rfl) (ja_val (fun _ _ => rfl) (je_var rfl (vis_by (by decide +kernel)) rfl) ja_nil)))) (fun _ => rfl))
  (jss_cons (Γ1 := [0, 0, 0]) (js_ret (b := true) (by decide +kernel) (je_totup (bn_tuple (by decide +kernel) (by decide +kernel)) (fun _ _ => rfl) (JE.lent (je_call (fi := fi12) (ss := [none, none, none]) rfl (by decide +kernel) (by decide +kernel) (fun _ _ => rfl) (fun _ => rfl) (callOk_by (by decide +kernel)) (by decide +kernel) (ja_val (fun _ _ => rfl) (je_var rfl (vis_by (by decide +kernel)) rfl) (ja_val (fun _ _ => rfl) (je_var rfl (vis_by (by decide +kernel)) rfl) (ja_val (fun _ _ => rfl) (je_var rfl (vis_by (by decide +kernel)) rfl) ja_nil))))))) jss_nil))
def p13 : DefP := ⟨"ends_within", ["page", "word", "most"], N13, defArgs (top 26), defBody (top 26), defScope (top 26), d13⟩
theorem good13 : DefGood S 13 fi13 p13 := ⟨rfl, C8.fnScope_by (by decide +kernel), defOk_by rfl (by decide +kernel), rfl, fun _ _ _ _ _ _ us hl => match us, hl with | [_, _, _], _ => rfl, ⟨_, b13, by decide +kernel⟩⟩
theorem b14 : JSs ⟨S, N14, defScope (top 27), fun _ => true, fi14.io, fi14.ret, []⟩ (modes fi14.np fi14.io ++ List.replicate (N14.length - fi14.np) 0) (defBody (top 27)) d14.body [0, 0, 0] := by
  show JSs ⟨S, N14, defScope (top 27), fun _ => true, [], 0, []⟩ [0, 0, 0] _ _ _
  exact (jss_cons (Γ1 := [0, 0, 0])
  (js_ex (b := true) (je_call (fi := fi7) (ss := [none, none]) rfl (by decide +kernel) (by decide +kernel) (fun _ _ => rfl) (fun _ => rfl) (callOk_by (by decide +kernel)) (by decide +kernel) (ja_val (fun _ _ => rfl) (je_var rfl (vis_by (by decide +kernel)) rfl) (ja_val (fun _ _ => rfl) (je_var rfl (vis_by (by decide +kernel)) rfl) ja_nil))) (fun _ => rfl))
  (jss_cons (Γ1 := [0, 0, 0])
  (js_set (b := true) (k := 0) rfl (by decide +kernel) (by decide +kernel) (by decide +kernel) (je_call (fi := fi10) (ss := [none, none]) rfl (by decide +kernel) (by decide +kernel) (fun _ _ => rfl) (fun _ => rfl) (callOk_by (by decide +kernel)) (by decide +kernel) (ja_val (fun _ _ => rfl) (je_var rfl (vis_by (by decide +kernel)) rfl) (ja_val (fun _ _ => rfl) (je_var rfl (vis_by (by decide +kernel)) rfl) ja_nil))) (fun _ => rfl))
  (jss_cons (Γ1 := [0, 0, 0]) (js_ret (b := true) (by decide +kernel) (je_tup (ja_val (fun _ _ => rfl) (JE.frz (je_min (bn_min (by decide +kernel) (by decide +kernel)) (fun _ _ => rfl) (jb_var rfl (vis_by (by decide +kernel)) (by decide +kernel)))) (ja_val (fun _ _ => rfl) (JE.frz (je_lindex (fun _ _ => rfl) (fun _ => rfl) (fun _ => rfl) rfl (jb_var rfl (vis_by (by decide +kernel)) (by decide +kernel)) (JE.lent (je_min (bn_min (by decide +kernel) (by decide +kernel)) (fun _ _ => rfl) (jb_var rfl (vis_by (by decide +kernel)) (by decide +kernel)))))) ja_nil)) (by decide +kernel) (by decide +kernel))) jss_nil)))
def p14 : DefP := ⟨"best_end", ["page", "word"], N14, defArgs (top 27), defBody (top 27), defScope (top 27), d14⟩
theorem good14 : DefGood S 14 fi14 p14 := ⟨rfl, C8.fnScope_by (by decide +kernel), defOk_by rfl (by decide +kernel), rfl, fun _ _ _ _ _ _ us hl => match us, hl with | [_, _], _ => rfl, ⟨_, b14, by decide +kernel⟩⟩
theorem b15 : JSs ⟨S, N15, defScope (top 28), fun _ => true, fi15.io, fi15.ret, []⟩ (modes fi15.np fi15.io ++ List.replicate (N15.length - fi15.np) 0) (defBody (top 28)) d15.body [0, 0, 0, 0, 0, 0, 0] := by
  show JSs ⟨S, N15, defScope (top 28), fun _ => true, [], 0, []⟩ [0, 0, 0, 0, 0, 0, 0] _ _ _
  exact (jss_cons (Γ1 := [0, 0, 0, 0, 0, 0, 0])
  (js_set (b := true) (k := 0) rfl (by decide +kernel) (by decide +kernel) (by decide +kernel) (je_call (fi := fi5) (ss := [none, none]) rfl (by decide +kernel) (by decide +kernel) (fun _ _ => rfl) (fun _ => rfl) (callOk_by (by decide +kernel)) (by decide +kernel) (ja_val (fun _ _ => rfl) (JE.frz (je_rev (JE.lent (je_slc (jb_var rfl (vis_by (by decide +kernel)) (by decide +kernel)) jp_none (jp_some (jb_var rfl (vis_by (by decide +kernel)) (by decide +kernel))))))) (ja_val (fun _ _ => rfl) (JE.frz (je_rev (jb_var rfl (vis_by (by decide +kernel)) (by decide +kernel)))) ja_nil))) (fun _ => rfl))
  (jss_cons (Γ1 := [0, 0, 0, 0, 0, 0, 0])
  (js_setS (b := true) (k := 0) rfl (by decide +kernel) (by decide +kernel) (by decide +kernel) (JE.frz (je_lc (k := 0) (own := [("edits", 5)]) (pb := true) (fz := true) (by decide +kernel) (by decide +kernel) (by decide +kernel) (by decide +kernel) (has_by (by decide +kernel)) (ji_e (JE.z (je_var rfl (vis_by (by decide +kernel)) rfl))) (jg_var rfl (by decide +kernel) rfl) jts_nil (je_idx (fun _ _ => rfl) (J2.v (je_var rfl (vis_by (by decide +kernel)) rfl) (JE.lent (je_len (bn_len (by decide +kernel) (by decide +kernel)) (fun _ _ => rfl) (jb_var rfl (vis_by (by decide +kernel)) (by decide +kernel)))))) (fun _ _ => rfl))) (fun env he => by cases env; cases he; rfl))
  (jss_cons (Γ1 := [0, 0, 0, 0, 0, 0, 0]) (js_ret (b := true) (by decide +kernel) (JE.frz (je_max (bn_max (by decide +kernel) (by decide +kernel)) (fun _ _ => rfl) (JE.lent (je_lc (k := 0) (own := [("long", 6), ("edits", 5)]) (pb := true) (fz := true) (by decide +kernel) (by decide +kernel) (by decide +kernel) (by decide +kernel) (has_by (by decide +kernel)) (ji_enum (bn_enumerate (by decide +kernel) (by decide +kernel)) (fun _ _ => rfl) (JE.z (je_var rfl (vis_by (by decide +kernel)) rfl))) (jg_tup (jgs_cons (jg_var rfl (by decide +kernel) rfl) (jgs_cons (jg_var rfl (by decide +kernel) rfl) jgs_nil (fun _ => rfl)) (fun _ => rfl)) (fun _ => rfl) (fun _ => rfl)) (jts_one (jt_cmp c_eq (J2.v (je_var rfl (vis_by (by decide +kernel)) rfl) (JE.lent (je_min (bn_min (by decide +kernel) (by decide +kernel)) (fun _ _ => rfl) (jb_var rfl (vis_by (by decide +kernel)) (by decide +kernel))))) rfl)) (je_var rfl (vis_by (by decide +kernel)) rfl) (fun _ _ => rfl)))))) jss_nil)))
def p15 : DefP := ⟨"longest_at", ["page", "word", "end"], N15, defArgs (top 28), defBody (top 28), defScope (top 28), d15⟩
theorem good15 : DefGood S 15 fi15 p15 := ⟨rfl, C8.fnScope_by (by decide +kernel), defOk_by rfl (by decide +kernel), rfl, fun _ _ _ _ _ _ us hl => match us, hl with | [_, _, _], _ => rfl, ⟨_, b15, by decide +kernel⟩⟩
theorem b16 : JSs ⟨S, N16, defScope (top 29), fun _ => true, fi16.io, fi16.ret, []⟩ (modes fi16.np fi16.io ++ List.replicate (N16.length - fi16.np) 0) (defBody (top 29)) d16.body [0, 0, 0] := by
  show JSs ⟨S, N16, defScope (top 29), fun _ => true, [], 0, []⟩ [0, 0, 0] _ _ _
  exact (jss_cons (Γ1 := [0, 0, 0])
  (js_ex (b := true) (je_call (fi := fi7) (ss := [none, none]) rfl (by decide +kernel) (by decide +kernel) (fun _ _ => rfl) (fun _ => rfl) (callOk_by (by decide +kernel)) (by decide +kernel) (ja_val (fun _ _ => rfl) (je_var rfl (vis_by (by decide +kernel)) rfl) (ja_val (fun _ _ => rfl) (je_var rfl (vis_by (by decide +kernel)) rfl) ja_nil))) (fun _ => rfl))
  (jss_cons (Γ1 := [0, 0, 0])
  (js_if (b := true) (Γ' := [0, 0, 0]) (jt_not (jt_of (JE.lent (je_call (fi := fi1) (ss := [none, none, none]) rfl (by decide +kernel) (by decide +kernel) (fun _ _ => rfl) (fun _ => rfl) (callOk_by (by decide +kernel)) (by decide +kernel) (ja_val (fun _ _ => rfl) (je_var rfl (vis_by (by decide +kernel)) rfl) (ja_val (fun _ _ => rfl) je_int (ja_val (fun _ _ => rfl) (JE.frz (je_len (bn_len (by decide +kernel) (by decide +kernel)) (fun _ _ => rfl) (jb_var rfl (vis_by (by decide +kernel)) (by decide +kernel)))) ja_nil))))) (fun _ _ => rfl))) (jss_cons (Γ1 := [0, 0, 0]) js_bad jss_nil) jss_nil)
  (jss_cons (Γ1 := [0, 0, 0]) (js_ret (b := true) (by decide +kernel) (JE.frz (je_slc (jb_var rfl (vis_by (by decide +kernel)) (by decide +kernel)) (jp_some (JE.lent (je_sub (J2.v (je_var rfl (vis_by (by decide +kernel)) rfl) (JE.lent (je_call (fi := fi15) (ss := [none, none, none]) rfl (by decide +kernel) (by decide +kernel) (fun _ _ => rfl) (fun _ => rfl) (callOk_by (by decide +kernel)) (by decide +kernel) (ja_val (fun _ _ => rfl) (je_var rfl (vis_by (by decide +kernel)) rfl) (ja_val (fun _ _ => rfl) (je_var rfl (vis_by (by decide +kernel)) rfl) (ja_val (fun _ _ => rfl) (je_var rfl (vis_by (by decide +kernel)) rfl) ja_nil))))))))) (jp_some (jb_var rfl (vis_by (by decide +kernel)) (by decide +kernel)))))) jss_nil)))
def p16 : DefP := ⟨"stretch_at", ["page", "word", "end"], N16, defArgs (top 29), defBody (top 29), defScope (top 29), d16⟩
theorem good16 : DefGood S 16 fi16 p16 := ⟨rfl, C8.fnScope_by (by decide +kernel), defOk_by rfl (by decide +kernel), rfl, fun _ _ _ _ _ _ us hl => match us, hl with | [_, _, _], _ => rfl, ⟨_, b16, by decide +kernel⟩⟩
theorem b17 : JSs ⟨S, N17, defScope (top 30), fun _ => true, fi17.io, fi17.ret, []⟩ (modes fi17.np fi17.io ++ List.replicate (N17.length - fi17.np) 0) (defBody (top 30)) d17.body [0, 0, 0, 0, 0, 0, 0] := by
  show JSs ⟨S, N17, defScope (top 30), fun _ => true, [], 0, []⟩ [0, 0, 0, 0, 0, 0, 0] _ _ _
  exact (jss_cons (Γ1 := [0, 0, 0, 0, 0, 0, 0])
  (js_ex (b := true) (je_call (fi := fi8) (ss := [none, none, none]) rfl (by decide +kernel) (by decide +kernel) (fun _ _ => rfl) (fun _ => rfl) (callOk_by (by decide +kernel)) (by decide +kernel) (ja_val (fun _ _ => rfl) (je_var rfl (vis_by (by decide +kernel)) rfl) (ja_val (fun _ _ => rfl) (je_var rfl (vis_by (by decide +kernel)) rfl) (ja_val (fun _ _ => rfl) (je_var rfl (vis_by (by decide +kernel)) rfl) ja_nil)))) (fun _ => rfl))
  (jss_cons (Γ1 := [0, 0, 0, 0, 0, 0, 0])
  (js_parG (is := [3, 4]) (ks := [0, 0]) (.cons rfl (by decide +kernel) (fun _ => rfl) (.cons rfl (by decide +kernel) (fun _ => rfl) .nil)) (by decide +kernel) (by decide +kernel) (by decide +kernel) (by decide +kernel) (fun _ => rfl) (fun _ => rfl) (fun _ => rfl) (fun env he => by cases env; cases he; rfl) (fun _ => rfl) (jo_cons (fun _ _ => rfl) je_int (jo_cons (fun _ _ => rfl) je_int jo_nil)))
  (jss_cons (Γ1 := [0, 0, 0, 0, 0, 0, 0])
  (js_for (b := true) (Γ := [0, 0, 0, 0, 0, 0, 0]) (Γ' := [0, 0, 0, 0, 0, 0, 0]) (by decide +kernel) (ji_e (JE.z (je_call (fi := fi12) (ss := [none, none, none]) rfl (by decide +kernel) (by decide +kernel) (fun _ _ => rfl) (fun _ => rfl) (callOk_by (by decide +kernel)) (by decide +kernel) (ja_val (fun _ _ => rfl) (je_var rfl (vis_by (by decide +kernel)) rfl) (ja_val (fun _ _ => rfl) (je_var rfl (vis_by (by decide +kernel)) rfl) (ja_val (fun _ _ => rfl) (je_var rfl (vis_by (by decide +kernel)) rfl) ja_nil)))))) (jg_var rfl (by decide +kernel) rfl) (jss_cons (Γ1 := [0, 0, 0, 0, 0, 0, 0])
  (js_set (b := true) (k := 0) rfl (by decide +kernel) (by decide +kernel) (by decide +kernel) (JE.frz (je_sub (J2.v (je_var rfl (vis_by (by decide +kernel)) rfl) (JE.lent (je_call (fi := fi15) (ss := [none, none, none]) rfl (by decide +kernel) (by decide +kernel) (fun _ _ => rfl) (fun _ => rfl) (callOk_by (by decide +kernel)) (by decide +kernel) (ja_val (fun _ _ => rfl) (je_var rfl (vis_by (by decide +kernel)) rfl) (ja_val (fun _ _ => rfl) (je_var rfl (vis_by (by decide +kernel)) rfl) (ja_val (fun _ _ => rfl) (je_var rfl (vis_by (by decide +kernel)) rfl) ja_nil)))))))) (fun _ => rfl))
  (jss_cons (Γ1 := [0, 0, 0, 0, 0, 0, 0])
  (js_if (b := true) (Γ' := [0, 0, 0, 0, 0, 0, 0]) (jt_cmp c_ge (J2.v (je_var rfl (vis_by (by decide +kernel)) rfl) (jb_var rfl (vis_by (by decide +kernel)) (by decide +kernel))) rfl) (jss_cons (Γ1 := [0, 0, 0, 0, 0, 0, 0])
  (js_par2 (i := 3) (j := 4) (k := 0) (l := 0) rfl rfl (by decide +kernel) (by decide +kernel) (by decide +kernel) (by decide +kernel) (by decide +kernel) (fun env he => by cases env; cases he; rfl) (fun _ => rfl) (jo_cons (fun _ _ => rfl) (JE.frz (je_add (J2.v (je_var rfl (vis_by (by decide +kernel)) rfl) (JE.lent (k := 0) je_int)))) (jo_cons (fun _ _ => rfl) (je_var rfl (vis_by (by decide +kernel)) rfl) jo_nil)))
  jss_nil) jss_nil)
  jss_nil)) (by decide +kernel) (fun _ _ => rfl))
  (jss_cons (Γ1 := [0, 0, 0, 0, 0, 0, 0]) (js_ret (b := true) (by decide +kernel) (je_var rfl (vis_by (by decide +kernel)) rfl)) jss_nil))))
def p17 : DefP := ⟨"once_each", ["page", "word", "most"], N17, defArgs (top 30), defBody (top 30), defScope (top 30), d17⟩
theorem good17 : DefGood S 17 fi17 p17 := ⟨rfl, C8.fnScope_by (by decide +kernel), defOk_by rfl (by decide +kernel), rfl, fun _ _ _ _ _ _ us hl => match us, hl with | [_, _, _], _ => rfl, ⟨_, b17, by decide +kernel⟩⟩
theorem b18 : JSs ⟨S, N18, defScope (top 32), fun _ => true, fi18.io, fi18.ret, []⟩ (modes fi18.np fi18.io ++ List.replicate (N18.length - fi18.np) 0) (defBody (top 32)) d18.body [0, 0] := by
  show JSs ⟨S, N18, defScope (top 32), fun _ => true, [], 1, []⟩ [0, 0] _ _ _
  exact (jss_cons (Γ1 := [0, 0]) (js_ret (b := true) (by decide +kernel) (je_lst (ja_val (fun _ _ => rfl) (JE.frz (je_lc (k := 0) (own := [("cell", 1)]) (pb := true) (fz := true) (by decide +kernel) (by decide +kernel) (by decide +kernel) (by decide +kernel) (has_by (by decide +kernel)) (ji_e (JE.z (JE.frz (je_slc (jb_var rfl (vis_by (by decide +kernel)) (by decide +kernel)) jp_none (jp_some (JE.lent (k := 0) je_int)))))) (jg_var rfl (by decide +kernel) rfl) jts_nil (JE.frz (je_abs (bn_abs (by decide +kernel) (by decide +kernel)) (fun _ _ => rfl) (JE.lent (je_toint (bn_int (by decide +kernel) (by decide +kernel)) (fun _ _ => rfl) (jb_var rfl (vis_by (by decide +kernel)) (by decide +kernel)))))) (fun _ _ => rfl))) (ja_val (fun _ _ => rfl) je_int (ja_val (fun _ _ => rfl) je_int (ja_val (fun _ _ => rfl) (JE.frz (je_add (J2.v je_int (JE.lent (je_mul (J2.v je_int (JE.lent (je_len (bn_len (by decide +kernel) (by decide +kernel)) (fun _ _ => rfl) (JE.lent (je_slc (jb_var rfl (vis_by (by decide +kernel)) (by decide +kernel)) jp_none (jp_some (JE.lent (k := 0) je_int)))))))))))) (ja_val (fun _ _ => rfl) je_int ja_nil))))) (by decide +kernel) (by decide +kernel))) jss_nil)
def p18 : DefP := ⟨"_law_hand", ["script"], N18, defArgs (top 32), defBody (top 32), defScope (top 32), d18⟩
theorem good18 : DefGood S 18 fi18 p18 := ⟨rfl, C8.fnScope_by (by decide +kernel), defOk_by rfl (by decide +kernel), rfl, fun _ _ _ _ _ _ us hl => match us, hl with | [_], _ => rfl, ⟨_, b18, by decide +kernel⟩⟩
theorem b19 : JSs ⟨S, N19, defScope (top 33), fun _ => true, fi19.io, fi19.ret, []⟩ (modes fi19.np fi19.io ++ List.replicate (N19.length - fi19.np) 0) (defBody (top 33)) d19.body [1, 0, 0, 0, 0] := by
  show JSs ⟨S, N19, defScope (top 33), fun _ => true, [(0, 1)], 0, []⟩ [1, 0, 0, 0, 0] _ _ _
  exact (jss_cons (Γ1 := [1, 0, 0, 0, 0])
  (js_if (b := true) (Γ' := [1, 0, 0, 0, 0]) (JW.t (jw_and (jt_cmp c_eq (J2.v (je_idx (fun _ _ => rfl) (J2.l (jb_var rfl (vis_by (by decide +kernel)) (by decide +kernel)) (JE.lent (k := 0) je_int))) (JE.lent (k := 0) je_int)) rfl) (jw_and1 (jt_cmp c_lt (J2.v (je_idx (fun _ _ => rfl) (J2.l (jb_var rfl (vis_by (by decide +kernel)) (by decide +kernel)) (JE.lent (k := 0) je_int))) (JE.lent (je_len (bn_len (by decide +kernel) (by decide +kernel)) (fun _ _ => rfl) (JE.lent (je_idx (fun _ _ => rfl) (J2.l (jb_var rfl (vis_by (by decide +kernel)) (by decide +kernel)) (JE.lent (k := 0) je_int))))))) rfl)))) (jss_cons (Γ1 := [1, 0, 0, 0, 0])
  (js_set (b := true) (k := 0) rfl (by decide +kernel) (by decide +kernel) (by decide +kernel) (je_idx (fun _ _ => rfl) (J2.v (je_idx (fun _ _ => rfl) (J2.l (jb_var rfl (vis_by (by decide +kernel)) (by decide +kernel)) (JE.lent (k := 0) je_int))) (JE.lent (je_idx (fun _ _ => rfl) (J2.l (jb_var rfl (vis_by (by decide +kernel)) (by decide +kernel)) (JE.lent (k := 0) je_int)))))) (fun _ => rfl))
  (jss_cons (Γ1 := [1, 0, 0, 0, 0])
  (js_sti (b := true) rfl (vis_by (by decide +kernel)) rfl (JE.frz (je_add (J2.v (je_idx (fun _ _ => rfl) (J2.l (jb_var rfl (vis_by (by decide +kernel)) (by decide +kernel)) (JE.lent (k := 0) je_int))) (JE.lent (k := 0) je_int)))) (JE.lent (k := 0) je_int) (fun _ => rfl) (fun _ => rfl) (fun _ => rfl) (fun _ _ => rfl))
  (jss_cons (Γ1 := [1, 0, 0, 0, 0])
  (js_sti (b := true) rfl (vis_by (by decide +kernel)) rfl (JE.frz (je_mod (J2.v (JE.frz (je_toint (bn_int (by decide +kernel) (by decide +kernel)) (fun _ _ => rfl) (JE.lent (je_add (J2.v (JE.frz (je_add (J2.v (JE.frz (je_mul (J2.v (je_idx (fun _ _ => rfl) (J2.l (jb_var rfl (vis_by (by decide +kernel)) (by decide +kernel)) (JE.lent (k := 0) je_int))) (JE.lent (k := 0) je_int)))) (JE.lent (je_mul (J2.v (je_var rfl (vis_by (by decide +kernel)) rfl) (JE.lent (k := 0) je_int))))))) (JE.lent (k := 0) je_int)))))) (JE.lent (k := 0) je_int)))) (JE.lent (k := 0) je_int) (fun _ => rfl) (fun _ => rfl) (fun _ => rfl) (fun _ _ => rfl))
  (jss_cons (Γ1 := [1, 0, 0, 0, 0])
  (js_if (b := true) (Γ' := [1, 0, 0, 0, 0]) (jt_cmp c_ge (J2.v (je_var rfl (vis_by (by decide +kernel)) rfl) (JE.lent (je_pow (J2.v je_int (JE.lent (k := 0) je_int))))) rfl) (jss_cons (Γ1 := [1, 0, 0, 0, 0])
  (js_sti (b := true) rfl (vis_by (by decide +kernel)) rfl (je_var rfl (vis_by (by decide +kernel)) rfl) (JE.lent (k := 0) je_int) (fun _ => rfl) (fun _ => rfl) (fun _ => rfl) (fun _ _ => rfl))
  jss_nil) jss_nil)
  jss_nil)))) jss_nil)
  (jss_cons (Γ1 := [1, 0, 0, 0, 0])
  (js_if (b := true) (Γ' := [1, 0, 0, 0, 0]) (jt_cmp c_gt (J2.v (je_idx (fun _ _ => rfl) (J2.l (jb_var rfl (vis_by (by decide +kernel)) (by decide +kernel)) (JE.lent (k := 0) je_int))) (JE.lent (k := 0) je_int)) rfl) (jss_cons (Γ1 := [1, 0, 0, 0, 0])
  (js_set (b := true) (k := 0) rfl (by decide +kernel) (by decide +kernel) (by decide +kernel) (JE.frz (je_mod (J2.v (JE.frz (je_toint (bn_int (by decide +kernel) (by decide +kernel)) (fun _ _ => rfl) (JE.lent (je_idx (fun _ _ => rfl) (J2.l (jb_var rfl (vis_by (by decide +kernel)) (by decide +kernel)) (JE.lent (k := 0) je_int)))))) (jb_var rfl (vis_by (by decide +kernel)) (by decide +kernel))))) (fun _ => rfl))
  (jss_cons (Γ1 := [1, 0, 0, 0, 0])
  (js_sti (b := true) rfl (vis_by (by decide +kernel)) rfl (JE.frz (je_fdiv (J2.v (je_idx (fun _ _ => rfl) (J2.l (jb_var rfl (vis_by (by decide +kernel)) (by decide +kernel)) (JE.lent (k := 0) je_int))) (jb_var rfl (vis_by (by decide +kernel)) (by decide +kernel))))) (JE.lent (k := 0) je_int) (fun _ => rfl) (fun _ => rfl) (fun _ => rfl) (fun _ _ => rfl))
  (jss_cons (Γ1 := [1, 0, 0, 0, 0]) (js_ret (b := true) (by decide +kernel) (je_var rfl (vis_by (by decide +kernel)) rfl)) jss_nil))) jss_nil)
  (jss_cons (Γ1 := [1, 0, 0, 0, 0])
  (js_sti (b := true) rfl (vis_by (by decide +kernel)) rfl (JE.frz (je_add (J2.v (je_idx (fun _ _ => rfl) (J2.l (jb_var rfl (vis_by (by decide +kernel)) (by decide +kernel)) (JE.lent (k := 0) je_int))) (JE.lent (k := 0) je_int)))) (JE.lent (k := 0) je_int) (fun _ => rfl) (fun _ => rfl) (fun _ => rfl) (fun _ _ => rfl))
  (jss_cons (Γ1 := [1, 0, 0, 0, 0])
  (js_set (b := true) (k := 0) rfl (by decide +kernel) (by decide +kernel) (by decide +kernel) (JE.frz (je_mod (J2.v (JE.frz (je_toint (bn_int (by decide +kernel) (by decide +kernel)) (fun _ _ => rfl) (JE.lent (je_mul (J2.v (JE.frz (je_toint (bn_int (by decide +kernel) (by decide +kernel)) (fun _ _ => rfl) (JE.lent (je_add (J2.v (je_idx (fun _ _ => rfl) (J2.l (jb_var rfl (vis_by (by decide +kernel)) (by decide +kernel)) (JE.lent (k := 0) je_int))) (JE.lent (je_mul (J2.v je_int (JE.lent (je_idx (fun _ _ => rfl) (J2.l (jb_var rfl (vis_by (by decide +kernel)) (by decide +kernel)) (JE.lent (k := 0) je_int)))))))))))) (JE.lent (k := 0) je_int)))))) (JE.lent (k := 0) je_int)))) (fun _ => rfl))
  (jss_cons (Γ1 := [1, 0, 0, 0, 0])
  (js_set (b := true) (k := 0) rfl (by decide +kernel) (by decide +kernel) (by decide +kernel) (JE.frz (je_mod (J2.v (JE.frz (je_toint (bn_int (by decide +kernel) (by decide +kernel)) (fun _ _ => rfl) (JE.lent (je_mul (J2.v (je_var rfl (vis_by (by decide +kernel)) rfl) (JE.lent (je_add (J2.v (JE.frz (je_fdiv (J2.v (je_var rfl (vis_by (by decide +kernel)) rfl) (JE.lent (k := 0) je_int)))) (JE.lent (k := 0) je_int))))))))) (JE.lent (k := 0) je_int)))) (fun _ => rfl))
  (jss_cons (Γ1 := [1, 0, 0, 0, 0])
  (js_set (b := true) (k := 0) rfl (by decide +kernel) (by decide +kernel) (by decide +kernel) (JE.frz (je_mod (J2.v (JE.frz (je_toint (bn_int (by decide +kernel) (by decide +kernel)) (fun _ _ => rfl) (JE.lent (je_mul (J2.v (je_var rfl (vis_by (by decide +kernel)) rfl) (JE.lent (je_add (J2.v (JE.frz (je_fdiv (J2.v (je_var rfl (vis_by (by decide +kernel)) rfl) (JE.lent (k := 0) je_int)))) (JE.lent (k := 0) je_int))))))))) (JE.lent (k := 0) je_int)))) (fun _ => rfl))
  (jss_cons (Γ1 := [1, 0, 0, 0, 0]) (js_ret (b := true) (by decide +kernel) (JE.frz (je_mod (J2.v (JE.frz (je_toint (bn_int (by decide +kernel) (by decide +kernel)) (fun _ _ => rfl) (JE.lent (je_fdiv (J2.v (je_var rfl (vis_by (by decide +kernel)) rfl) (JE.lent (k := 0) je_int)))))) (jb_var rfl (vis_by (by decide +kernel)) (by decide +kernel)))))) jss_nil)))))))
def p19 : DefP := ⟨"_law_draw", ["hand", "many"], N19, defArgs (top 33), defBody (top 33), defScope (top 33), d19⟩
theorem good19 : DefGood S 19 fi19 p19 := ⟨rfl, C8.fnScope_by (by decide +kernel), defOk_by rfl (by decide +kernel), rfl, fun _ _ _ _ _ _ us hl => match us, hl with | [_, _], _ => rfl, ⟨_, b19, by decide +kernel⟩⟩
theorem b20 : JSs ⟨S, N20, defScope (top 34), fun _ => true, fi20.io, fi20.ret, []⟩ (modes fi20.np fi20.io ++ List.replicate (N20.length - fi20.np) 0) (defBody (top 34)) d20.body [1, 0] := by
  show JSs ⟨S, N20, defScope (top 34), fun _ => true, [(0, 1)], 0, []⟩ [1, 0] _ _ _
  exact (jss_cons (Γ1 := [1, 0]) (js_ret (b := false) (by decide +kernel) (je_idx (fun _ _ => rfl) (J2.v (je_var rfl (vis_by (by decide +kernel)) rfl) (JE.lent (je_call (fi := fi19) (ss := [some 0, none]) rfl (by decide +kernel) (by decide +kernel) (fun _ _ => rfl) (fun _ => rfl) (callOk_by (by decide +kernel)) (by decide +kernel) (ja_slot rfl (vis_by (by decide +kernel)) (ja_val (fun _ _ => rfl) (JE.frz (je_len (bn_len (by decide +kernel) (by decide +kernel)) (fun _ _ => rfl) (jb_var rfl (vis_by (by decide +kernel)) (by decide +kernel)))) ja_nil))))))) jss_nil)
def p20 : DefP := ⟨"_law_any", ["hand", "some"], N20, defArgs (top 34), defBody (top 34), defScope (top 34), d20⟩
theorem good20 : DefGood S 20 fi20 p20 := ⟨rfl, C8.fnScope_by (by decide +kernel), defOk_by rfl (by decide +kernel), rfl, fun _ _ _ _ _ _ us hl => match us, hl with | [_, _], _ => rfl, ⟨_, b20, by decide +kernel⟩⟩
theorem b21 : JSs ⟨S, N21, defScope (top 35), fun _ => true, fi21.io, fi21.ret, []⟩ (modes fi21.np fi21.io ++ List.replicate (N21.length - fi21.np) 0) (defBody (top 35)) d21.body [0, 0] := by
  show JSs ⟨S, N21, defScope (top 35), fun _ => true, [], 0, []⟩ [0, 0] _ _ _
  exact (jss_cons (Γ1 := [0, 0]) (js_ret (b := true) (by decide +kernel) (JE.frz (je_cmp c_eq (J2.v (JE.frz (je_repr (bn_repr (by decide +kernel) (by decide +kernel)) rfl (fun _ _ => rfl) (jb_var rfl (vis_by (by decide +kernel)) (by decide +kernel)))) (JE.lent (je_repr (bn_repr (by decide +kernel) (by decide +kernel)) rfl (fun _ _ => rfl) (jb_var rfl (vis_by (by decide +kernel)) (by decide +kernel))))) rfl))) jss_nil)
def p21 : DefP := ⟨"_law_same", ["one", "other"], N21, defArgs (top 35), defBody (top 35), defScope (top 35), d21⟩
theorem good21 : DefGood S 21 fi21 p21 := ⟨rfl, C8.fnScope_by (by decide +kernel), defOk_by rfl (by decide +kernel), rfl, fun _ _ _ _ _ _ us hl => match us, hl with | [_, _], _ => rfl, ⟨_, b21, by decide +kernel⟩⟩
theorem b22 : JSs ⟨S, N22, defScope (top 36), fun _ => true, fi22.io, fi22.ret, []⟩ (modes fi22.np fi22.io ++ List.replicate (N22.length - fi22.np) 0) (defBody (top 36)) d22.body [1, 0, 0, 0] := by
  show JSs ⟨S, N22, defScope (top 36), fun _ => true, [(0, 1)], 0, []⟩ [1, 0, 0, 0] _ _ _
  exact (jss_cons (Γ1 := [1, 0, 0, 0])
  (js_set (b := false) (k := 0) rfl (by decide +kernel) (by decide +kernel) (by decide +kernel) (je_call (fi := fi20) (ss := [some 0, none]) rfl (by decide +kernel) (by decide +kernel) (fun _ _ => rfl) (fun _ => rfl) (callOk_by (by decide +kernel)) (by decide +kernel) (ja_slot rfl (vis_by (by decide +kernel)) (ja_val (fun _ _ => rfl) (JE.frz (je_lst (ja_val (fun _ _ => rfl) (je_str (by decide +kernel) (by decide +kernel)) (ja_val (fun _ _ => rfl) (je_str (by decide +kernel) (by decide +kernel)) (ja_val (fun _ _ => rfl) (je_str (by decide +kernel) (by decide +kernel)) ja_nil))) (by decide +kernel) (by decide +kernel))) ja_nil))) (fun _ => rfl))
  (jss_cons (Γ1 := [1, 0, 0, 0]) (js_ret (b := false) (by decide +kernel) (JE.frz (je_join (fun _ _ => rfl) (fun _ => rfl) rfl (JE.lent (k := 0) (je_str (by decide +kernel) (by decide +kernel))) (JE.lent (je_lc (k := 0) (own := [("place", 3)]) (pb := false) (fz := true) (by decide +kernel) (by decide +kernel) (by decide +kernel) (by decide +kernel) (has_by (by decide +kernel)) (ji_range1 (bn_range (by decide +kernel) (by decide +kernel)) (fun _ _ => rfl) (je_call (fi := fi19) (ss := [some 0, none]) rfl (by decide +kernel) (by decide +kernel) (fun _ _ => rfl) (fun _ => rfl) (callOk_by (by decide +kernel)) (by decide +kernel) (ja_slot rfl (vis_by (by decide +kernel)) (ja_val (fun _ _ => rfl) (JE.frz (je_add (J2.v (je_var rfl (vis_by (by decide +kernel)) rfl) (JE.lent (k := 0) je_int)))) ja_nil)))) (jg_var rfl (by decide +kernel) rfl) jts_nil (je_call (fi := fi20) (ss := [some 0, none]) rfl (by decide +kernel) (by decide +kernel) (fun _ _ => rfl) (fun _ => rfl) (callOk_by (by decide +kernel)) (by decide +kernel) (ja_slot rfl (vis_by (by decide +kernel)) (ja_val (fun _ _ => rfl) (JE.frz (je_listTxt (bn_list (by decide +kernel) (by decide +kernel)) (fun _ _ => rfl) (jb_var rfl (vis_by (by decide +kernel)) (by decide +kernel)))) ja_nil))) (fun _ _ => rfl)))))) jss_nil))
def p22 : DefP := ⟨"_law_page", ["hand", "most"], N22, defArgs (top 36), defBody (top 36), defScope (top 36), d22⟩
theorem good22 : DefGood S 22 fi22 p22 := ⟨rfl, C8.fnScope_by (by decide +kernel), defOk_by rfl (by decide +kernel), rfl, fun _ _ _ _ _ _ us hl => match us, hl with | [_, _], _ => rfl, ⟨_, b22, by decide +kernel⟩⟩
theorem b23 : JSs ⟨S, N23, defScope (top 37), fun _ => true, fi23.io, fi23.ret, []⟩ (modes fi23.np fi23.io ++ List.replicate (N23.length - fi23.np) 0) (defBody (top 37)) d23.body [0, 0, 0, 0, 0, 0, 0, 0] := by
  show JSs ⟨S, N23, defScope (top 37), fun _ => true, [], 0, []⟩ [0, 0, 0, 0, 0, 0, 0, 0] _ _ _
  exact (jss_cons (Γ1 := [0, 0, 0, 0, 0, 0, 0, 0])
  (js_set (b := true) (k := 0) rfl (by decide +kernel) (by decide +kernel) (by decide +kernel) (JE.frz (je_listRange (bn_list (by decide +kernel) (by decide +kernel)) (bn_range (by decide +kernel) (by decide +kernel)) (fun _ _ => rfl) (JE.lent (je_add (J2.v (JE.frz (je_len (bn_len (by decide +kernel) (by decide +kernel)) (fun _ _ => rfl) (jb_var rfl (vis_by (by decide +kernel)) (by decide +kernel)))) (JE.lent (k := 0) je_int)))))) (fun _ => rfl))
  (jss_cons (Γ1 := [0, 0, 0, 0, 0, 0, 0, 0])
  (js_for (b := true) (Γ := [0, 0, 0, 0, 0, 0, 0, 0]) (Γ' := [0, 0, 0, 0, 0, 0, 0, 0]) (by decide +kernel) (ji_enum (bn_enumerate (by decide +kernel) (by decide +kernel)) (fun _ _ => rfl) (JE.z (je_var rfl (vis_by (by decide +kernel)) rfl))) (jg_tup (jgs_cons (jg_var rfl (by decide +kernel) rfl) (jgs_cons (jg_var rfl (by decide +kernel) rfl) jgs_nil (fun _ => rfl)) (fun _ => rfl)) (fun _ => rfl) (fun _ => rfl)) (jss_cons (Γ1 := [0, 0, 0, 0, 0, 1, 0, 0])
  (js_set (b := true) (k := 1) rfl (by decide +kernel) (by decide +kernel) (by decide +kernel) (je_lst (ja_val (fun _ _ => rfl) (JE.frz (je_add (J2.v (je_var rfl (vis_by (by decide +kernel)) rfl) (JE.lent (k := 0) je_int)))) ja_nil) (by decide +kernel) (by decide +kernel)) (fun _ => rfl))
  (jss_cons (Γ1 := [0, 0, 0, 0, 0, 1, 0, 0])
  (js_for (b := true) (Γ := [0, 0, 0, 0, 0, 1, 0, 0]) (Γ' := [0, 0, 0, 0, 0, 1, 0, 0]) (by decide +kernel) (ji_enum (bn_enumerate (by decide +kernel) (by decide +kernel)) (fun _ _ => rfl) (JE.z (je_var rfl (vis_by (by decide +kernel)) rfl))) (jg_tup (jgs_cons (jg_var rfl (by decide +kernel) rfl) (jgs_cons (jg_var rfl (by decide +kernel) rfl) jgs_nil (fun _ => rfl)) (fun _ => rfl)) (fun _ => rfl) (fun _ => rfl)) (jss_cons (Γ1 := [0, 0, 0, 0, 0, 1, 0, 0])
  (js_ex (b := false) (jm_append rfl (vis_by (by decide +kernel)) rfl (by decide +kernel) (fun _ _ => rfl) (fun _ => rfl) (fun _ => rfl) rfl (fun _ => rfl) (ja_val (fun _ _ => rfl) (je_min3 (bn_min (by decide +kernel) (by decide +kernel)) (fun _ _ => rfl) (fun _ _ => rfl) (fun _ _ => rfl) (ja_val (fun _ _ => rfl) (JE.frz (je_add (J2.v (je_idx (fun _ _ => rfl) (J2.l (jb_var rfl (vis_by (by decide +kernel)) (by decide +kernel)) (JE.lent (k := 0) (je_neg (JE.lent (k := 0) je_int))))) (JE.lent (k := 0) je_int)))) (ja_val (fun _ _ => rfl) (JE.frz (je_add (J2.v (je_idx (fun _ _ => rfl) (J2.v (je_var rfl (vis_by (by decide +kernel)) rfl) (JE.lent (je_add (J2.v (je_var rfl (vis_by (by decide +kernel)) rfl) (JE.lent (k := 0) je_int)))))) (JE.lent (k := 0) je_int)))) (ja_val (fun _ _ => rfl) (JE.frz (je_add (J2.v (je_idx (fun _ _ => rfl) (J2.v (je_var rfl (vis_by (by decide +kernel)) rfl) (jb_var rfl (vis_by (by decide +kernel)) (by decide +kernel)))) (JE.lent (je_toint (bn_int (by decide +kernel) (by decide +kernel)) (fun _ _ => rfl) (JE.lent (je_cmp c_ne (J2.v (je_var rfl (vis_by (by decide +kernel)) rfl) (jb_var rfl (vis_by (by decide +kernel)) (by decide +kernel))) rfl))))))) ja_nil)))) ja_nil)) (fun _ => rfl))
  jss_nil) (by decide +kernel) (fun _ _ => rfl))
  (jss_cons (Γ1 := [0, 0, 0, 0, 0, 0, 0, 0])
  (JS.pre (Γ1 := [0, 0, 0, 0, 0, 0, 0, 0]) (by decide +kernel) (js_set (b := true) (k := 0) rfl (by decide +kernel) (by decide +kernel) (by decide +kernel) (je_var rfl (vis_by (by decide +kernel)) rfl) (fun _ => rfl)))
  jss_nil))) (by decide +kernel) (fun _ _ => rfl))
  (jss_cons (Γ1 := [0, 0, 0, 0, 0, 0, 0, 0]) (js_ret (b := true) (by decide +kernel) (je_idx (fun _ _ => rfl) (J2.v (je_var rfl (vis_by (by decide +kernel)) rfl) (JE.lent (k := 0) (je_neg (JE.lent (k := 0) je_int)))))) jss_nil)))
def p23 : DefP := ⟨"_law_edits", ["one", "other"], N23, defArgs (top 37), defBody (top 37), defScope (top 37), d23⟩
theorem good23 : DefGood S 23 fi23 p23 := ⟨rfl, C8.fnScope_by (by decide +kernel), defOk_by rfl (by decide +kernel), rfl, fun _ _ _ _ _ _ us hl => match us, hl with | [_, _], _ => rfl, ⟨_, b23, by decide +kernel⟩⟩
theorem b24 : JSs ⟨S, N24, defScope (top 38), fun _ => true, fi24.io, fi24.ret, []⟩ (modes fi24.np fi24.io ++ List.replicate (N24.length - fi24.np) 0) (defBody (top 38)) d24.body [0, 0, 0, 0, 0, 0] := by
  show JSs ⟨S, N24, defScope (top 38), fun _ => true, [], 0, []⟩ [0, 0, 0, 0, 0, 0] _ _ _
  exact (jss_cons (Γ1 := [0, 0, 0, 1, 0, 0])
  (js_set (b := true) (k := 1) rfl (by decide +kernel) (by decide +kernel) (by decide +kernel) (je_lst ja_nil (by decide +kernel) (by decide +kernel)) (fun _ => rfl))
  (jss_cons (Γ1 := [0, 0, 0, 1, 0, 0])
  (js_for (b := true) (Γ := [0, 0, 0, 1, 0, 0]) (Γ' := [0, 0, 0, 1, 0, 0]) (by decide +kernel) (ji_range1 (bn_range (by decide +kernel) (by decide +kernel)) (fun _ _ => rfl) (JE.frz (je_add (J2.v (je_var rfl (vis_by (by decide +kernel)) rfl) (JE.lent (k := 0) je_int))))) (jg_var rfl (by decide +kernel) rfl) (jss_cons (Γ1 := [0, 0, 0, 1, 0, 0])
  (js_set (b := true) (k := 0) rfl (by decide +kernel) (by decide +kernel) (by decide +kernel) (JE.frz (je_slc (jb_var rfl (vis_by (by decide +kernel)) (by decide +kernel)) (jp_some (JE.lent (je_sub (J2.v (je_var rfl (vis_by (by decide +kernel)) rfl) (jb_var rfl (vis_by (by decide +kernel)) (by decide +kernel)))))) (jp_some (jb_var rfl (vis_by (by decide +kernel)) (by decide +kernel))))) (fun _ => rfl))
  (jss_cons (Γ1 := [0, 0, 0, 1, 0, 0])
  (js_ex (b := false) (jm_append rfl (vis_by (by decide +kernel)) rfl (by decide +kernel) (fun _ _ => rfl) (fun _ => rfl) (fun _ => rfl) rfl (fun _ => rfl) (ja_val (fun _ _ => rfl) (je_tup (ja_val (fun _ _ => rfl) (je_call (fi := fi23) (ss := [none, none]) rfl (by decide +kernel) (by decide +kernel) (fun _ _ => rfl) (fun _ => rfl) (callOk_by (by decide +kernel)) (by decide +kernel) (ja_val (fun _ _ => rfl) (je_var rfl (vis_by (by decide +kernel)) rfl) (ja_val (fun _ _ => rfl) (je_var rfl (vis_by (by decide +kernel)) rfl) ja_nil))) (ja_val (fun _ _ => rfl) (JE.frz (je_sub (J2.v je_int (jb_var rfl (vis_by (by decide +kernel)) (by decide +kernel))))) (ja_val (fun _ _ => rfl) (je_var rfl (vis_by (by decide +kernel)) rfl) ja_nil))) (by decide +kernel) (by decide +kernel)) ja_nil)) (fun _ => rfl))
  jss_nil)) (by decide +kernel) (fun _ _ => rfl))
  (jss_cons (Γ1 := [0, 0, 0, 0, 0, 0]) (js_ret (b := true) (by decide +kernel) (je_tup (ja_val (fun _ _ => rfl) (je_idx (fun _ _ => rfl) (J2.v (je_minD (bn_min (by decide +kernel) (by decide +kernel)) (fun _ _ => rfl) (jb_var rfl (vis_by (by decide +kernel)) (by decide +kernel))) (JE.lent (k := 0) je_int))) (ja_val (fun _ _ => rfl) (je_idx (fun _ _ => rfl) (J2.v (je_minD (bn_min (by decide +kernel) (by decide +kernel)) (fun _ _ => rfl) (jb_var rfl (vis_by (by decide +kernel)) (by decide +kernel))) (JE.lent (k := 0) je_int))) ja_nil)) (by decide +kernel) (by decide +kernel))) jss_nil)))
def p24 : DefP := ⟨"_law_stretches", ["page", "word", "end"], N24, defArgs (top 38), defBody (top 38), defScope (top 38), d24⟩
theorem good24 : DefGood S 24 fi24 p24 := ⟨rfl, C8.fnScope_by (by decide +kernel), defOk_by rfl (by decide +kernel), rfl, fun _ _ _ _ _ _ us hl => match us, hl with | [_, _, _], _ => rfl, ⟨_, b24, by decide +kernel⟩⟩
theorem b25 : JSs ⟨S, N25, defScope (top 39), fun _ => true, fi25.io, fi25.ret, []⟩ (modes fi25.np fi25.io ++ List.replicate (N25.length - fi25.np) 0) (defBody (top 39)) d25.body [0, 0, 0] := by
  show JSs ⟨S, N25, defScope (top 39), fun _ => true, [], 0, []⟩ [0, 0, 0] _ _ _
  exact (jss_cons (Γ1 := [0, 0, 0]) (js_ret (b := true) (by decide +kernel) (JE.frz (je_lc (k := 0) (own := [("end", 2)]) (pb := true) (fz := true) (by decide +kernel) (by decide +kernel) (by decide +kernel) (by decide +kernel) (has_by (by decide +kernel)) (ji_range1 (bn_range (by decide +kernel) (by decide +kernel)) (fun _ _ => rfl) (JE.frz (je_add (J2.v (JE.frz (je_len (bn_len (by decide +kernel) (by decide +kernel)) (fun _ _ => rfl) (jb_var rfl (vis_by (by decide +kernel)) (by decide +kernel)))) (JE.lent (k := 0) je_int))))) (jg_var rfl (by decide +kernel) rfl) jts_nil (je_idx (fun _ _ => rfl) (J2.v (je_call (fi := fi24) (ss := [none, none, none]) rfl (by decide +kernel) (by decide +kernel) (fun _ _ => rfl) (fun _ => rfl) (callOk_by (by decide +kernel)) (by decide +kernel) (ja_val (fun _ _ => rfl) (je_var rfl (vis_by (by decide +kernel)) rfl) (ja_val (fun _ _ => rfl) (je_var rfl (vis_by (by decide +kernel)) rfl) (ja_val (fun _ _ => rfl) (je_var rfl (vis_by (by decide +kernel)) rfl) ja_nil)))) (JE.lent (k := 0) je_int))) (fun _ _ => rfl)))) jss_nil)
def p25 : DefP := ⟨"_law_row", ["page", "word"], N25, defArgs (top 39), defBody (top 39), defScope (top 39), d25⟩
theorem good25 : DefGood S 25 fi25 p25 := ⟨rfl, C8.fnScope_by (by decide +kernel), defOk_by rfl (by decide +kernel), rfl, fun _ _ _ _ _ _ us hl => match us, hl with | [_, _], _ => rfl, ⟨_, b25, by decide +kernel⟩⟩
theorem b26 : JSs ⟨S, N26, defScope (top 40), fun _ => true, fi26.io, fi26.ret, []⟩ (modes fi26.np fi26.io ++ List.replicate (N26.length - fi26.np) 0) (defBody (top 40)) d26.body [0, 0, 0, 0, 0, 0, 0, 0, 0, 0] := by
  show JSs ⟨S, N26, defScope (top 40), fun _ => true, [], 0, []⟩ [0, 0, 0, 0, 0, 0, 0, 0, 0, 0] _ _ _
  exact (jss_cons (Γ1 := [0, 0, 0, 1, 0, 0, 0, 0, 0, 0])
  (js_set (b := true) (k := 1) rfl (by decide +kernel) (by decide +kernel) (by decide +kernel) (je_lst ja_nil (by decide +kernel) (by decide +kernel)) (fun _ => rfl))
  (jss_cons (Γ1 := [0, 0, 0, 1, 0, 0, 0, 0, 0, 0])
  (js_for (b := true) (Γ := [0, 0, 0, 1, 0, 0, 0, 0, 0, 0]) (Γ' := [0, 0, 0, 1, 0, 0, 0, 0, 0, 0]) (by decide +kernel) (ji_range1 (bn_range (by decide +kernel) (by decide +kernel)) (fun _ _ => rfl) (JE.frz (je_add (J2.v (JE.frz (je_len (bn_len (by decide +kernel) (by decide +kernel)) (fun _ _ => rfl) (jb_var rfl (vis_by (by decide +kernel)) (by decide +kernel)))) (JE.lent (k := 0) je_int))))) (jg_var rfl (by decide +kernel) rfl) (jss_cons (Γ1 := [0, 0, 0, 1, 0, 0, 0, 0, 0, 0])
  (js_set (b := true) (k := 0) rfl (by decide +kernel) (by decide +kernel) (by decide +kernel) (je_ite (jt_cmp c_gt (J2.v (je_var rfl (vis_by (by decide +kernel)) rfl) (JE.lent (k := 0) je_int)) rfl) (je_idx (fun _ _ => rfl) (J2.l (jb_var rfl (vis_by (by decide +kernel)) (by decide +kernel)) (JE.lent (k := 0) (je_neg (JE.lent (k := 0) je_int))))) je_int) (fun _ => rfl))
  (jss_cons (Γ1 := [0, 0, 0, 1, 0, 0, 0, 0, 0, 0])
  (js_unp (b := true) (je_call (fi := fi24) (ss := [none, none, none]) rfl (by decide +kernel) (by decide +kernel) (fun _ _ => rfl) (fun _ => rfl) (callOk_by (by decide +kernel)) (by decide +kernel) (ja_val (fun _ _ => rfl) (je_var rfl (vis_by (by decide +kernel)) rfl) (ja_val (fun _ _ => rfl) (je_var rfl (vis_by (by decide +kernel)) rfl) (ja_val (fun _ _ => rfl) (je_var rfl (vis_by (by decide +kernel)) rfl) ja_nil)))) (jg_tup (jgs_cons (jg_var rfl (by decide +kernel) rfl) (jgs_cons (jg_var rfl (by decide +kernel) rfl) jgs_nil (fun _ => rfl)) (fun _ => rfl)) (fun _ => rfl) (fun _ => rfl)) (by decide +kernel) (fun _ => rfl) (fun _ => rfl) (fun _ => rfl))
  (jss_cons (Γ1 := [0, 0, 0, 1, 0, 0, 0, 0, 0, 0])
  (js_if (b := true) (Γ' := [0, 0, 0, 1, 0, 0, 0, 0, 0, 0]) (jt_cmp c_le (J2.v (je_var rfl (vis_by (by decide +kernel)) rfl) (jb_var rfl (vis_by (by decide +kernel)) (by decide +kernel))) rfl) (jss_cons (Γ1 := [0, 0, 0, 1, 0, 0, 0, 0, 0, 0])
  (js_set (b := true) (k := 0) rfl (by decide +kernel) (by decide +kernel) (by decide +kernel) (JE.frz (je_sub (J2.v (je_var rfl (vis_by (by decide +kernel)) rfl) (JE.lent (je_len (bn_len (by decide +kernel) (by decide +kernel)) (fun _ _ => rfl) (jb_var rfl (vis_by (by decide +kernel)) (by decide +kernel))))))) (fun _ => rfl))
  (jss_cons (Γ1 := [0, 0, 0, 1, 0, 0, 0, 0, 0, 0])
  (js_set (b := true) (k := 0) rfl (by decide +kernel) (by decide +kernel) (by decide +kernel) (je_ite (jt_cmp c_lt (J2.v (je_var rfl (vis_by (by decide +kernel)) rfl) (jb_var rfl (vis_by (by decide +kernel)) (by decide +kernel))) rfl) (je_idx (fun _ _ => rfl) (J2.l (jb_var rfl (vis_by (by decide +kernel)) (by decide +kernel)) (jb_var rfl (vis_by (by decide +kernel)) (by decide +kernel)))) (je_var rfl (vis_by (by decide +kernel)) rfl)) (fun _ => rfl))
  (jss_cons (Γ1 := [0, 0, 0, 1, 0, 0, 0, 0, 0, 0])
  (js_set (b := true) (k := 0) rfl (by decide +kernel) (by decide +kernel) (by decide +kernel) (je_max2 (bn_max (by decide +kernel) (by decide +kernel)) (fun _ _ => rfl) (fun _ _ => rfl) (ja_val (fun _ _ => rfl) (je_var rfl (vis_by (by decide +kernel)) rfl) (ja_val (fun _ _ => rfl) (JE.frz (je_add (J2.v (je_var rfl (vis_by (by decide +kernel)) rfl) (JE.lent (k := 0) je_int)))) ja_nil))) (fun _ => rfl))
  jss_nil))) jss_nil)
  (jss_cons (Γ1 := [0, 0, 0, 1, 0, 0, 0, 0, 0, 0])
  (js_ex (b := false) (jm_append rfl (vis_by (by decide +kernel)) rfl (by decide +kernel) (fun _ _ => rfl) (fun _ => rfl) (fun _ => rfl) rfl (fun _ => rfl) (ja_val (fun _ _ => rfl) (je_var rfl (vis_by (by decide +kernel)) rfl) ja_nil)) (fun _ => rfl))
  jss_nil)))) (by decide +kernel) (fun _ _ => rfl))
  (jss_cons (Γ1 := [0, 0, 0, 0, 0, 0, 0, 0, 0, 0]) (js_ret (b := true) (by decide +kernel) (je_idx (fun _ _ => rfl) (J2.l (jb_var rfl (vis_by (by decide +kernel)) (by decide +kernel)) (JE.lent (k := 0) (je_neg (JE.lent (k := 0) je_int)))))) jss_nil)))
def p26 : DefP := ⟨"_law_once", ["page", "word", "most"], N26, defArgs (top 40), defBody (top 40), defScope (top 40), d26⟩
theorem good26 : DefGood S 26 fi26 p26 := ⟨rfl, C8.fnScope_by (by decide +kernel), defOk_by rfl (by decide +kernel), rfl, fun _ _ _ _ _ _ us hl => match us, hl with | [_, _, _], _ => rfl, ⟨_, b26, by decide +kernel⟩⟩
theorem b27 : JSs ⟨S, N27, defScope (top 41), fun _ => true, fi27.io, fi27.ret, []⟩ (modes fi27.np fi27.io ++ List.replicate (N27.length - fi27.np) 0) (defBody (top 41)) d27.body [1, 0, 0, 0, 0, 0, 0, 0, 0, 0] := by
  show JSs ⟨S, N27, defScope (top 41), fun _ => true, [(0, 1)], 0, []⟩ [1, 0, 0, 0, 0, 0, 0, 0, 0, 0] _ _ _
  exact (jss_cons (Γ1 := [1, 0, 0, 0, 0, 0, 0, 0, 0, 0])
  (js_set (b := true) (k := 0) rfl (by decide +kernel) (by decide +kernel) (by decide +kernel) (je_call (fi := fi25) (ss := [none, none]) rfl (by decide +kernel) (by decide +kernel) (fun _ _ => rfl) (fun _ => rfl) (callOk_by (by decide +kernel)) (by decide +kernel) (ja_val (fun _ _ => rfl) (je_var rfl (vis_by (by decide +kernel)) rfl) (ja_val (fun _ _ => rfl) (je_var rfl (vis_by (by decide +kernel)) rfl) ja_nil))) (fun _ => rfl))
  (jss_cons (Γ1 := [1, 0, 0, 0, 0, 0, 0, 0, 0, 0])
  (js_if (b := true) (Γ' := [1, 0, 0, 0, 0, 0, 0, 0, 0, 0]) (jt_not (jt_of (JE.lent (je_call (fi := fi21) (ss := [none, none]) rfl (by decide +kernel) (by decide +kernel) (fun _ _ => rfl) (fun _ => rfl) (callOk_by (by decide +kernel)) (by decide +kernel) (ja_val (fun _ _ => rfl) (je_call (fi := fi11) (ss := [none, none]) rfl (by decide +kernel) (by decide +kernel) (fun _ _ => rfl) (fun _ => rfl) (callOk_by (by decide +kernel)) (by decide +kernel) (ja_val (fun _ _ => rfl) (je_var rfl (vis_by (by decide +kernel)) rfl) (ja_val (fun _ _ => rfl) (je_var rfl (vis_by (by decide +kernel)) rfl) ja_nil))) (ja_val (fun _ _ => rfl) (je_totup (bn_tuple (by decide +kernel) (by decide +kernel)) (fun _ _ => rfl) (jb_var rfl (vis_by (by decide +kernel)) (by decide +kernel))) ja_nil)))) (fun _ _ => rfl))) (jss_cons (Γ1 := [1, 0, 0, 0, 0, 0, 0, 0, 0, 0]) (js_ret (b := true) (by decide +kernel) je_bl) jss_nil) jss_nil)
  (jss_cons (Γ1 := [1, 0, 0, 0, 0, 0, 0, 0, 0, 0])
  (js_if (b := true) (Γ' := [1, 0, 0, 0, 0, 0, 0, 0, 0, 0]) (jt_not (jt_of (JE.lent (je_all (bn_all (by decide +kernel) (by decide +kernel)) (fun _ _ => rfl) (JE.lent (je_lc (k := 0) (own := [("one", 4), ("other", 5)]) (pb := true) (fz := true) (by decide +kernel) (by decide +kernel) (by decide +kernel) (by decide +kernel) (has_by (by decide +kernel)) (ji_zip (bn_zip (by decide +kernel) (by decide +kernel)) (fun _ _ => rfl) (fun _ _ => rfl) (JE.z (je_var rfl (vis_by (by decide +kernel)) rfl)) (JE.z (JE.frz (je_slc (jb_var rfl (vis_by (by decide +kernel)) (by decide +kernel)) (jp_some (JE.lent (k := 0) je_int)) jp_none)))) (jg_tup (jgs_cons (jg_var rfl (by decide +kernel) rfl) (jgs_cons (jg_var rfl (by decide +kernel) rfl) jgs_nil (fun _ => rfl)) (fun _ => rfl)) (fun _ => rfl) (fun _ => rfl)) jts_nil (JE.frz (je_cmp c_lt (J2.v (JE.frz (je_abs (bn_abs (by decide +kernel) (by decide +kernel)) (fun _ _ => rfl) (JE.lent (je_sub (J2.v (je_var rfl (vis_by (by decide +kernel)) rfl) (jb_var rfl (vis_by (by decide +kernel)) (by decide +kernel))))))) (JE.lent (k := 0) je_int)) rfl)) (fun _ _ => rfl))))) (fun _ _ => rfl))) (jss_cons (Γ1 := [1, 0, 0, 0, 0, 0, 0, 0, 0, 0]) (js_ret (b := true) (by decide +kernel) je_bl) jss_nil) jss_nil)
  (jss_cons (Γ1 := [1, 0, 0, 0, 0, 0, 0, 0, 0, 0])
  (js_if (b := true) (Γ' := [1, 0, 0, 0, 0, 0, 0, 0, 0, 0]) (jt_not (jt_of (JE.lent (je_call (fi := fi21) (ss := [none, none]) rfl (by decide +kernel) (by decide +kernel) (fun _ _ => rfl) (fun _ => rfl) (callOk_by (by decide +kernel)) (by decide +kernel) (ja_val (fun _ _ => rfl) (je_call (fi := fi14) (ss := [none, none]) rfl (by decide +kernel) (by decide +kernel) (fun _ _ => rfl) (fun _ => rfl) (callOk_by (by decide +kernel)) (by decide +kernel) (ja_val (fun _ _ => rfl) (je_var rfl (vis_by (by decide +kernel)) rfl) (ja_val (fun _ _ => rfl) (je_var rfl (vis_by (by decide +kernel)) rfl) ja_nil))) (ja_val (fun _ _ => rfl) (je_tup (ja_val (fun _ _ => rfl) (JE.frz (je_min (bn_min (by decide +kernel) (by decide +kernel)) (fun _ _ => rfl) (jb_var rfl (vis_by (by decide +kernel)) (by decide +kernel)))) (ja_val (fun _ _ => rfl) (JE.frz (je_lindex (fun _ _ => rfl) (fun _ => rfl) (fun _ => rfl) rfl (jb_var rfl (vis_by (by decide +kernel)) (by decide +kernel)) (JE.lent (je_min (bn_min (by decide +kernel) (by decide +kernel)) (fun _ _ => rfl) (jb_var rfl (vis_by (by decide +kernel)) (by decide +kernel)))))) ja_nil)) (by decide +kernel) (by decide +kernel)) ja_nil)))) (fun _ _ => rfl))) (jss_cons (Γ1 := [1, 0, 0, 0, 0, 0, 0, 0, 0, 0]) (js_ret (b := true) (by decide +kernel) je_bl) jss_nil) jss_nil)
  (jss_cons (Γ1 := [1, 0, 0, 0, 0, 0, 0, 0, 0, 0])
  (js_for (b := true) (Γ := [1, 0, 0, 0, 0, 0, 0, 0, 0, 0]) (Γ' := [1, 0, 0, 0, 0, 0, 0, 0, 0, 0]) (by decide +kernel) (ji_range1 (bn_range (by decide +kernel) (by decide +kernel)) (fun _ _ => rfl) (JE.frz (je_add (J2.v (JE.frz (je_len (bn_len (by decide +kernel) (by decide +kernel)) (fun _ _ => rfl) (jb_var rfl (vis_by (by decide +kernel)) (by decide +kernel)))) (JE.lent (k := 0) je_int))))) (jg_var rfl (by decide +kernel) rfl) (jss_cons (Γ1 := [1, 0, 0, 0, 0, 0, 0, 0, 0, 0])
  (js_if (b := true) (Γ' := [1, 0, 0, 0, 0, 0, 0, 0, 0, 0]) (jt_not (jt_of (JE.lent (je_call (fi := fi21) (ss := [none, none]) rfl (by decide +kernel) (by decide +kernel) (fun _ _ => rfl) (fun _ => rfl) (callOk_by (by decide +kernel)) (by decide +kernel) (ja_val (fun _ _ => rfl) (je_call (fi := fi16) (ss := [none, none, none]) rfl (by decide +kernel) (by decide +kernel) (fun _ _ => rfl) (fun _ => rfl) (callOk_by (by decide +kernel)) (by decide +kernel) (ja_val (fun _ _ => rfl) (je_var rfl (vis_by (by decide +kernel)) rfl) (ja_val (fun _ _ => rfl) (je_var rfl (vis_by (by decide +kernel)) rfl) (ja_val (fun _ _ => rfl) (je_var rfl (vis_by (by decide +kernel)) rfl) ja_nil)))) (ja_val (fun _ _ => rfl) (je_idx (fun _ _ => rfl) (J2.v (je_call (fi := fi24) (ss := [none, none, none]) rfl (by decide +kernel) (by decide +kernel) (fun _ _ => rfl) (fun _ => rfl) (callOk_by (by decide +kernel)) (by decide +kernel) (ja_val (fun _ _ => rfl) (je_var rfl (vis_by (by decide +kernel)) rfl) (ja_val (fun _ _ => rfl) (je_var rfl (vis_by (by decide +kernel)) rfl) (ja_val (fun _ _ => rfl) (je_var rfl (vis_by (by decide +kernel)) rfl) ja_nil)))) (JE.lent (k := 0) je_int))) ja_nil)))) (fun _ _ => rfl))) (jss_cons (Γ1 := [1, 0, 0, 0, 0, 0, 0, 0, 0, 0]) (js_ret (b := true) (by decide +kernel) je_bl) jss_nil) jss_nil)
  jss_nil) (by decide +kernel) (fun _ _ => rfl))
  (jss_cons (Γ1 := [1, 0, 0, 0, 0, 0, 0, 0, 0, 0])
  (js_for (b := false) (Γ := [1, 0, 0, 0, 0, 0, 0, 0, 0, 0]) (Γ' := [1, 0, 0, 0, 0, 0, 0, 0, 0, 0]) (by decide +kernel) (ji_e (JE.z (je_tup (ja_val (fun _ _ => rfl) je_int (ja_val (fun _ _ => rfl) je_int (ja_val (fun _ _ => rfl) (je_call (fi := fi19) (ss := [some 0, none]) rfl (by decide +kernel) (by decide +kernel) (fun _ _ => rfl) (fun _ => rfl) (callOk_by (by decide +kernel)) (by decide +kernel) (ja_slot rfl (vis_by (by decide +kernel)) (ja_val (fun _ _ => rfl) je_int ja_nil))) ja_nil))) (by decide +kernel) (by decide +kernel)))) (jg_var rfl (by decide +kernel) rfl) (jss_cons (Γ1 := [1, 0, 0, 0, 0, 0, 0, 0, 0, 0])
  (js_set (b := true) (k := 0) rfl (by decide +kernel) (by decide +kernel) (by decide +kernel) (je_totup (bn_tuple (by decide +kernel) (by decide +kernel)) (fun _ _ => rfl) (JE.lent (je_lc (k := 0) (own := [("end", 6), ("many", 9)]) (pb := true) (fz := true) (by decide +kernel) (by decide +kernel) (by decide +kernel) (by decide +kernel) (has_by (by decide +kernel)) (ji_enum (bn_enumerate (by decide +kernel) (by decide +kernel)) (fun _ _ => rfl) (JE.z (je_var rfl (vis_by (by decide +kernel)) rfl))) (jg_tup (jgs_cons (jg_var rfl (by decide +kernel) rfl) (jgs_cons (jg_var rfl (by decide +kernel) rfl) jgs_nil (fun _ => rfl)) (fun _ => rfl)) (fun _ => rfl) (fun _ => rfl)) (jts_one (jt_cmp c_le (J2.v (je_var rfl (vis_by (by decide +kernel)) rfl) (jb_var rfl (vis_by (by decide +kernel)) (by decide +kernel))) rfl)) (je_var rfl (vis_by (by decide +kernel)) rfl) (fun _ _ => rfl)))) (fun _ => rfl))
  (jss_cons (Γ1 := [1, 0, 0, 0, 0, 0, 0, 0, 0, 0])
  (js_if (b := true) (Γ' := [1, 0, 0, 0, 0, 0, 0, 0, 0, 0]) (jt_not (jt_of (JE.lent (je_call (fi := fi21) (ss := [none, none]) rfl (by decide +kernel) (by decide +kernel) (fun _ _ => rfl) (fun _ => rfl) (callOk_by (by decide +kernel)) (by decide +kernel) (ja_val (fun _ _ => rfl) (je_call (fi := fi13) (ss := [none, none, none]) rfl (by decide +kernel) (by decide +kernel) (fun _ _ => rfl) (fun _ => rfl) (callOk_by (by decide +kernel)) (by decide +kernel) (ja_val (fun _ _ => rfl) (je_var rfl (vis_by (by decide +kernel)) rfl) (ja_val (fun _ _ => rfl) (je_var rfl (vis_by (by decide +kernel)) rfl) (ja_val (fun _ _ => rfl) (je_var rfl (vis_by (by decide +kernel)) rfl) ja_nil)))) (ja_val (fun _ _ => rfl) (je_var rfl (vis_by (by decide +kernel)) rfl) ja_nil)))) (fun _ _ => rfl))) (jss_cons (Γ1 := [1, 0, 0, 0, 0, 0, 0, 0, 0, 0]) (js_ret (b := true) (by decide +kernel) je_bl) jss_nil) jss_nil)
  (jss_cons (Γ1 := [1, 0, 0, 0, 0, 0, 0, 0, 0, 0])
  (js_if (b := true) (Γ' := [1, 0, 0, 0, 0, 0, 0, 0, 0, 0]) (jt_not (jt_of (JE.lent (je_call (fi := fi21) (ss := [none, none]) rfl (by decide +kernel) (by decide +kernel) (fun _ _ => rfl) (fun _ => rfl) (callOk_by (by decide +kernel)) (by decide +kernel) (ja_val (fun _ _ => rfl) (je_call (fi := fi17) (ss := [none, none, none]) rfl (by decide +kernel) (by decide +kernel) (fun _ _ => rfl) (fun _ => rfl) (callOk_by (by decide +kernel)) (by decide +kernel) (ja_val (fun _ _ => rfl) (je_var rfl (vis_by (by decide +kernel)) rfl) (ja_val (fun _ _ => rfl) (je_var rfl (vis_by (by decide +kernel)) rfl) (ja_val (fun _ _ => rfl) (je_var rfl (vis_by (by decide +kernel)) rfl) ja_nil)))) (ja_val (fun _ _ => rfl) (je_call (fi := fi26) (ss := [none, none, none]) rfl (by decide +kernel) (by decide +kernel) (fun _ _ => rfl) (fun _ => rfl) (callOk_by (by decide +kernel)) (by decide +kernel) (ja_val (fun _ _ => rfl) (je_var rfl (vis_by (by decide +kernel)) rfl) (ja_val (fun _ _ => rfl) (je_var rfl (vis_by (by decide +kernel)) rfl) (ja_val (fun _ _ => rfl) (je_var rfl (vis_by (by decide +kernel)) rfl) ja_nil)))) ja_nil)))) (fun _ _ => rfl))) (jss_cons (Γ1 := [1, 0, 0, 0, 0, 0, 0, 0, 0, 0]) (js_ret (b := true) (by decide +kernel) je_bl) jss_nil) jss_nil)
  jss_nil))) (by decide +kernel) (fun _ _ => rfl))
  (jss_cons (Γ1 := [1, 0, 0, 0, 0, 0, 0, 0, 0, 0]) (js_ret (b := true) (by decide +kernel) je_bl) jss_nil)))))))
def p27 : DefP := ⟨"_law_is_right", ["hand", "page", "word"], N27, defArgs (top 41), defBody (top 41), defScope (top 41), d27⟩
theorem good27 : DefGood S 27 fi27 p27 := ⟨rfl, C8.fnScope_by (by decide +kernel), defOk_by rfl (by decide +kernel), rfl, fun _ _ _ _ _ _ us hl => match us, hl with | [_, _, _], _ => rfl, ⟨_, b27, by decide +kernel⟩⟩
theorem b28 : JSs ⟨S, N28, defScope (top 42), fun _ => true, fi28.io, fi28.ret, []⟩ (modes fi28.np fi28.io ++ List.replicate (N28.length - fi28.np) 0) (defBody (top 42)) d28.body [0, 0, 0, 0, 0] := by
  show JSs ⟨S, N28, defScope (top 42), fun _ => true, [], 0, []⟩ [0, 0, 0, 0, 0] _ _ _
  exact (jss_cons (Γ1 := [0, 1, 0, 0, 0])
  (js_set (b := true) (k := 1) rfl (by decide +kernel) (by decide +kernel) (by decide +kernel) (je_call (fi := fi18) (ss := [none]) rfl (by decide +kernel) (by decide +kernel) (fun _ _ => rfl) (fun _ => rfl) (callOk_by (by decide +kernel)) (by decide +kernel) (ja_val (fun _ _ => rfl) (je_var rfl (vis_by (by decide +kernel)) rfl) ja_nil)) (fun _ => rfl))
  (jss_cons (Γ1 := [0, 1, 0, 0, 0])
  (js_if (b := true) (Γ' := [0, 1, 0, 0, 0]) (JW.t (jw_or (jt_cmp c_ne (J2.v (je_call (fi := fi11) (ss := [none, none]) rfl (by decide +kernel) (by decide +kernel) (fun _ _ => rfl) (fun _ => rfl) (callOk_by (by decide +kernel)) (by decide +kernel) (ja_val (fun _ _ => rfl) (je_str (by decide +kernel) (by decide +kernel)) (ja_val (fun _ _ => rfl) (je_str (by decide +kernel) (by decide +kernel)) ja_nil))) (JE.lent (k := 0) (je_tup (ja_val (fun _ _ => rfl) je_int (ja_val (fun _ _ => rfl) je_int (ja_val (fun _ _ => rfl) je_int (ja_val (fun _ _ => rfl) je_int (ja_val (fun _ _ => rfl) je_int (ja_val (fun _ _ => rfl) je_int ja_nil)))))) (by decide +kernel) (by decide +kernel)))) rfl) (jw_or1 (jt_cmp c_ne (J2.v (je_call (fi := fi13) (ss := [none, none, none]) rfl (by decide +kernel) (by decide +kernel) (fun _ _ => rfl) (fun _ => rfl) (callOk_by (by decide +kernel)) (by decide +kernel) (ja_val (fun _ _ => rfl) (je_str (by decide +kernel) (by decide +kernel)) (ja_val (fun _ _ => rfl) (je_str (by decide +kernel) (by decide +kernel)) (ja_val (fun _ _ => rfl) je_int ja_nil)))) (JE.lent (k := 0) (je_tup (ja_val (fun _ _ => rfl) je_int (ja_val (fun _ _ => rfl) je_int ja_nil)) (by decide +kernel) (by decide +kernel)))) rfl)))) (jss_cons (Γ1 := [0, 1, 0, 0, 0]) (js_ret (b := true) (by decide +kernel) je_bl) jss_nil) jss_nil)
  (jss_cons (Γ1 := [0, 1, 0, 0, 0])
  (js_if (b := true) (Γ' := [0, 1, 0, 0, 0]) (JW.t (jw_or (jt_cmp c_ne (J2.v (je_call (fi := fi16) (ss := [none, none, none]) rfl (by decide +kernel) (by decide +kernel) (fun _ _ => rfl) (fun _ => rfl) (callOk_by (by decide +kernel)) (by decide +kernel) (ja_val (fun _ _ => rfl) (je_str (by decide +kernel) (by decide +kernel)) (ja_val (fun _ _ => rfl) (je_str (by decide +kernel) (by decide +kernel)) (ja_val (fun _ _ => rfl) je_int ja_nil)))) (JE.lent (k := 0) (je_str (by decide +kernel) (by decide +kernel)))) rfl) (jw_or1 (jt_cmp c_ne (J2.v (je_call (fi := fi14) (ss := [none, none]) rfl (by decide +kernel) (by decide +kernel) (fun _ _ => rfl) (fun _ => rfl) (callOk_by (by decide +kernel)) (by decide +kernel) (ja_val (fun _ _ => rfl) (je_str (by decide +kernel) (by decide +kernel)) (ja_val (fun _ _ => rfl) (je_str (by decide +kernel) (by decide +kernel)) ja_nil))) (JE.lent (k := 0) (je_tup (ja_val (fun _ _ => rfl) je_int (ja_val (fun _ _ => rfl) je_int ja_nil)) (by decide +kernel) (by decide +kernel)))) rfl)))) (jss_cons (Γ1 := [0, 1, 0, 0, 0]) (js_ret (b := true) (by decide +kernel) je_bl) jss_nil) jss_nil)
  (jss_cons (Γ1 := [0, 1, 0, 0, 0])
  (js_if (b := true) (Γ' := [0, 1, 0, 0, 0]) (jt_cmp c_ne (J2.v (je_call (fi := fi17) (ss := [none, none, none]) rfl (by decide +kernel) (by decide +kernel) (fun _ _ => rfl) (fun _ => rfl) (callOk_by (by decide +kernel)) (by decide +kernel) (ja_val (fun _ _ => rfl) (je_str (by decide +kernel) (by decide +kernel)) (ja_val (fun _ _ => rfl) (je_str (by decide +kernel) (by decide +kernel)) (ja_val (fun _ _ => rfl) je_int ja_nil)))) (JE.lent (k := 0) je_int)) rfl) (jss_cons (Γ1 := [0, 1, 0, 0, 0]) (js_ret (b := true) (by decide +kernel) je_bl) jss_nil) jss_nil)
  (jss_cons (Γ1 := [0, 1, 0, 0, 0])
  (js_for (b := true) (Γ := [0, 1, 0, 0, 0]) (Γ' := [0, 1, 0, 0, 0]) (by decide +kernel) (ji_range1 (bn_range (by decide +kernel) (by decide +kernel)) (fun _ _ => rfl) je_int) (jg_var rfl (by decide +kernel) rfl) (jss_cons (Γ1 := [0, 1, 0, 0, 0])
  (js_par2 (i := 3) (j := 4) (k := 0) (l := 0) rfl rfl (by decide +kernel) (by decide +kernel) (by decide +kernel) (by decide +kernel) (by decide +kernel) (fun env he => by cases env; cases he; rfl) (fun _ => rfl) (jo_cons (fun _ _ => rfl) (je_call (fi := fi22) (ss := [some 1, none]) rfl (by decide +kernel) (by decide +kernel) (fun _ _ => rfl) (fun _ => rfl) (callOk_by (by decide +kernel)) (by decide +kernel) (ja_slot rfl (vis_by (by decide +kernel)) (ja_val (fun _ _ => rfl) je_int ja_nil))) (jo_cons (fun _ _ => rfl) (JE.frz (je_add (J2.v (je_call (fi := fi22) (ss := [some 1, none]) rfl (by decide +kernel) (by decide +kernel) (fun _ _ => rfl) (fun _ => rfl) (callOk_by (by decide +kernel)) (by decide +kernel) (ja_slot rfl (vis_by (by decide +kernel)) (ja_val (fun _ _ => rfl) je_int ja_nil))) (JE.lent (k := 0) (je_str (by decide +kernel) (by decide +kernel)))))) jo_nil)))
  (jss_cons (Γ1 := [0, 1, 0, 0, 0])
  (js_set (b := false) (k := 0) rfl (by decide +kernel) (by decide +kernel) (by decide +kernel) (je_call (fi := fi20) (ss := [some 1, none]) rfl (by decide +kernel) (by decide +kernel) (fun _ _ => rfl) (fun _ => rfl) (callOk_by (by decide +kernel)) (by decide +kernel) (ja_slot rfl (vis_by (by decide +kernel)) (ja_val (fun _ _ => rfl) (JE.frz (je_lst (ja_val (fun _ _ => rfl) (je_var rfl (vis_by (by decide +kernel)) rfl) (ja_val (fun _ _ => rfl) (JE.frz (je_add (J2.v (JE.frz (je_slc (jb_var rfl (vis_by (by decide +kernel)) (by decide +kernel)) (jp_some (JE.lent (k := 0) je_int)) (jp_some (JE.lent (k := 0) je_int)))) (JE.lent (k := 0) (je_str (by decide +kernel) (by decide +kernel)))))) ja_nil)) (by decide +kernel) (by decide +kernel))) ja_nil))) (fun _ => rfl))
  (jss_cons (Γ1 := [0, 1, 0, 0, 0])
  (js_if (b := false) (Γ' := [0, 1, 0, 0, 0]) (jt_not (jt_of (JE.lent (je_call (fi := fi27) (ss := [some 1, none, none]) rfl (by decide +kernel) (by decide +kernel) (fun _ _ => rfl) (fun _ => rfl) (callOk_by (by decide +kernel)) (by decide +kernel) (ja_slot rfl (vis_by (by decide +kernel)) (ja_val (fun _ _ => rfl) (je_var rfl (vis_by (by decide +kernel)) rfl) (ja_val (fun _ _ => rfl) (je_var rfl (vis_by (by decide +kernel)) rfl) ja_nil))))) (fun _ _ => rfl))) (jss_cons (Γ1 := [0, 1, 0, 0, 0]) (js_ret (b := true) (by decide +kernel) je_bl) jss_nil) jss_nil)
  jss_nil))) (by decide +kernel) (fun _ _ => rfl))
  (jss_cons (Γ1 := [0, 0, 0, 0, 0]) (js_ret (b := true) (by decide +kernel) je_bl) jss_nil))))))
def p28 : DefP := ⟨"law", ["script"], N28, defArgs (top 42), defBody (top 42), defScope (top 42), d28⟩
theorem good28 : DefGood S 28 fi28 p28 := ⟨rfl, C8.fnScope_by (by decide +kernel), defOk_by rfl (by decide +kernel), rfl, fun _ _ _ _ _ _ us hl => match us, hl with | [_], _ => rfl, ⟨_, b28, by decide +kernel⟩⟩
def ds : List DefP := [p0, p1, p2, p3, p4, p5, p6, p7, p8, p9, p10, p11, p12, p13, p14, p15, p16, p17, p18, p19, p20, p21, p22, p23, p24, p25, p26, p27, p28]
def cs : List ConK := [.str "LETTERS"  [97, 98, 99, 100, 101, 102, 103, 104, 105, 106, 107, 108, 109, 110, 111, 112, 113, 114, 115, 116, 117, 118, 119, 120, 121, 122], .int "MOST_TEXT"  12, .int "MOST_PAGE"  60, .int "MOST_SLIPS"  12]
theorem goods : Goods S 0 S.fns ds := (.cons good0 (.cons good1 (.cons good2 (.cons good3 (.cons good4 (.cons good5 (.cons good6 (.cons good7 (.cons good8 (.cons good9 (.cons good10 (.cons good11 (.cons good12 (.cons good13 (.cons good14 (.cons good15 (.cons good16 (.cons good17 (.cons good18 (.cons good19 (.cons good20 (.cons good21 (.cons good22 (.cons good23 (.cons good24 (.cons good25 (.cons good26 (.cons good27 (.cons good28 .nil)))))))))))))))))))))))))))))
theorem con_ok : ∀ (j : Nat) (k : ConK), cs[j]? = some k → S.prog.con j = k.val
  | 0, k, e => by cases e; rfl
  | 1, k, e => by cases e; rfl
  | 2, k, e => by cases e; rfl
  | 3, k, e => by cases e; rfl
  | _ + 4, k, e => by cases e
end K18
namespace K18
open MP ME
/-! ### the fewest edits of a stretch that ends here: both from their ends -/
def sl : List Nat → List Nat → Int
  | _, [] => 0
  | [], y :: ys => (y :: ys).length
  | x :: xs, y :: ys => min (min (sl xs (y :: ys) + 1) (sl (x :: xs) ys + 1)) (sl xs ys + s1 y x)
  termination_by xs ys => xs.length + ys.length
theorem sl_nil (xs : List Nat) : sl xs [] = 0 := by unfold sl; rfl
theorem sl_none (ys : List Nat) : sl [] ys = ys.length := by
  cases ys with
  | nil => rw [sl_nil]; rfl
  | cons y ys => unfold sl; rfl
theorem sl_cons (x : Nat) (xs : List Nat) (y : Nat) (ys : List Nat) : sl (x :: xs) (y :: ys) = min (min (sl xs (y :: ys) + 1) (sl (x :: xs) ys + 1)) (sl xs ys + s1 y x) := by rw [sl]
def L (xs ys : List Nat) : Int := lev s1 1 xs ys
theorem L_nil (ys : List Nat) : L [] ys = ys.length := by unfold L; rw [lev_nil]; omega
theorem sl_len : ∀ (xs ys : List Nat), sl xs ys ≤ ys.length
  | xs, [] => by rw [sl_nil]; simp
  | [], ys => by rw [sl_none]; omega
  | x :: xs, y :: ys => by
    have := sl_len (x :: xs) ys
    rw [sl_cons]; simp only [List.length_cons]; omega
theorem sl_le : ∀ (n : Nat) (xs ys : List Nat) (k : Nat), xs.length + ys.length ≤ n → sl xs ys ≤ L (xs.take k) ys
  | _, xs, [], k, _ => by
    rw [sl_nil]
    unfold L
    exact lev_pos s1_pos (by decide) _ _ _ (Nat.le_refl _)
  | _, [], y :: ys, k, _ => by rw [sl_none, List.take_nil, L_nil]; omega
  | _, x :: xs, y :: ys, 0, _ => by rw [List.take_zero, L_nil]; exact sl_len _ _
  | n + 1, x :: xs, y :: ys, k + 1, h => by
    simp only [List.length_cons] at h
    have h1 := sl_le n xs (y :: ys) k (by simp; omega)
    have h2 := sl_le n (x :: xs) ys (k + 1) (by simp; omega)
    have h3 := sl_le n xs ys k (by omega)
    unfold L at *
    rw [List.take_succ_cons] at h2 ⊢
    rw [sl_cons, lev_cons, s1_symm x y]
    omega
  | 0, x :: xs, y :: ys, _, h => by simp only [List.length_cons] at h; omega
theorem sl_some : ∀ (n : Nat) (xs ys : List Nat), xs.length + ys.length ≤ n → ∃ k, k ≤ xs.length ∧ L (xs.take k) ys ≤ sl xs ys
  | _, xs, [], _ => ⟨0, Nat.zero_le _, by rw [List.take_zero, L_nil, sl_nil]; simp⟩
  | _, [], y :: ys, _ => ⟨0, Nat.le_refl _, by rw [List.take_zero, L_nil, sl_none]; omega⟩
  | n + 1, x :: xs, y :: ys, h => by
    simp only [List.length_cons] at h
    obtain ⟨k1, l1, h1⟩ := sl_some n xs (y :: ys) (by simp; omega)
    obtain ⟨k2, l2, h2⟩ := sl_some n (x :: xs) ys (by simp; omega)
    obtain ⟨k3, l3, h3⟩ := sl_some n xs ys (by omega)
    have e := sl_cons x xs y ys
    by_cases c1 : sl (x :: xs) (y :: ys) = sl xs (y :: ys) + 1
    · refine ⟨k1 + 1, by simp; omega, ?_⟩
      have := lev_drop (s := s1) (w := 1) (x := x) (xs := xs.take k1) (ys := y :: ys)
      unfold L at *
      rw [List.take_succ_cons]; omega
    · by_cases c2 : sl (x :: xs) (y :: ys) = sl (x :: xs) ys + 1
      · refine ⟨k2, by simpa using l2, ?_⟩
        have := lev_put (s := s1) (w := 1) (y := y) (xs := (x :: xs).take k2) (ys := ys)
        unfold L at *
        omega
      · refine ⟨k3 + 1, by simp; omega, ?_⟩
        have := lev_chg (s := s1) (w := 1) (x := x) (y := y) (xs := xs.take k3) (ys := ys)
        rw [s1_symm x y] at this
        unfold L at *
        rw [List.take_succ_cons]; omega
  | 0, x :: xs, y :: ys, h => by simp only [List.length_cons] at h; omega
def slF : Nat → List Nat → List Nat → Int
  | _, _, [] => 0
  | _, [], y :: ys => (y :: ys).length
  | 0, _ :: _, _ :: _ => 0
  | n + 1, x :: xs, y :: ys => min (min (slF n xs (y :: ys) + 1) (slF n (x :: xs) ys + 1)) (slF n xs ys + s1 y x)
theorem sl_F : ∀ (n : Nat) (xs ys : List Nat), xs.length + ys.length ≤ n → sl xs ys = slF n xs ys
  | n, xs, [], _ => by rw [sl_nil]; cases n <;> cases xs <;> rfl
  | n, [], y :: ys, _ => by rw [sl_none]; cases n <;> rfl
  | n + 1, x :: xs, y :: ys, h => by
    simp only [List.length_cons] at h
    rw [sl_cons, sl_F n xs (y :: ys) (by simp; omega), sl_F n (x :: xs) ys (by simp; omega), sl_F n xs ys (by omega)]
    rfl
  | 0, x :: xs, y :: ys, h => by simp only [List.length_cons] at h; omega
/-- neighbours -/
theorem sl_up (x : Nat) (xs ys : List Nat) : sl (x :: xs) ys ≤ sl xs ys + 1 := by
  cases ys with
  | nil => rw [sl_nil, sl_nil]; omega
  | cons y ys => rw [sl_cons]; omega
theorem sl_down (x : Nat) (xs ys : List Nat) : sl xs ys ≤ sl (x :: xs) ys + 1 := by
  obtain ⟨k, hk, h⟩ := sl_some _ (x :: xs) ys (Nat.le_refl _)
  cases k with
  | zero =>
    have := sl_len xs ys
    rw [List.take_zero, L_nil] at h
    omega
  | succ k =>
    have h1 := sl_le _ xs ys k (Nat.le_refl _)
    have h2 := lev_step1 x (xs.take k) ys
    rw [List.take_succ_cons] at h
    unfold L at *
    omega
/-! ### the last of the least -/
def bst (f : Nat → Int) : Nat → Nat
  | 0 => 0
  | n + 1 => if f (n + 1) ≤ f (bst f n) then n + 1 else bst f n
theorem bst_le (f : Nat → Int) : ∀ n, bst f n ≤ n
  | 0 => Nat.le_refl _
  | n + 1 => by
    have := bst_le f n
    unfold bst
    split <;> omega
theorem bst_min (f : Nat → Int) : ∀ n i, i ≤ n → f (bst f n) ≤ f i
  | 0, i, h => by
    have : i = 0 := by omega
    subst this
    exact Int.le_refl _
  | n + 1, i, h => by
    unfold bst
    by_cases hi : i = n + 1
    · subst hi
      split <;> omega
    · have := bst_min f n i (by omega)
      split <;> omega
theorem bst_last (f : Nat → Int) : ∀ n i, i ≤ n → f i = f (bst f n) → i ≤ bst f n
  | 0, i, h, _ => by omega
  | n + 1, i, h, e => by
    unfold bst at e ⊢
    by_cases hi : i = n + 1
    · subst hi
      split
      · omega
      · rename_i hc
        rw [if_neg hc] at e
        omega
    · split
      · omega
      · rename_i hc
        rw [if_neg hc] at e
        exact bst_last f n i (by omega) e
/-- one thing of the law's lot -/
def trip (f : Nat → Int) (u : Nat → List Nat) (i : Nat) : Val := .tup [.int (f i), .int (-(i : Int)), .str (u i)]
theorem trip_lt (f : Nat → Int) (u : Nat → List Nat) {i j : Nat} (h : j < i) : vlt (trip f u i) (trip f u j) = decide (f i ≤ f j) := by
  show vlts [.int (f i), .int (-(i : Int)), .str (u i)] [.int (f j), .int (-(j : Int)), .str (u j)] = _
  have v1 : veq (.int (f i)) (.int (f j)) = decide (f i = f j) := int_inj
  have v2 : veq (.int (-(i : Int))) (.int (-(j : Int))) = false := by rw [int_inj]; exact decide_eq_false (by omega)
  have v3 : decide (-(i : Int) < -(j : Int)) = true := decide_eq_true (by omega)
  simp only [vlts, v1, v2, vlt, v3, Bool.false_eq_true, if_false, decide_eq_true_eq]
  by_cases e : f i = f j
  · rw [if_pos e, e]; simp
  · rw [if_neg e]
    by_cases h2 : f i < f j
    · rw [decide_eq_true h2, decide_eq_true (by omega)]
    · rw [decide_eq_false h2, decide_eq_false (by omega)]
theorem best_trip (f : Nat → Int) (u : Nat → List Nat) : ∀ n, best vlt ((List.range (n + 1)).map (trip f u)) = some (trip f u (bst f n))
  | 0 => rfl
  | n + 1 => by
    have ih := best_trip f u n
    have e : (List.range (n + 2)).map (trip f u) = (List.range (n + 1)).map (trip f u) ++ [trip f u (n + 1)] := by rw [List.range_succ (n := n + 1), List.map_append]; rfl
    rw [e]
    generalize hz : (List.range (n + 1)).map (trip f u) = l at ih ⊢
    cases l with
    | nil => cases ih
    | cons a l =>
      have ih : some (l.foldl (fun b x => if vlt x b = true then x else b) a) = _ := ih
      show some ((l ++ [trip f u (n + 1)]).foldl (fun b x => if vlt x b = true then x else b) a) = _
      rw [List.foldl_append, Option.some.inj ih]
      show some (if vlt (trip f u (n + 1)) (trip f u (bst f n)) = true then trip f u (n + 1) else trip f u (bst f n)) = _
      rw [trip_lt f u (Nat.lt_succ_of_le (bst_le f n))]
      show _ = some (trip f u (if f (n + 1) ≤ f (bst f n) then n + 1 else bst f n))
      by_cases h : f (n + 1) ≤ f (bst f n)
      · rw [decide_eq_true h, if_pos rfl, if_pos h]
      · rw [decide_eq_false h, if_neg Bool.false_ne_true, if_neg h]
theorem minD_trip (f : Nat → Int) (u : Nat → List Nat) (n : Nat) : blt .minD [.lst ((List.range (n + 1)).map (trip f u))] = .ok (trip f u (bst f n)) := by
  have a1 : allAlike ((List.range (n + 1)).map (trip f u)) = true := List.all_eq_true.mpr fun a ha => List.all_eq_true.mpr fun b hb => by
    obtain ⟨x, _, rfl⟩ := List.mem_map.mp ha
    obtain ⟨y, _, rfl⟩ := List.mem_map.mp hb
    rfl
  have a2 : shps 60 ((List.range (n + 1)).map (trip f u)) = true := shps_map fun x _ => rfl
  have a3 : sortable ((List.range (n + 1)).map (trip f u)) = true := by
    unfold sortable
    rw [Bool.or_eq_true]
    refine .inl (List.all_eq_true.mpr fun a ha => ?_)
    obtain ⟨x, _, rfl⟩ := List.mem_map.mp ha
    rfl
  show (if (allAlike _ && shps 60 _ && sortable _) = true then orStuck (best vlt _) else Res.stuck) = _
  rw [a1, a2, a3, best_trip]
  rfl
/-! ### a page -/
/-- how far the stretch of so many letters that ends here is -/
def far (page word : List Nat) (e k : Nat) : Int := L ((page.take e).reverse.take k) word.reverse
def K (page word : List Nat) (e : Nat) : Nat := bst (far page word e) e
def rowV (page word : List Nat) (e : Nat) : Int := sl (page.take e).reverse word.reverse
theorem K_le (page word : List Nat) (e : Nat) : K page word e ≤ e := bst_le _ _
theorem far_K {page word : List Nat} {e : Nat} (h : e ≤ page.length) : far page word e (K page word e) = rowV page word e := by
  have h1 := sl_le _ (page.take e).reverse word.reverse (K page word e) (Nat.le_refl _)
  obtain ⟨k, hk, h2⟩ := sl_some _ (page.take e).reverse word.reverse (Nat.le_refl _)
  rw [List.length_reverse, List.length_take, Nat.min_eq_left h] at hk
  have h3 := bst_min (far page word e) e k hk
  unfold rowV K
  unfold far at *
  unfold K far at h1
  omega
def str (page : List Nat) (e k : Nat) : List Nat := (page.drop (e - k)).take k
theorem str_rev {page : List Nat} {e k : Nat} (h : e ≤ page.length) (hk : k ≤ e) : (page.take e).reverse.take k = (str page e k).reverse := by
  unfold str
  rw [List.take_reverse, List.length_take, Nat.min_eq_left h, List.drop_take, show e - (e - k) = k by omega]
theorem far_eq {page word : List Nat} {e k : Nat} (h : e ≤ page.length) (hk : k ≤ e) : far page word e k = L (str page e k).reverse word.reverse := by
  unfold far
  rw [str_rev h hk]
theorem str_len {page : List Nat} {e k : Nat} (h : e ≤ page.length) (hk : k ≤ e) : (str page e k).length = k := by
  unfold str
  rw [List.length_take, List.length_drop]; omega
theorem rowV_step {page word : List Nat} {e : Nat} (h : e < page.length) : rowV page word e ≤ rowV page word (e + 1) + 1 ∧ rowV page word (e + 1) ≤ rowV page word e + 1 := by
  have e1 : (page.take (e + 1)).reverse = page[e] :: (page.take e).reverse := by
    rw [List.take_add_one, List.getElem?_eq_getElem h]
    simp
  unfold rowV
  rw [e1]
  exact ⟨sl_down _ _ _, sl_up _ _ _⟩
end K18
namespace K18
open MP ME
theorem con0 : P.con 0 = .str abc := rfl
theorem con1 : P.con 1 = .int 12 := rfl
theorem con2 : P.con 2 = .int 60 := rfl
theorem con3 : P.con 3 = .int 12 := rfl
section
variable {n : Nat} {s t page word : List Nat}
theorem c3 (hs : Lets s) (h0 : 1 ≤ s.length) (hl : s.length ≤ 12) : callN P (n + 2) 3 [.str s] = .ok (.bool true, []) := by
  rw [callN_eq (ρ := [some (.str s)]) (d := d3) rfl rfl rfl]
  simp only [d3, ok_bind, get_z, get_s, put_z, put_s, List.set_cons_zero, List.set_cons_succ, List.length_cons, List.length_nil, if_true, ev_var, ev_k, ev_g, ev_bin, ev_cmp, ev_cmp2, ev_neg, ev_not, ev_and, ev_or, ev_ite, ev_tup, ev_lst, ev_idx, ev_slc, ev_rev, ev_call, ev_repr, ev_mth, ev_mtc, evs_nil, evs_cons, evi_e, evi_rng, evi_enum, evi_zip, es_set, es_unp, es_par, es_sti, es_ex, es_ret, es_ret0, es_pass, es_brk, es_ifs, es_loop, ess_nil, ess_cons, orS_some, fill_nil, fill_cons, spill_nil, spill_cons, puts_nil, puts_cons, bT_var, done_next, done_ret, done_next1, done_ret1, eb_len, eb_abs, eb_int, eb_str, eb_list, eb_tuple, eb_dict, eb_sum, eb_min, eb_max, eb_any, eb_all, eb_sorted, eb_sortedSet, eb_lenSet, eb_listRange, eb_tupRange, eb_tupEnum, eb_tupZip, eb_listZip, eb_newDict, eb_newDicT, eb_isinst, es_aug, ev_mtl, ev_mtt, ev_mtq, ev_mtd, ev_alt, alt_ok, alt_stuck, eb_minD, eb_maxD, eb_sortedTxt, eb_sortedSetS, eb_sumL, eb_listTxt, con1, isLetters_ok (P := P) (g := 2) (gi := 0) (n := n) rfl con0 hs (bigOf (by omega))]
  rw [decide_eq_true ⟨by omega, by omega⟩]
theorem c4 (hs : Lets s) (h0 : 1 ≤ s.length) (hl : s.length ≤ 12) : callN P (n + 3) 4 [.str s] = .ok (.none, []) := by
  rw [callN_eq (ρ := [some (.str s)]) (d := d4) rfl rfl rfl]
  simp only [d4, ok_bind, get_z, get_s, put_z, put_s, List.set_cons_zero, List.set_cons_succ, List.length_cons, List.length_nil, if_true, ev_var, ev_k, ev_g, ev_bin, ev_cmp, ev_cmp2, ev_neg, ev_not, ev_and, ev_or, ev_ite, ev_tup, ev_lst, ev_idx, ev_slc, ev_rev, ev_call, ev_repr, ev_mth, ev_mtc, evs_nil, evs_cons, evi_e, evi_rng, evi_enum, evi_zip, es_set, es_unp, es_par, es_sti, es_ex, es_ret, es_ret0, es_pass, es_brk, es_ifs, es_loop, ess_nil, ess_cons, orS_some, fill_nil, fill_cons, spill_nil, spill_cons, puts_nil, puts_cons, bT_var, done_next, done_ret, done_next1, done_ret1, eb_len, eb_abs, eb_int, eb_str, eb_list, eb_tuple, eb_dict, eb_sum, eb_min, eb_max, eb_any, eb_all, eb_sorted, eb_sortedSet, eb_lenSet, eb_listRange, eb_tupRange, eb_tupEnum, eb_tupZip, eb_listZip, eb_newDict, eb_newDicT, eb_isinst, es_aug, ev_mtl, ev_mtt, ev_mtq, ev_mtd, ev_alt, alt_ok, alt_stuck, eb_minD, eb_maxD, eb_sortedTxt, eb_sortedSetS, eb_sumL, eb_listTxt, c3 hs h0 hl, tru_b, Bool.not_true, Bool.false_eq_true, if_false]
theorem c6 (hs : Lets s) (hl : s.length ≤ 60) : callN P (n + 2) 6 [.str s] = .ok (.none, []) := by
  rw [callN_eq (ρ := [some (.str s)]) (d := d6) rfl rfl rfl]
  simp only [d6, ok_bind, get_z, get_s, put_z, put_s, List.set_cons_zero, List.set_cons_succ, List.length_cons, List.length_nil, if_true, ev_var, ev_k, ev_g, ev_bin, ev_cmp, ev_cmp2, ev_neg, ev_not, ev_and, ev_or, ev_ite, ev_tup, ev_lst, ev_idx, ev_slc, ev_rev, ev_call, ev_repr, ev_mth, ev_mtc, evs_nil, evs_cons, evi_e, evi_rng, evi_enum, evi_zip, es_set, es_unp, es_par, es_sti, es_ex, es_ret, es_ret0, es_pass, es_brk, es_ifs, es_loop, ess_nil, ess_cons, orS_some, fill_nil, fill_cons, spill_nil, spill_cons, puts_nil, puts_cons, bT_var, done_next, done_ret, done_next1, done_ret1, eb_len, eb_abs, eb_int, eb_str, eb_list, eb_tuple, eb_dict, eb_sum, eb_min, eb_max, eb_any, eb_all, eb_sorted, eb_sortedSet, eb_lenSet, eb_listRange, eb_tupRange, eb_tupEnum, eb_tupZip, eb_listZip, eb_newDict, eb_newDicT, eb_isinst, es_aug, ev_mtl, ev_mtt, ev_mtq, ev_mtd, ev_alt, alt_ok, alt_stuck, eb_minD, eb_maxD, eb_sortedTxt, eb_sortedSetS, eb_sumL, eb_listTxt, con2, isLetters_ok (P := P) (g := 2) (gi := 0) (n := n) rfl con0 hs (bigOf (by omega))]
  rw [decide_eq_true ⟨by omega, by omega⟩]
  simp only [ok_bind, get_z, get_s, put_z, put_s, List.set_cons_zero, List.set_cons_succ, List.length_cons, List.length_nil, if_true, ev_var, ev_k, ev_g, ev_bin, ev_cmp, ev_cmp2, ev_neg, ev_not, ev_and, ev_or, ev_ite, ev_tup, ev_lst, ev_idx, ev_slc, ev_rev, ev_call, ev_repr, ev_mth, ev_mtc, evs_nil, evs_cons, evi_e, evi_rng, evi_enum, evi_zip, es_set, es_unp, es_par, es_sti, es_ex, es_ret, es_ret0, es_pass, es_brk, es_ifs, es_loop, ess_nil, ess_cons, orS_some, fill_nil, fill_cons, spill_nil, spill_cons, puts_nil, puts_cons, bT_var, done_next, done_ret, done_next1, done_ret1, eb_len, eb_abs, eb_int, eb_str, eb_list, eb_tuple, eb_dict, eb_sum, eb_min, eb_max, eb_any, eb_all, eb_sorted, eb_sortedSet, eb_lenSet, eb_listRange, eb_tupRange, eb_tupEnum, eb_tupZip, eb_listZip, eb_newDict, eb_newDicT, eb_isinst, es_aug, ev_mtl, ev_mtt, ev_mtq, ev_mtd, ev_alt, alt_ok, alt_stuck, eb_minD, eb_maxD, eb_sortedTxt, eb_sortedSetS, eb_sumL, eb_listTxt, tru_b, Bool.not_true, Bool.false_eq_true, if_false]
/-- a page and a word -/
structure PW (page word : List Nat) : Prop where
  lp : Lets page
  hp : page.length ≤ 60
  lw : Lets word
  w1 : 1 ≤ word.length
  w2 : word.length ≤ 12
theorem c7 (h : PW page word) : callN P (n + 4) 7 [.str page, .str word] = .ok (.none, []) := by
  rw [callN_eq (ρ := [some (.str page), some (.str word)]) (d := d7) rfl rfl rfl]
  simp only [d7, ok_bind, get_z, get_s, put_z, put_s, List.set_cons_zero, List.set_cons_succ, List.length_cons, List.length_nil, if_true, ev_var, ev_k, ev_g, ev_bin, ev_cmp, ev_cmp2, ev_neg, ev_not, ev_and, ev_or, ev_ite, ev_tup, ev_lst, ev_idx, ev_slc, ev_rev, ev_call, ev_repr, ev_mth, ev_mtc, evs_nil, evs_cons, evi_e, evi_rng, evi_enum, evi_zip, es_set, es_unp, es_par, es_sti, es_ex, es_ret, es_ret0, es_pass, es_brk, es_ifs, es_loop, ess_nil, ess_cons, orS_some, fill_nil, fill_cons, spill_nil, spill_cons, puts_nil, puts_cons, bT_var, done_next, done_ret, done_next1, done_ret1, eb_len, eb_abs, eb_int, eb_str, eb_list, eb_tuple, eb_dict, eb_sum, eb_min, eb_max, eb_any, eb_all, eb_sorted, eb_sortedSet, eb_lenSet, eb_listRange, eb_tupRange, eb_tupEnum, eb_tupZip, eb_listZip, eb_newDict, eb_newDicT, eb_isinst, es_aug, ev_mtl, ev_mtt, ev_mtq, ev_mtd, ev_alt, alt_ok, alt_stuck, eb_minD, eb_maxD, eb_sortedTxt, eb_sortedSetS, eb_sumL, eb_listTxt, c6 (n := n + 1) h.lp h.hp, c4 h.lw h.w1 h.w2]
theorem c8 (h : PW page word) {m : Int} (h0 : 0 ≤ m) (h1 : m ≤ 12) : callN P (n + 5) 8 [.str page, .str word, .int m] = .ok (.none, []) := by
  rw [callN_eq (ρ := [some (.str page), some (.str word), some (.int m)]) (d := d8) rfl rfl rfl]
  have w := isWithin_ok (P := P) (n := n + 2) (g := 1) (f := 0) rfl rfl m 0 12
  rw [decide_eq_true ⟨h0, h1⟩] at w
  simp only [d8, ok_bind, get_z, get_s, put_z, put_s, List.set_cons_zero, List.set_cons_succ, List.length_cons, List.length_nil, if_true, ev_var, ev_k, ev_g, ev_bin, ev_cmp, ev_cmp2, ev_neg, ev_not, ev_and, ev_or, ev_ite, ev_tup, ev_lst, ev_idx, ev_slc, ev_rev, ev_call, ev_repr, ev_mth, ev_mtc, evs_nil, evs_cons, evi_e, evi_rng, evi_enum, evi_zip, es_set, es_unp, es_par, es_sti, es_ex, es_ret, es_ret0, es_pass, es_brk, es_ifs, es_loop, ess_nil, ess_cons, orS_some, fill_nil, fill_cons, spill_nil, spill_cons, puts_nil, puts_cons, bT_var, done_next, done_ret, done_next1, done_ret1, eb_len, eb_abs, eb_int, eb_str, eb_list, eb_tuple, eb_dict, eb_sum, eb_min, eb_max, eb_any, eb_all, eb_sorted, eb_sortedSet, eb_lenSet, eb_listRange, eb_tupRange, eb_tupEnum, eb_tupZip, eb_listZip, eb_newDict, eb_newDicT, eb_isinst, es_aug, ev_mtl, ev_mtt, ev_mtq, ev_mtd, ev_alt, alt_ok, alt_stuck, eb_minD, eb_maxD, eb_sortedTxt, eb_sortedSetS, eb_sumL, eb_listTxt, con3, c7 h, w, tru_b, Bool.not_true, Bool.false_eq_true, if_false]
/-! ### the table -/
theorem row0 : (List.range (t.length + 1)).map (fun (j : Nat) => Val.int (j : Int)) = (levRow s1 1 [] t (t.length + 1)).map Val.int := by
  rw [levRow_nil (Nat.le_refl _), List.map_map]
  refine List.map_congr_left fun j _ => ?_
  show Val.int j = Val.int (1 * j)
  rw [Int.one_mul]
def tabV (one other : List Nat) (k : Nat) : List Val := (List.range k).map fun i => .lst ((levRow s1 1 (one.take i) other (other.length + 1)).map .int)
theorem tabV_snoc (one other : List Nat) (k : Nat) : tabV one other (k + 1) = tabV one other k ++ [.lst ((levRow s1 1 (one.take k) other (other.length + 1)).map .int)] := by
  unfold tabV
  rw [List.range_succ, List.map_append]; rfl
theorem tabV_len (one other : List Nat) (k : Nat) : (tabV one other k).length = k := by simp [tabV]
theorem tabV_get (one other : List Nat) {k i : Nat} (h : i < k) : idx (.lst (tabV one other k)) (.int (i : Int)) = .ok (.lst ((levRow s1 1 (one.take i) other (other.length + 1)).map .int)) :=
  idx_lst (by unfold tabV; rw [List.getElem?_map, List.getElem?_range h]; rfl)
theorem c5 (hl : s.length ≤ 100) (hl2 : t.length ≤ 100) : callN P (n + 1) 5 [.str s, .str t] = .ok (.lst (tabV s t (s.length + 1)), []) := by
  rw [callN_eq (ρ := [some (.str s), some (.str t), Option.none, Option.none, Option.none, Option.none, Option.none, Option.none]) (d := d5) rfl rfl rfl]
  generalize hG : (⟨callN P n, P.con, P.rp, P.wh⟩ : Gl) = G
  have r0 := listRange_ok (n := (t.length : Int) + 1) (k := t.length + 1) (by omega) (by omega)
  rw [row0] at r0
  have t0 : Val.lst [.lst ((levRow s1 1 [] t (t.length + 1)).map Val.int)] = .lst (tabV s t 1) := rfl
  obtain ⟨ρ', e, a3, a4, a5, a6, a7, rfl⟩ := loop_list (G := G) (t := lpT (sat d5.body 1)) (b := lpB (sat d5.body 1))
    (fun u : Nat × Nat => Val.tup [.int u.2, .str [u.1]]) (fun pre ρ => ∃ a3 a4 a5 a6 a7, ρ = [some (.str s), some (.str t), some (.lst (tabV s t (pre.length + 1))), a3, a4, a5, a6, a7]) (l := s.zipIdx)
    (ρ := [some (.str s), some (.str t), some (.lst (tabV s t 1)), Option.none, Option.none, Option.none, Option.none, Option.none]) ⟨_, _, _, _, _, rfl⟩ fun pre v post ρ hq h => by
      obtain ⟨a3, a4, a5, a6, a7, rfl⟩ := h
      obtain ⟨v1, v2⟩ := zipIdx_split hq
      have hpl : pre.length < s.length := (List.getElem?_eq_some_iff.mp v2).1
      have e1 : s.take (pre.length + 1) = s.take pre.length ++ [v.1] := by rw [List.take_add_one, v2]; rfl
      have r1 : [Val.int ((pre.length : Int) + 1)] = (levRow s1 1 (s.take pre.length ++ [v.1]) t 1).map Val.int := by
        rw [levRow_one, ← e1, List.length_take, Nat.min_eq_left (by omega), Int.one_mul]; rfl
      obtain ⟨ρ', e, b6, b7, rfl⟩ := loop_list (G := G) (t := lpT (sat (lpB (sat d5.body 1)) 1)) (b := lpB (sat (lpB (sat d5.body 1)) 1))
        (fun u : Nat × Nat => Val.tup [.int u.2, .str [u.1]]) (fun p ρ => ∃ b6 b7, ρ = [some (.str s), some (.str t), some (.lst (tabV s t (pre.length + 1))), some (.int v.2), some (.str [v.1]), some (.lst ((levRow s1 1 (s.take pre.length ++ [v.1]) t (p.length + 1)).map .int)), b6, b7]) (l := t.zipIdx)
        (ρ := [some (.str s), some (.str t), some (.lst (tabV s t (pre.length + 1))), some (.int v.2), some (.str [v.1]), some (.lst ((levRow s1 1 (s.take pre.length ++ [v.1]) t 1).map .int)), a6, a7]) ⟨_, _, rfl⟩ fun p u post2 ρ hq2 h2 => by
          obtain ⟨b6, b7, rfl⟩ := h2
          obtain ⟨u1, u2⟩ := zipIdx_split hq2
          have hjl : p.length < t.length := (List.getElem?_eq_some_iff.mp u2).1
          have g0 := tabV_get s t (k := pre.length + 1) (i := pre.length) (by omega)
          have g1 := getI (xs := levRow s1 1 (s.take pre.length) t (t.length + 1)) (i := p.length) (by rw [levRow_len]; omega)
          have g2 := getI (xs := levRow s1 1 (s.take pre.length) t (t.length + 1)) (i := p.length + 1) (by rw [levRow_len]; omega)
          have g3 := getI (xs := levRow s1 1 (s.take pre.length ++ [v.1]) t (p.length + 1)) (i := p.length) (by rw [levRow_len]; omega)
          rw [levRow_get (by omega)] at g1 g2 g3
          rw [show ((p.length + 1 : Nat) : Int) = (p.length : Int) + 1 by omega] at g2
          have st := lev_step (s := s1) (w := 1) (pre := s.take pre.length) (c := v.1) u2
          have sn := levRow_snoc (s := s1) (w := 1) (pre := s.take pre.length ++ [v.1]) (other := t) (n := p.length + 1)
          have su : (if (!(v.1 == u.1)) = true then (1 : Int) else 0) = s1 v.1 u.1 := rfl
          simp only [d5, sat, lpT, lpB, bindT, bindTs, ok_bind, get_z, get_s, put_z, put_s, List.set_cons_zero, List.set_cons_succ, List.length_cons, List.length_nil, if_true, ev_var, ev_k, ev_g, ev_bin, ev_cmp, ev_cmp2, ev_neg, ev_not, ev_and, ev_or, ev_ite, ev_tup, ev_lst, ev_idx, ev_slc, ev_rev, ev_call, ev_repr, ev_mth, ev_mtc, evs_nil, evs_cons, evi_e, evi_rng, evi_enum, evi_zip, es_set, es_unp, es_par, es_sti, es_ex, es_ret, es_ret0, es_pass, es_brk, es_ifs, es_loop, ess_nil, ess_cons, orS_some, fill_nil, fill_cons, spill_nil, spill_cons, puts_nil, puts_cons, bT_var, done_next, done_ret, done_next1, done_ret1, eb_len, eb_abs, eb_int, eb_str, eb_list, eb_tuple, eb_dict, eb_sum, eb_min, eb_max, eb_any, eb_all, eb_sorted, eb_sortedSet, eb_lenSet, eb_listRange, eb_tupRange, eb_tupEnum, eb_tupZip, eb_listZip, eb_newDict, eb_newDicT, eb_isinst, es_aug, ev_mtl, ev_mtt, ev_mtq, ev_mtd, ev_alt, alt_ok, alt_stuck, eb_minD, eb_maxD, eb_sortedTxt, eb_sortedSetS, eb_sumL, eb_listTxt, v1, u1, g0, g1, g2, g3, ne_c, toint_b, su, add_i, min3_i, isLst, app_i (xs := levRow s1 1 (s.take pre.length ++ [v.1]) t (p.length + 1)) (by rw [levRow_len]; omega)]
          rw [← st, ← sn]
          exact ⟨_, rfl, _, _, by rw [List.length_append]; rfl⟩
      rw [List.length_zipIdx] at e
      have ap := app_v (vs := tabV s t (pre.length + 1)) (v := .lst ((levRow s1 1 (s.take pre.length ++ [v.1]) t (t.length + 1)).map .int)) (by rw [tabV_len]; omega)
      rw [← e1, ← tabV_snoc] at ap
      rw [v1] at e
      simp only [d5, sat, lpT, lpB] at e
      simp only [d5, sat, lpT, lpB, bindT, bindTs, ok_bind, get_z, get_s, put_z, put_s, List.set_cons_zero, List.set_cons_succ, List.length_cons, List.length_nil, if_true, ev_var, ev_k, ev_g, ev_bin, ev_cmp, ev_cmp2, ev_neg, ev_not, ev_and, ev_or, ev_ite, ev_tup, ev_lst, ev_idx, ev_slc, ev_rev, ev_call, ev_repr, ev_mth, ev_mtc, evs_nil, evs_cons, evi_e, evi_rng, evi_enum, evi_zip, es_set, es_unp, es_par, es_sti, es_ex, es_ret, es_ret0, es_pass, es_brk, es_ifs, es_loop, ess_nil, ess_cons, orS_some, fill_nil, fill_cons, spill_nil, spill_cons, puts_nil, puts_cons, bT_var, done_next, done_ret, done_next1, done_ret1, eb_len, eb_abs, eb_int, eb_str, eb_list, eb_tuple, eb_dict, eb_sum, eb_min, eb_max, eb_any, eb_all, eb_sorted, eb_sortedSet, eb_lenSet, eb_listRange, eb_tupRange, eb_tupEnum, eb_tupZip, eb_listZip, eb_newDict, eb_newDicT, eb_isinst, es_aug, ev_mtl, ev_mtt, ev_mtq, ev_mtd, ev_alt, alt_ok, alt_stuck, eb_minD, eb_maxD, eb_sortedTxt, eb_sortedSetS, eb_sumL, eb_listTxt, v1, add_i, r1, enumd, walked, numb_str, e]
      rw [← e1]
      simp only [isLst, ok_bind, get_z, get_s, put_z, put_s, List.set_cons_zero, List.set_cons_succ, List.length_cons, List.length_nil, if_true, ev_var, ev_k, ev_g, ev_bin, ev_cmp, ev_cmp2, ev_neg, ev_not, ev_and, ev_or, ev_ite, ev_tup, ev_lst, ev_idx, ev_slc, ev_rev, ev_call, ev_repr, ev_mth, ev_mtc, evs_nil, evs_cons, evi_e, evi_rng, evi_enum, evi_zip, es_set, es_unp, es_par, es_sti, es_ex, es_ret, es_ret0, es_pass, es_brk, es_ifs, es_loop, ess_nil, ess_cons, orS_some, fill_nil, fill_cons, spill_nil, spill_cons, puts_nil, puts_cons, bT_var, done_next, done_ret, done_next1, done_ret1, eb_len, eb_abs, eb_int, eb_str, eb_list, eb_tuple, eb_dict, eb_sum, eb_min, eb_max, eb_any, eb_all, eb_sorted, eb_sortedSet, eb_lenSet, eb_listRange, eb_tupRange, eb_tupEnum, eb_tupZip, eb_listZip, eb_newDict, eb_newDicT, eb_isinst, es_aug, ev_mtl, ev_mtt, ev_mtq, ev_mtd, ev_alt, alt_ok, alt_stuck, eb_minD, eb_maxD, eb_sortedTxt, eb_sortedSetS, eb_sumL, eb_listTxt, ap]
      exact ⟨_, rfl, _, _, _, _, _, by rw [List.length_append]; rfl⟩
  rw [List.length_zipIdx] at e
  simp only [d5, sat, lpT, lpB] at e
  simp only [d5, ok_bind, get_z, get_s, put_z, put_s, List.set_cons_zero, List.set_cons_succ, List.length_cons, List.length_nil, if_true, ev_var, ev_k, ev_g, ev_bin, ev_cmp, ev_cmp2, ev_neg, ev_not, ev_and, ev_or, ev_ite, ev_tup, ev_lst, ev_idx, ev_slc, ev_rev, ev_call, ev_repr, ev_mth, ev_mtc, evs_nil, evs_cons, evi_e, evi_rng, evi_enum, evi_zip, es_set, es_unp, es_par, es_sti, es_ex, es_ret, es_ret0, es_pass, es_brk, es_ifs, es_loop, ess_nil, ess_cons, orS_some, fill_nil, fill_cons, spill_nil, spill_cons, puts_nil, puts_cons, bT_var, done_next, done_ret, done_next1, done_ret1, eb_len, eb_abs, eb_int, eb_str, eb_list, eb_tuple, eb_dict, eb_sum, eb_min, eb_max, eb_any, eb_all, eb_sorted, eb_sortedSet, eb_lenSet, eb_listRange, eb_tupRange, eb_tupEnum, eb_tupZip, eb_listZip, eb_newDict, eb_newDicT, eb_isinst, es_aug, ev_mtl, ev_mtt, ev_mtq, ev_mtd, ev_alt, alt_ok, alt_stuck, eb_minD, eb_maxD, eb_sortedTxt, eb_sortedSetS, eb_sumL, eb_listTxt, len_s, add_i, r0, t0, enumd, walked, numb_str, e]
/-! ### the slips, end by end -/
def slRow (p w : List Nat) (n : Nat) : List Int := (List.range n).map fun j => sl p.reverse (w.take j).reverse
theorem slRow_get {p w : List Nat} {n j : Nat} (h : j < n) : (slRow p w n).getD j 0 = sl p.reverse (w.take j).reverse := by
  unfold slRow
  rw [List.getD_eq_getElem?_getD, List.getElem?_map, List.getElem?_range h]; rfl
theorem slRow_len {p w : List Nat} {n : Nat} : (slRow p w n).length = n := by simp [slRow]
theorem slRow_snoc {p w : List Nat} {n : Nat} : slRow p w (n + 1) = slRow p w n ++ [sl p.reverse (w.take n).reverse] := by
  unfold slRow
  rw [List.range_succ, List.map_append]; rfl
theorem slRow_one {p w : List Nat} : slRow p w 1 = [0] := by
  show [sl p.reverse (w.take 0).reverse] = _
  rw [List.take_zero, List.reverse_nil, sl_nil]
theorem slRow_nil {w : List Nat} : (List.range (w.length + 1)).map (fun (j : Nat) => Val.int (j : Int)) = (slRow [] w (w.length + 1)).map Val.int := by
  unfold slRow
  rw [List.map_map]
  refine List.map_congr_left fun j hj => ?_
  have := List.mem_range.mp hj
  show Val.int j = Val.int (sl [] _)
  rw [sl_none, List.length_reverse, List.length_take, Nat.min_eq_left (by omega)]
theorem sl_step {p w : List Nat} {c d : Nat} {j : Nat} (hd : w[j]? = some d) : sl (p ++ [c]).reverse (w.take (j + 1)).reverse =
    min (min (sl p.reverse (w.take (j + 1)).reverse + 1) (sl (p ++ [c]).reverse (w.take j).reverse + 1)) (sl p.reverse (w.take j).reverse + s1 d c) := by
  have e : w.take (j + 1) = w.take j ++ [d] := by rw [List.take_add_one, hd]; rfl
  rw [e, List.reverse_append, List.reverse_append]
  exact sl_cons c p.reverse d (w.take j).reverse
theorem c9 {p : List Nat} {c : Nat} (hl : word.length ≤ 100) : callN P (n + 1) 9 [.lst ((slRow p word (word.length + 1)).map .int), .str word, .str [c]] = .ok (.lst ((slRow (p ++ [c]) word (word.length + 1)).map .int), []) := by
  rw [callN_eq (ρ := [some (.lst ((slRow p word (word.length + 1)).map .int)), some (.str word), some (.str [c]), Option.none, Option.none, Option.none]) (d := d9) rfl rfl rfl]
  generalize hG : (⟨callN P n, P.con, P.rp, P.wh⟩ : Gl) = G
  have r1 : [Val.int 0] = (slRow (p ++ [c]) word 1).map Val.int := by rw [slRow_one]; rfl
  obtain ⟨ρ', e, b4, b5, rfl⟩ := loop_list (G := G) (t := lpT (sat d9.body 1)) (b := lpB (sat d9.body 1))
    (fun u : Nat × Nat => Val.tup [.int u.2, .str [u.1]]) (fun q ρ => ∃ b4 b5, ρ = [some (.lst ((slRow p word (word.length + 1)).map .int)), some (.str word), some (.str [c]), some (.lst ((slRow (p ++ [c]) word (q.length + 1)).map .int)), b4, b5]) (l := word.zipIdx)
    (ρ := [some (.lst ((slRow p word (word.length + 1)).map .int)), some (.str word), some (.str [c]), some (.lst ((slRow (p ++ [c]) word 1).map .int)), Option.none, Option.none]) ⟨_, _, rfl⟩ fun q u post2 ρ hq2 h2 => by
      obtain ⟨b4, b5, rfl⟩ := h2
      obtain ⟨u1, u2⟩ := zipIdx_split hq2
      have hjl : q.length < word.length := (List.getElem?_eq_some_iff.mp u2).1
      have g1 := getI (xs := slRow p word (word.length + 1)) (i := q.length) (by rw [slRow_len]; omega)
      have g2 := getI (xs := slRow p word (word.length + 1)) (i := q.length + 1) (by rw [slRow_len]; omega)
      have g3 := getI (xs := slRow (p ++ [c]) word (q.length + 1)) (i := q.length) (by rw [slRow_len]; omega)
      rw [slRow_get (by omega)] at g1 g2 g3
      rw [show ((q.length + 1 : Nat) : Int) = (q.length : Int) + 1 by omega] at g2
      have st := sl_step (p := p) (c := c) u2
      have sn := slRow_snoc (p := p ++ [c]) (w := word) (n := q.length + 1)
      have su : (if (!(u.1 == c)) = true then (1 : Int) else 0) = s1 u.1 c := rfl
      simp only [d9, sat, lpT, lpB, bindT, bindTs, ok_bind, get_z, get_s, put_z, put_s, List.set_cons_zero, List.set_cons_succ, List.length_cons, List.length_nil, if_true, ev_var, ev_k, ev_g, ev_bin, ev_cmp, ev_cmp2, ev_neg, ev_not, ev_and, ev_or, ev_ite, ev_tup, ev_lst, ev_idx, ev_slc, ev_rev, ev_call, ev_repr, ev_mth, ev_mtc, evs_nil, evs_cons, evi_e, evi_rng, evi_enum, evi_zip, es_set, es_unp, es_par, es_sti, es_ex, es_ret, es_ret0, es_pass, es_brk, es_ifs, es_loop, ess_nil, ess_cons, orS_some, fill_nil, fill_cons, spill_nil, spill_cons, puts_nil, puts_cons, bT_var, done_next, done_ret, done_next1, done_ret1, eb_len, eb_abs, eb_int, eb_str, eb_list, eb_tuple, eb_dict, eb_sum, eb_min, eb_max, eb_any, eb_all, eb_sorted, eb_sortedSet, eb_lenSet, eb_listRange, eb_tupRange, eb_tupEnum, eb_tupZip, eb_listZip, eb_newDict, eb_newDicT, eb_isinst, es_aug, ev_mtl, ev_mtt, ev_mtq, ev_mtd, ev_alt, alt_ok, alt_stuck, eb_minD, eb_maxD, eb_sortedTxt, eb_sortedSetS, eb_sumL, eb_listTxt, u1, g1, g2, g3, ne_c, toint_b, su, add_i, min3_i, isLst, app_i (xs := slRow (p ++ [c]) word (q.length + 1)) (by rw [slRow_len]; omega)]
      rw [← st, ← sn]
      exact ⟨_, rfl, _, _, by rw [List.length_append]; rfl⟩
  rw [List.length_zipIdx] at e
  simp only [d9, sat, lpT, lpB] at e
  simp only [d9, ok_bind, get_z, get_s, put_z, put_s, List.set_cons_zero, List.set_cons_succ, List.length_cons, List.length_nil, if_true, ev_var, ev_k, ev_g, ev_bin, ev_cmp, ev_cmp2, ev_neg, ev_not, ev_and, ev_or, ev_ite, ev_tup, ev_lst, ev_idx, ev_slc, ev_rev, ev_call, ev_repr, ev_mth, ev_mtc, evs_nil, evs_cons, evi_e, evi_rng, evi_enum, evi_zip, es_set, es_unp, es_par, es_sti, es_ex, es_ret, es_ret0, es_pass, es_brk, es_ifs, es_loop, ess_nil, ess_cons, orS_some, fill_nil, fill_cons, spill_nil, spill_cons, puts_nil, puts_cons, bT_var, done_next, done_ret, done_next1, done_ret1, eb_len, eb_abs, eb_int, eb_str, eb_list, eb_tuple, eb_dict, eb_sum, eb_min, eb_max, eb_any, eb_all, eb_sorted, eb_sortedSet, eb_lenSet, eb_listRange, eb_tupRange, eb_tupEnum, eb_tupZip, eb_listZip, eb_newDict, eb_newDicT, eb_isinst, es_aug, ev_mtl, ev_mtt, ev_mtq, ev_mtd, ev_alt, alt_ok, alt_stuck, eb_minD, eb_maxD, eb_sortedTxt, eb_sortedSetS, eb_sumL, eb_listTxt, r1, enumd, walked, numb_str, e]
/-- the row of the fewest -/
def rowL (page word : List Nat) (k : Nat) : List Int := (List.range k).map (rowV page word)
theorem rowL_len : (rowL page word n).length = n := by simp [rowL]
theorem rowL_snoc : rowL page word (n + 1) = rowL page word n ++ [rowV page word n] := by
  unfold rowL
  rw [List.range_succ, List.map_append]; rfl
theorem lastSl {p : List Nat} : idx (.lst ((slRow p word (word.length + 1)).map .int)) (.int (-1)) = .ok (.int (sl p.reverse word.reverse)) := by
  have := last_row (xs := slRow p word (word.length + 1)) (k := word.length) slRow_len
  rwa [slRow_get (by omega), List.take_length] at this
theorem c10 (hl : page.length ≤ 100) (hw : word.length ≤ 100) : callN P (n + 2) 10 [.str page, .str word] = .ok (.lst ((rowL page word (page.length + 1)).map .int), []) := by
  rw [callN_eq (ρ := [some (.str page), some (.str word), Option.none, Option.none, Option.none]) (d := d10) rfl rfl rfl]
  have r0 := listRange_ok (n := (word.length : Int) + 1) (k := word.length + 1) (by omega) (by omega)
  rw [slRow_nil] at r0
  have r1 : [Val.int (sl [] word.reverse)] = (rowL page word 1).map Val.int := rfl
  have l0 := lastSl (p := []) (word := word)
  rw [List.reverse_nil] at l0
  obtain ⟨ρ', e, a4, rfl⟩ := loop_list (G := ⟨callN P (n + 1), P.con, P.rp, P.wh⟩) (t := lpT (sat d10.body 2)) (b := lpB (sat d10.body 2))
    (fun c => Val.str [c]) (fun pre ρ => ∃ a4, ρ = [some (.str page), some (.str word), some (.lst ((slRow (page.take pre.length) word (word.length + 1)).map .int)), some (.lst ((rowL page word (pre.length + 1)).map .int)), a4]) (l := page)
    (ρ := [some (.str page), some (.str word), some (.lst ((slRow [] word (word.length + 1)).map .int)), some (.lst ((rowL page word 1).map .int)), Option.none]) ⟨_, rfl⟩ fun pre c post ρ hq h => by
      obtain ⟨a4, rfl⟩ := h
      obtain ⟨q1, q2, q3, q4⟩ := ME.take_succ hq
      have e9 := c9 (n := n) (word := word) (p := page.take pre.length) (c := c) hw
      rw [q1, ← q2] at e9
      have ap := app_i (xs := rowL page word (pre.length + 1)) (x := rowV page word (pre.length + 1)) (by rw [rowL_len]; omega)
      rw [← rowL_snoc] at ap
      have ls := lastSl (p := page.take (pre.length + 1)) (word := word)
      have lv : sl (page.take (pre.length + 1)).reverse word.reverse = rowV page word (pre.length + 1) := rfl
      rw [lv] at ls
      simp only [d10, sat, lpT, lpB, bindT, bindTs, ok_bind, get_z, get_s, put_z, put_s, List.set_cons_zero, List.set_cons_succ, List.length_cons, List.length_nil, if_true, ev_var, ev_k, ev_g, ev_bin, ev_cmp, ev_cmp2, ev_neg, ev_not, ev_and, ev_or, ev_ite, ev_tup, ev_lst, ev_idx, ev_slc, ev_rev, ev_call, ev_repr, ev_mth, ev_mtc, evs_nil, evs_cons, evi_e, evi_rng, evi_enum, evi_zip, es_set, es_unp, es_par, es_sti, es_ex, es_ret, es_ret0, es_pass, es_brk, es_ifs, es_loop, ess_nil, ess_cons, orS_some, fill_nil, fill_cons, spill_nil, spill_cons, puts_nil, puts_cons, bT_var, done_next, done_ret, done_next1, done_ret1, eb_len, eb_abs, eb_int, eb_str, eb_list, eb_tuple, eb_dict, eb_sum, eb_min, eb_max, eb_any, eb_all, eb_sorted, eb_sortedSet, eb_lenSet, eb_listRange, eb_tupRange, eb_tupEnum, eb_tupZip, eb_listZip, eb_newDict, eb_newDicT, eb_isinst, es_aug, ev_mtl, ev_mtt, ev_mtq, ev_mtd, ev_alt, alt_ok, alt_stuck, eb_minD, eb_maxD, eb_sortedTxt, eb_sortedSetS, eb_sumL, eb_listTxt, q1, e9, ls, isLst, ap]
      exact ⟨_, rfl, _, by rw [List.length_append]; rfl⟩
  simp only [d10, sat, lpT, lpB] at e
  simp only [d10, ok_bind, get_z, get_s, put_z, put_s, List.set_cons_zero, List.set_cons_succ, List.length_cons, List.length_nil, if_true, ev_var, ev_k, ev_g, ev_bin, ev_cmp, ev_cmp2, ev_neg, ev_not, ev_and, ev_or, ev_ite, ev_tup, ev_lst, ev_idx, ev_slc, ev_rev, ev_call, ev_repr, ev_mth, ev_mtc, evs_nil, evs_cons, evi_e, evi_rng, evi_enum, evi_zip, es_set, es_unp, es_par, es_sti, es_ex, es_ret, es_ret0, es_pass, es_brk, es_ifs, es_loop, ess_nil, ess_cons, orS_some, fill_nil, fill_cons, spill_nil, spill_cons, puts_nil, puts_cons, bT_var, done_next, done_ret, done_next1, done_ret1, eb_len, eb_abs, eb_int, eb_str, eb_list, eb_tuple, eb_dict, eb_sum, eb_min, eb_max, eb_any, eb_all, eb_sorted, eb_sortedSet, eb_lenSet, eb_listRange, eb_tupRange, eb_tupEnum, eb_tupZip, eb_listZip, eb_newDict, eb_newDicT, eb_isinst, es_aug, ev_mtl, ev_mtt, ev_mtq, ev_mtd, ev_alt, alt_ok, alt_stuck, eb_minD, eb_maxD, eb_sortedTxt, eb_sortedSetS, eb_sumL, eb_listTxt, len_s, add_i, r0, l0, r1, walked, e]
theorem c11 (h : PW page word) : callN P (n + 5) 11 [.str page, .str word] = .ok (.tup ((rowL page word (page.length + 1)).map .int), []) := by
  have := h.hp
  have := h.w2
  rw [callN_eq (ρ := [some (.str page), some (.str word)]) (d := d11) rfl rfl rfl]
  simp only [d11, ok_bind, get_z, get_s, put_z, put_s, List.set_cons_zero, List.set_cons_succ, List.length_cons, List.length_nil, if_true, ev_var, ev_k, ev_g, ev_bin, ev_cmp, ev_cmp2, ev_neg, ev_not, ev_and, ev_or, ev_ite, ev_tup, ev_lst, ev_idx, ev_slc, ev_rev, ev_call, ev_repr, ev_mth, ev_mtc, evs_nil, evs_cons, evi_e, evi_rng, evi_enum, evi_zip, es_set, es_unp, es_par, es_sti, es_ex, es_ret, es_ret0, es_pass, es_brk, es_ifs, es_loop, ess_nil, ess_cons, orS_some, fill_nil, fill_cons, spill_nil, spill_cons, puts_nil, puts_cons, bT_var, done_next, done_ret, done_next1, done_ret1, eb_len, eb_abs, eb_int, eb_str, eb_list, eb_tuple, eb_dict, eb_sum, eb_min, eb_max, eb_any, eb_all, eb_sorted, eb_sortedSet, eb_lenSet, eb_listRange, eb_tupRange, eb_tupEnum, eb_tupZip, eb_listZip, eb_newDict, eb_newDicT, eb_isinst, es_aug, ev_mtl, ev_mtt, ev_mtq, ev_mtd, ev_alt, alt_ok, alt_stuck, eb_minD, eb_maxD, eb_sortedTxt, eb_sortedSetS, eb_sumL, eb_listTxt, c7 h, c10 (n := n + 2) (page := page) (word := word) (by omega) (by omega), tuple_l]
def endsL (page word : List Nat) (m : Int) : List Nat := (List.range (page.length + 1)).filter fun e => decide (rowV page word e ≤ m)
def intsN (l : List Nat) : List Val := l.map fun (e : Nat) => Val.int (e : Int)
theorem enumRow (k : Nat) : numb 0 ((rowL page word k).map .int) = (List.range k).map fun (e : Nat) => Val.tup [.int (e : Int), .int (rowV page word e)] := by
  unfold rowL
  rw [List.map_map]
  exact numb_range0
theorem c12 (hl : page.length ≤ 100) (hw : word.length ≤ 100) {m : Int} : callN P (n + 3) 12 [.str page, .str word, .int m] = .ok (.lst (intsN (endsL page word m)), []) := by
  rw [callN_eq (ρ := [some (.str page), some (.str word), some (.int m), Option.none, Option.none]) (d := d12) rfl rfl rfl]
  have e := lc_ok (G := ⟨callN P (n + 2), P.con, P.rp, P.wh⟩) (elt := .var 3) (t := .tup [(.var 3), (.var 4)]) (it := .enum (.call 10 (.cons (.var 0) (.cons (.var 1) .nil)) [])) (c := .cmp .le (.var 4) (.var 2)) (own := [3, 4])
    (ρ := [some (.str page), some (.str word), some (.int m), Option.none, Option.none]) (ρ1 := [some (.str page), some (.str word), some (.int m), Option.none, Option.none]) (f := fun (e : Nat) => Val.tup [.int (e : Int), .int (rowV page word e)]) (l := List.range (page.length + 1)) (fun e => decide (rowV page word e ≤ m)) (fun (e : Nat) => .int (e : Int))
    (by simp only [ok_bind, get_z, get_s, put_z, put_s, List.set_cons_zero, List.set_cons_succ, List.length_cons, List.length_nil, if_true, ev_var, ev_k, ev_g, ev_bin, ev_cmp, ev_cmp2, ev_neg, ev_not, ev_and, ev_or, ev_ite, ev_tup, ev_lst, ev_idx, ev_slc, ev_rev, ev_call, ev_repr, ev_mth, ev_mtc, evs_nil, evs_cons, evi_e, evi_rng, evi_enum, evi_zip, es_set, es_unp, es_par, es_sti, es_ex, es_ret, es_ret0, es_pass, es_brk, es_ifs, es_loop, ess_nil, ess_cons, orS_some, fill_nil, fill_cons, spill_nil, spill_cons, puts_nil, puts_cons, bT_var, done_next, done_ret, done_next1, done_ret1, eb_len, eb_abs, eb_int, eb_str, eb_list, eb_tuple, eb_dict, eb_sum, eb_min, eb_max, eb_any, eb_all, eb_sorted, eb_sortedSet, eb_lenSet, eb_listRange, eb_tupRange, eb_tupEnum, eb_tupZip, eb_listZip, eb_newDict, eb_newDicT, eb_isinst, es_aug, ev_mtl, ev_mtt, ev_mtq, ev_mtd, ev_alt, alt_ok, alt_stuck, eb_minD, eb_maxD, eb_sortedTxt, eb_sortedSetS, eb_sumL, eb_listTxt, c10 (n := n) hl hw, enumd, walked, enumRow]) (bigOf (by simp; omega)) rfl fun e he => ⟨_, rfl, rfl, rfl, rfl, fun _ => rfl⟩
  simp only [d12, ok_bind, get_z, get_s, put_z, put_s, List.set_cons_zero, List.set_cons_succ, List.length_cons, List.length_nil, if_true, ev_var, ev_k, ev_g, ev_bin, ev_cmp, ev_cmp2, ev_neg, ev_not, ev_and, ev_or, ev_ite, ev_tup, ev_lst, ev_idx, ev_slc, ev_rev, ev_call, ev_repr, ev_mth, ev_mtc, evs_nil, evs_cons, evi_e, evi_rng, evi_enum, evi_zip, es_set, es_unp, es_par, es_sti, es_ex, es_ret, es_ret0, es_pass, es_brk, es_ifs, es_loop, ess_nil, ess_cons, orS_some, fill_nil, fill_cons, spill_nil, spill_cons, puts_nil, puts_cons, bT_var, done_next, done_ret, done_next1, done_ret1, eb_len, eb_abs, eb_int, eb_str, eb_list, eb_tuple, eb_dict, eb_sum, eb_min, eb_max, eb_any, eb_all, eb_sorted, eb_sortedSet, eb_lenSet, eb_listRange, eb_tupRange, eb_tupEnum, eb_tupZip, eb_listZip, eb_newDict, eb_newDicT, eb_isinst, es_aug, ev_mtl, ev_mtt, ev_mtq, ev_mtd, ev_alt, alt_ok, alt_stuck, eb_minD, eb_maxD, eb_sortedTxt, eb_sortedSetS, eb_sumL, eb_listTxt, e]
  rfl
theorem c13 (h : PW page word) {m : Int} (h0 : 0 ≤ m) (h1 : m ≤ 12) : callN P (n + 6) 13 [.str page, .str word, .int m] = .ok (.tup (intsN (endsL page word m)), []) := by
  have := h.hp
  have := h.w2
  rw [callN_eq (ρ := [some (.str page), some (.str word), some (.int m)]) (d := d13) rfl rfl rfl]
  simp only [d13, ok_bind, get_z, get_s, put_z, put_s, List.set_cons_zero, List.set_cons_succ, List.length_cons, List.length_nil, if_true, ev_var, ev_k, ev_g, ev_bin, ev_cmp, ev_cmp2, ev_neg, ev_not, ev_and, ev_or, ev_ite, ev_tup, ev_lst, ev_idx, ev_slc, ev_rev, ev_call, ev_repr, ev_mth, ev_mtc, evs_nil, evs_cons, evi_e, evi_rng, evi_enum, evi_zip, es_set, es_unp, es_par, es_sti, es_ex, es_ret, es_ret0, es_pass, es_brk, es_ifs, es_loop, ess_nil, ess_cons, orS_some, fill_nil, fill_cons, spill_nil, spill_cons, puts_nil, puts_cons, bT_var, done_next, done_ret, done_next1, done_ret1, eb_len, eb_abs, eb_int, eb_str, eb_list, eb_tuple, eb_dict, eb_sum, eb_min, eb_max, eb_any, eb_all, eb_sorted, eb_sortedSet, eb_lenSet, eb_listRange, eb_tupRange, eb_tupEnum, eb_tupZip, eb_listZip, eb_newDict, eb_newDicT, eb_isinst, es_aug, ev_mtl, ev_mtt, ev_mtq, ev_mtd, ev_alt, alt_ok, alt_stuck, eb_minD, eb_maxD, eb_sortedTxt, eb_sortedSetS, eb_sumL, eb_listTxt, c8 h h0 h1, c12 (n := n + 2) (page := page) (word := word) (by omega) (by omega), tuple_l]
/-- the least of the row, where it stands first -/
theorem best_ex (k : Nat) : ∃ (m : Int) (j : Nat), blt .min [.lst ((rowL page word (k + 1)).map .int)] = .ok (.int m) ∧ mth .index (.lst ((rowL page word (k + 1)).map .int)) [.int m] = .ok (.int j) ∧ 0 ≤ m ∧ m ≤ word.length ∧ j ≤ k := by
  obtain ⟨r, hr⟩ : ∃ r, rowL page word (k + 1) = rowV page word 0 :: r := ⟨_, by unfold rowL; rw [List.range_succ_eq_map, List.map_cons]⟩
  have e1 := min_l (n := rowV page word 0) (ns := r)
  rw [← hr] at e1
  obtain ⟨⟨h1, h2⟩, h3⟩ := foldMin_le r (rowV page word 0)
  generalize r.foldl min (rowV page word 0) = m at *
  have hm : m ∈ rowL page word (k + 1) := by
    rw [hr]
    exact h3.elim (fun z => z ▸ List.mem_cons_self) fun z => List.mem_cons_of_mem _ z
  have hv : ∃ e, m = rowV page word e := by
    unfold rowL at hm
    obtain ⟨e, _, he⟩ := List.mem_map.mp hm
    exact ⟨e, he.symm⟩
  obtain ⟨j, hj⟩ : ∃ j, ((rowL page word (k + 1)).map Val.int).findIdx? (fun u => veq u (.int m)) = some j := by
    cases hz : ((rowL page word (k + 1)).map Val.int).findIdx? (fun u => veq u (.int m)) with
    | some j => exact ⟨j, rfl⟩
    | none =>
      have := List.findIdx?_eq_none_iff.mp hz (.int m) (List.mem_map.mpr ⟨m, hm, rfl⟩)
      rw [veq_refl (n := 60) _ shp_int] at this
      cases this
  refine ⟨m, j, e1, ?_, ?_, ?_, ?_⟩
  · show (if (shp 60 (.int m) && shps 60 ((rowL page word (k + 1)).map Val.int)) = true then (orStuck (((rowL page word (k + 1)).map Val.int).findIdx? fun u => veq u (.int m))).bind fun j => Res.ok (Val.int j) else .stuck) = _
    rw [shp_int, shps_map fun _ _ => shp_int, hj]
    rfl
  · obtain ⟨e, rfl⟩ := hv
    unfold rowV
    obtain ⟨k, _, hk⟩ := sl_some _ (page.take e).reverse word.reverse (Nat.le_refl _)
    have := lev_pos (s := s1) (w := 1) s1_pos (by decide) _ ((page.take e).reverse.take k) word.reverse (Nat.le_refl _)
    unfold L at hk
    omega
  · obtain ⟨e, rfl⟩ := hv
    have := sl_len (page.take e).reverse word.reverse
    rw [List.length_reverse] at this
    exact this
  · have := (List.findIdx?_eq_some_iff_findIdx_eq.mp hj).1
    rw [List.length_map, rowL_len] at this
    omega
theorem c14 (h : PW page word) {m : Int} {j : Nat} (e1 : blt .min [.lst ((rowL page word (page.length + 1)).map .int)] = .ok (.int m)) (e2 : mth .index (.lst ((rowL page word (page.length + 1)).map .int)) [.int m] = .ok (.int j)) :
    callN P (n + 5) 14 [.str page, .str word] = .ok (.tup [.int m, .int j], []) := by
  have := h.hp
  have := h.w2
  rw [callN_eq (ρ := [some (.str page), some (.str word), Option.none]) (d := d14) rfl rfl rfl]
  simp only [d14, ok_bind, get_z, get_s, put_z, put_s, List.set_cons_zero, List.set_cons_succ, List.length_cons, List.length_nil, if_true, ev_var, ev_k, ev_g, ev_bin, ev_cmp, ev_cmp2, ev_neg, ev_not, ev_and, ev_or, ev_ite, ev_tup, ev_lst, ev_idx, ev_slc, ev_rev, ev_call, ev_repr, ev_mth, ev_mtc, evs_nil, evs_cons, evi_e, evi_rng, evi_enum, evi_zip, es_set, es_unp, es_par, es_sti, es_ex, es_ret, es_ret0, es_pass, es_brk, es_ifs, es_loop, ess_nil, ess_cons, orS_some, fill_nil, fill_cons, spill_nil, spill_cons, puts_nil, puts_cons, bT_var, done_next, done_ret, done_next1, done_ret1, eb_len, eb_abs, eb_int, eb_str, eb_list, eb_tuple, eb_dict, eb_sum, eb_min, eb_max, eb_any, eb_all, eb_sorted, eb_sortedSet, eb_lenSet, eb_listRange, eb_tupRange, eb_tupEnum, eb_tupZip, eb_listZip, eb_newDict, eb_newDicT, eb_isinst, es_aug, ev_mtl, ev_mtt, ev_mtq, ev_mtd, ev_alt, alt_ok, alt_stuck, eb_minD, eb_maxD, eb_sortedTxt, eb_sortedSetS, eb_sumL, eb_listTxt, c7 h, c10 (n := n + 2) (page := page) (word := word) (by omega) (by omega), e1, isLst, e2]
/-! ### the longest stretch -/
def farL (page word : List Nat) (e k : Nat) : List Val := (List.range k).map fun i => .int (far page word e i)
theorem min_far (e : Nat) : blt .min [.lst (farL page word e (e + 1))] = .ok (.int (far page word e (K page word e))) := by
  have : farL page word e (e + 1) = ((List.range (e + 1)).map (far page word e)).map Val.int := by unfold farL; rw [List.map_map]; rfl
  rw [this]
  refine min_is (List.mem_map.mpr ⟨_, List.mem_range.mpr (Nat.lt_succ_of_le (K_le page word e)), rfl⟩) fun y hy => ?_
  obtain ⟨i, hi, rfl⟩ := List.mem_map.mp hy
  exact bst_min _ _ _ (Nat.le_of_lt_succ (List.mem_range.mp hi))
theorem c15 (hl : page.length ≤ 100) (hw : word.length ≤ 100) {e : Nat} (he : e ≤ page.length) : callN P (n + 2) 15 [.str page, .str word, .int e] = .ok (.int (K page word e), []) := by
  rw [callN_eq (ρ := [some (.str page), some (.str word), some (.int e), Option.none, Option.none, Option.none, Option.none]) (d := d15) rfl rfl rfl]
  have lt : (page.take e).reverse.length = e := by rw [List.length_reverse, List.length_take]; omega
  have e5 := c5 (n := n) (s := (page.take e).reverse) (t := word.reverse) (by omega) (by rw [List.length_reverse]; omega)
  rw [lt] at e5
  have es := slc_str_upto (vs := page) (a := e)
  have l1 := lc_all (G := ⟨callN P (n + 1), P.con, P.rp, P.wh⟩) (elt := .idx (.var 5) (.blt .len (.cons (.var 1) .nil))) (t := .var 5) (it := .e (.var 3)) (own := [5])
    (ρ := [some (.str page), some (.str word), some (.int e), some (.lst (tabV (page.take e).reverse word.reverse (e + 1))), Option.none, Option.none, Option.none]) (ρ1 := [some (.str page), some (.str word), some (.int e), some (.lst (tabV (page.take e).reverse word.reverse (e + 1))), Option.none, Option.none, Option.none])
    (f := fun i => .lst ((levRow s1 1 ((page.take e).reverse.take i) word.reverse (word.reverse.length + 1)).map .int)) (l := List.range (e + 1)) (fun i => .int (far page word e i)) (by simp only [ok_bind, get_z, get_s, put_z, put_s, List.set_cons_zero, List.set_cons_succ, List.length_cons, List.length_nil, if_true, ev_var, ev_k, ev_g, ev_bin, ev_cmp, ev_cmp2, ev_neg, ev_not, ev_and, ev_or, ev_ite, ev_tup, ev_lst, ev_idx, ev_slc, ev_rev, ev_call, ev_repr, ev_mth, ev_mtc, evs_nil, evs_cons, evi_e, evi_rng, evi_enum, evi_zip, es_set, es_unp, es_par, es_sti, es_ex, es_ret, es_ret0, es_pass, es_brk, es_ifs, es_loop, ess_nil, ess_cons, orS_some, fill_nil, fill_cons, spill_nil, spill_cons, puts_nil, puts_cons, bT_var, done_next, done_ret, done_next1, done_ret1, eb_len, eb_abs, eb_int, eb_str, eb_list, eb_tuple, eb_dict, eb_sum, eb_min, eb_max, eb_any, eb_all, eb_sorted, eb_sortedSet, eb_lenSet, eb_listRange, eb_tupRange, eb_tupEnum, eb_tupZip, eb_listZip, eb_newDict, eb_newDicT, eb_isinst, es_aug, ev_mtl, ev_mtt, ev_mtq, ev_mtd, ev_alt, alt_ok, alt_stuck, eb_minD, eb_maxD, eb_sortedTxt, eb_sortedSetS, eb_sumL, eb_listTxt, walked]; rfl) (bigOf (by simp; omega)) rfl fun i hi => ⟨_, rfl, rfl, rfl, by
      have g := getI (xs := levRow s1 1 ((page.take e).reverse.take i) word.reverse (word.reverse.length + 1)) (i := word.length) (by rw [levRow_len, List.length_reverse]; omega)
      rw [levRow_get (by rw [List.length_reverse]; omega), List.take_of_length_le (l := word.reverse) (i := word.length) (by rw [List.length_reverse]; exact Nat.le_refl _), lev_rev] at g
      simp only [wipe, List.set_cons_succ, List.set_cons_zero, ok_bind, get_z, get_s, put_z, put_s, List.set_cons_zero, List.set_cons_succ, List.length_cons, List.length_nil, if_true, ev_var, ev_k, ev_g, ev_bin, ev_cmp, ev_cmp2, ev_neg, ev_not, ev_and, ev_or, ev_ite, ev_tup, ev_lst, ev_idx, ev_slc, ev_rev, ev_call, ev_repr, ev_mth, ev_mtc, evs_nil, evs_cons, evi_e, evi_rng, evi_enum, evi_zip, es_set, es_unp, es_par, es_sti, es_ex, es_ret, es_ret0, es_pass, es_brk, es_ifs, es_loop, ess_nil, ess_cons, orS_some, fill_nil, fill_cons, spill_nil, spill_cons, puts_nil, puts_cons, bT_var, done_next, done_ret, done_next1, done_ret1, eb_len, eb_abs, eb_int, eb_str, eb_list, eb_tuple, eb_dict, eb_sum, eb_min, eb_max, eb_any, eb_all, eb_sorted, eb_sortedSet, eb_lenSet, eb_listRange, eb_tupRange, eb_tupEnum, eb_tupZip, eb_listZip, eb_newDict, eb_newDicT, eb_isinst, es_aug, ev_mtl, ev_mtt, ev_mtq, ev_mtd, ev_alt, alt_ok, alt_stuck, eb_minD, eb_maxD, eb_sortedTxt, eb_sortedSetS, eb_sumL, eb_listTxt, len_s, g]
      rfl⟩
  have l2 := lc_ok (G := ⟨callN P (n + 1), P.con, P.rp, P.wh⟩) (elt := .var 6) (t := .tup [(.var 6), (.var 5)]) (it := .enum (.var 4)) (c := .cmp .eq (.var 5) (.blt .min (.cons (.var 4) .nil))) (own := [6, 5])
    (ρ := [some (.str page), some (.str word), some (.int e), some (.lst (tabV (page.take e).reverse word.reverse (e + 1))), some (.lst (farL page word e (e + 1))), Option.none, Option.none]) (ρ1 := [some (.str page), some (.str word), some (.int e), some (.lst (tabV (page.take e).reverse word.reverse (e + 1))), some (.lst (farL page word e (e + 1))), Option.none, Option.none])
    (f := fun (i : Nat) => Val.tup [.int (i : Int), .int (far page word e i)]) (l := List.range (e + 1)) (fun i => far page word e i == far page word e (K page word e)) (fun (i : Nat) => .int (i : Int)) (by
      simp only [ok_bind, get_z, get_s, put_z, put_s, List.set_cons_zero, List.set_cons_succ, List.length_cons, List.length_nil, if_true, ev_var, ev_k, ev_g, ev_bin, ev_cmp, ev_cmp2, ev_neg, ev_not, ev_and, ev_or, ev_ite, ev_tup, ev_lst, ev_idx, ev_slc, ev_rev, ev_call, ev_repr, ev_mth, ev_mtc, evs_nil, evs_cons, evi_e, evi_rng, evi_enum, evi_zip, es_set, es_unp, es_par, es_sti, es_ex, es_ret, es_ret0, es_pass, es_brk, es_ifs, es_loop, ess_nil, ess_cons, orS_some, fill_nil, fill_cons, spill_nil, spill_cons, puts_nil, puts_cons, bT_var, done_next, done_ret, done_next1, done_ret1, eb_len, eb_abs, eb_int, eb_str, eb_list, eb_tuple, eb_dict, eb_sum, eb_min, eb_max, eb_any, eb_all, eb_sorted, eb_sortedSet, eb_lenSet, eb_listRange, eb_tupRange, eb_tupEnum, eb_tupZip, eb_listZip, eb_newDict, eb_newDicT, eb_isinst, es_aug, ev_mtl, ev_mtt, ev_mtq, ev_mtd, ev_alt, alt_ok, alt_stuck, eb_minD, eb_maxD, eb_sortedTxt, eb_sortedSetS, eb_sumL, eb_listTxt, enumd, walked, farL, numb_range0]) (bigOf (by simp; omega)) rfl fun i hi => ⟨_, rfl, rfl, rfl, by
      simp only [wipe, List.set_cons_succ, List.set_cons_zero, ok_bind, get_z, get_s, put_z, put_s, List.set_cons_zero, List.set_cons_succ, List.length_cons, List.length_nil, if_true, ev_var, ev_k, ev_g, ev_bin, ev_cmp, ev_cmp2, ev_neg, ev_not, ev_and, ev_or, ev_ite, ev_tup, ev_lst, ev_idx, ev_slc, ev_rev, ev_call, ev_repr, ev_mth, ev_mtc, evs_nil, evs_cons, evi_e, evi_rng, evi_enum, evi_zip, es_set, es_unp, es_par, es_sti, es_ex, es_ret, es_ret0, es_pass, es_brk, es_ifs, es_loop, ess_nil, ess_cons, orS_some, fill_nil, fill_cons, spill_nil, spill_cons, puts_nil, puts_cons, bT_var, done_next, done_ret, done_next1, done_ret1, eb_len, eb_abs, eb_int, eb_str, eb_list, eb_tuple, eb_dict, eb_sum, eb_min, eb_max, eb_any, eb_all, eb_sorted, eb_sortedSet, eb_lenSet, eb_listRange, eb_tupRange, eb_tupEnum, eb_tupZip, eb_listZip, eb_newDict, eb_newDicT, eb_isinst, es_aug, ev_mtl, ev_mtt, ev_mtq, ev_mtd, ev_alt, alt_ok, alt_stuck, eb_minD, eb_maxD, eb_sortedTxt, eb_sortedSetS, eb_sumL, eb_listTxt, min_far, eq_i], fun _ => rfl⟩
  have mx : blt .max [.lst (((List.range (e + 1)).filter fun i => far page word e i == far page word e (K page word e)).map fun (i : Nat) => Val.int (i : Int))] = .ok (.int (K page word e)) := by
    have : (((List.range (e + 1)).filter fun i => far page word e i == far page word e (K page word e)).map fun (i : Nat) => Val.int (i : Int)) = (((List.range (e + 1)).filter fun i => far page word e i == far page word e (K page word e)).map fun (i : Nat) => (i : Int)).map Val.int := by rw [List.map_map]; rfl
    rw [this]
    refine max_is (List.mem_map.mpr ⟨K page word e, List.mem_filter.mpr ⟨List.mem_range.mpr (Nat.lt_succ_of_le (K_le _ _ _)), beq_self_eq_true _⟩, rfl⟩) fun y hy => ?_
    obtain ⟨i, hi, rfl⟩ := List.mem_map.mp hy
    obtain ⟨hi, hf⟩ := List.mem_filter.mp hi
    have := bst_last (far page word e) e i (Nat.le_of_lt_succ (List.mem_range.mp hi)) (eq_of_beq hf)
    unfold K
    omega
  have l1 : evE _ _ _ = Res.ok (Val.lst (farL page word e (e + 1)), _) := l1
  simp only [d15, ok_bind, get_z, get_s, put_z, put_s, List.set_cons_zero, List.set_cons_succ, List.length_cons, List.length_nil, if_true, ev_var, ev_k, ev_g, ev_bin, ev_cmp, ev_cmp2, ev_neg, ev_not, ev_and, ev_or, ev_ite, ev_tup, ev_lst, ev_idx, ev_slc, ev_rev, ev_call, ev_repr, ev_mth, ev_mtc, evs_nil, evs_cons, evi_e, evi_rng, evi_enum, evi_zip, es_set, es_unp, es_par, es_sti, es_ex, es_ret, es_ret0, es_pass, es_brk, es_ifs, es_loop, ess_nil, ess_cons, orS_some, fill_nil, fill_cons, spill_nil, spill_cons, puts_nil, puts_cons, bT_var, done_next, done_ret, done_next1, done_ret1, eb_len, eb_abs, eb_int, eb_str, eb_list, eb_tuple, eb_dict, eb_sum, eb_min, eb_max, eb_any, eb_all, eb_sorted, eb_sortedSet, eb_lenSet, eb_listRange, eb_tupRange, eb_tupEnum, eb_tupZip, eb_listZip, eb_newDict, eb_newDicT, eb_isinst, es_aug, ev_mtl, ev_mtt, ev_mtq, ev_mtd, ev_alt, alt_ok, alt_stuck, eb_minD, eb_maxD, eb_sortedTxt, eb_sortedSetS, eb_sumL, eb_listTxt, okp_none, okp_int, es, rev_s, e5, l1, l2, mx]
theorem sub_nat {a b : Nat} (h : b ≤ a) : (a : Int) - (b : Int) = ((a - b : Nat) : Int) := by omega
theorem c16 (h : PW page word) {e : Nat} (he : e ≤ page.length) : callN P (n + 5) 16 [.str page, .str word, .int e] = .ok (.str (str page e (K page word e)), []) := by
  have := h.hp
  have := h.w2
  rw [callN_eq (ρ := [some (.str page), some (.str word), some (.int e)]) (d := d16) rfl rfl rfl]
  have w := isWithin_ok (P := P) (n := n + 2) (g := 1) (f := 0) rfl rfl e 0 page.length
  rw [decide_eq_true ⟨by omega, by omega⟩] at w
  have hk := K_le page word e
  have es := slc_strA (s := page) (a := e - K page word e) (b := e)
  rw [show e - (e - K page word e) = K page word e by omega] at es
  simp only [d16, ok_bind, get_z, get_s, put_z, put_s, List.set_cons_zero, List.set_cons_succ, List.length_cons, List.length_nil, if_true, ev_var, ev_k, ev_g, ev_bin, ev_cmp, ev_cmp2, ev_neg, ev_not, ev_and, ev_or, ev_ite, ev_tup, ev_lst, ev_idx, ev_slc, ev_rev, ev_call, ev_repr, ev_mth, ev_mtc, evs_nil, evs_cons, evi_e, evi_rng, evi_enum, evi_zip, es_set, es_unp, es_par, es_sti, es_ex, es_ret, es_ret0, es_pass, es_brk, es_ifs, es_loop, ess_nil, ess_cons, orS_some, fill_nil, fill_cons, spill_nil, spill_cons, puts_nil, puts_cons, bT_var, done_next, done_ret, done_next1, done_ret1, eb_len, eb_abs, eb_int, eb_str, eb_list, eb_tuple, eb_dict, eb_sum, eb_min, eb_max, eb_any, eb_all, eb_sorted, eb_sortedSet, eb_lenSet, eb_listRange, eb_tupRange, eb_tupEnum, eb_tupZip, eb_listZip, eb_newDict, eb_newDicT, eb_isinst, es_aug, ev_mtl, ev_mtt, ev_mtq, ev_mtd, ev_alt, alt_ok, alt_stuck, eb_minD, eb_maxD, eb_sortedTxt, eb_sortedSetS, eb_sumL, eb_listTxt, c7 h, len_s, w, tru_b, Bool.not_true, Bool.false_eq_true, if_false, c15 (n := n + 2) (page := page) (word := word) (by omega) (by omega) he, sub_i, sub_nat hk, okp_int, es]
  rfl
end
end K18
namespace K18
open MP ME
/-! ### from the left, and the most of all -/
def opv (l : List Int) (k : Nat) (ok : Bool) (b : Nat) : Int :=
  if ok then (if (if b < k then l.getD b 0 else if 0 < k then l.getD (k - 1) 0 else 0) + 1 > (if 0 < k then l.getD (k - 1) 0 else 0) then (if b < k then l.getD b 0 else if 0 < k then l.getD (k - 1) 0 else 0) + 1 else (if 0 < k then l.getD (k - 1) 0 else 0)) else if 0 < k then l.getD (k - 1) 0 else 0
section
variable (v : Nat → Bool) (bg : Nat → Nat)
def opL : Nat → List Int
  | 0 => []
  | k + 1 => opL k ++ [opv (opL k) k (v k) (bg k)]
theorem opL_len : ∀ k, (opL v bg k).length = k
  | 0 => rfl
  | k + 1 => by rw [opL, List.length_append, opL_len k]; rfl
def op (k : Nat) : Int := opv (opL v bg k) k (v k) (bg k)
theorem opL_get : ∀ {k i : Nat}, i < k → (opL v bg k).getD i 0 = op v bg i
  | k + 1, i, h => by
    rw [opL, List.getD_eq_getElem?_getD]
    by_cases hi : i < k
    · rw [List.getElem?_append_left (by rw [opL_len]; exact hi), ← List.getD_eq_getElem?_getD]
      exact opL_get hi
    · have : i = k := by omega
      subst this
      rw [List.getElem?_append_right (by rw [opL_len]; exact Nat.le_refl _), opL_len, Nat.sub_self]
      rfl
def opm (k : Nat) : Int := if 0 < k then op v bg (k - 1) else 0
theorem op_eq (k : Nat) (hb : bg k ≤ k) : op v bg k = if v k then (if bg k < k then max (opm v bg k) (op v bg (bg k) + 1) else opm v bg k + 1) else opm v bg k := by
  have a : (if 0 < k then (opL v bg k).getD (k - 1) 0 else 0) = opm v bg k := by
    unfold opm
    split
    · exact opL_get v bg (by omega)
    · rfl
  have e : op v bg k = opv (opL v bg k) k (v k) (bg k) := rfl
  rw [e]
  unfold opv
  rw [a]
  cases v k with
  | false => rfl
  | true =>
    rw [if_pos rfl, if_pos rfl]
    by_cases h : bg k < k
    · rw [if_pos h, if_pos h, opL_get v bg h]
      split <;> omega
    · rw [if_neg h, if_neg h]
      split <;> omega
def gst (st : Int × Nat) (e : Nat) : Int × Nat := if st.2 ≤ bg e then (st.1 + 1, e) else st
def gr (k : Nat) : Int × Nat := ((List.range k).filter v).foldl (gst bg) (0, 0)
theorem gr_succ (k : Nat) : gr v bg (k + 1) = if v k then gst bg (gr v bg k) k else gr v bg k := by
  unfold gr
  rw [List.range_succ, List.filter_append, List.foldl_append]
  cases h : v k with
  | true => simp [h]
  | false => simp [h]
theorem gr_inv (hb : ∀ k, bg k ≤ k) : ∀ k, (gr v bg k).1 = opm v bg k ∧ (∀ j, j < k → (gr v bg k).2 ≤ j → op v bg j = (gr v bg k).1) ∧ (∀ j, j < k → j < (gr v bg k).2 → op v bg j < (gr v bg k).1) ∧ (gr v bg k).2 ≤ k
  | 0 => ⟨rfl, fun j h => by omega, fun j h => by omega, Nat.le_refl _⟩
  | k + 1 => by
    obtain ⟨i1, i2, i3, i4⟩ := gr_inv hb k
    have e := op_eq v bg k (hb k)
    have o : opm v bg (k + 1) = op v bg k := rfl
    rw [gr_succ]
    cases hv : v k with
    | false =>
      rw [hv] at e
      rw [if_neg Bool.false_ne_true] at e ⊢
      refine ⟨by rw [o, e, i1], fun j h1 h2 => ?_, fun j h1 h2 => ?_, by omega⟩
      · by_cases hj : j = k
        · subst hj; rw [e, i1]
        · exact i2 j (by omega) h2
      · exact i3 j (by omega) h2
    | true =>
      rw [hv] at e
      rw [if_pos rfl] at e ⊢
      unfold gst
      by_cases hc : (gr v bg k).2 ≤ bg k
      · rw [if_pos hc]
        have e2 : op v bg k = (gr v bg k).1 + 1 := by
          rw [e, i1]
          by_cases h : bg k < k
          · rw [if_pos h, i2 _ h hc, i1]; omega
          · rw [if_neg h]
        refine ⟨by rw [o, e2], fun j h1 h2 => ?_, fun j h1 h2 => ?_, Nat.le_succ _⟩
        · have : j = k := by
            have h2 : k ≤ j := h2
            omega
          rw [this, e2]
        · have h2 : j < k := h2
          show op v bg j < (gr v bg k).1 + 1
          by_cases hj : (gr v bg k).2 ≤ j
          · rw [i2 j h2 hj]; omega
          · have := i3 j h2 (by omega); omega
      · rw [if_neg hc]
        have hb2 : bg k < k := by omega
        have e2 : op v bg k = (gr v bg k).1 := by
          rw [e, i1, if_pos hb2]
          have := i3 _ hb2 (by omega)
          omega
        refine ⟨by rw [o, e2], fun j h1 h2 => ?_, fun j h1 h2 => ?_, by omega⟩
        · by_cases hj : j = k
          · rw [hj, e2]
          · exact i2 j (by omega) h2
        · exact i3 j (by omega) h2
end
section
variable {n : Nat} {s t page word : List Nat}
/-! ### the law's own -/
theorem min_swap (a b c : Int) : min (min a b) c = min (min b a) c := by omega
theorem c23 (hl : s.length ≤ 100) (hl2 : t.length ≤ 100) : callN P (n + 1) 23 [.str s, .str t] = .ok (.int (L s.reverse t.reverse), []) := by
  rw [callN_eq (ρ := [some (.str s), some (.str t), Option.none, Option.none, Option.none, Option.none, Option.none, Option.none]) (d := d23) rfl rfl rfl]
  generalize hG : (⟨callN P n, P.con, P.rp, P.wh⟩ : Gl) = G
  have r0 := listRange_ok (n := (t.length : Int) + 1) (k := t.length + 1) (by omega) (by omega)
  rw [row0] at r0
  obtain ⟨ρ', e, a3, a4, a5, a6, a7, rfl⟩ := loop_list (G := G) (t := lpT (sat d23.body 1)) (b := lpB (sat d23.body 1))
    (fun u : Nat × Nat => Val.tup [.int u.2, .str [u.1]]) (fun pre ρ => ∃ a3 a4 a5 a6 a7, ρ = [some (.str s), some (.str t), some (.lst ((levRow s1 1 (pre.map (·.1)) t (t.length + 1)).map .int)), a3, a4, a5, a6, a7]) (l := s.zipIdx)
    (ρ := [some (.str s), some (.str t), some (.lst ((levRow s1 1 [] t (t.length + 1)).map .int)), Option.none, Option.none, Option.none, Option.none, Option.none]) ⟨_, _, _, _, _, rfl⟩ fun pre v post ρ hq h => by
      obtain ⟨a3, a4, a5, a6, a7, rfl⟩ := h
      obtain ⟨v1, v2⟩ := zipIdx_split hq
      have hpl : pre.length < s.length := (List.getElem?_eq_some_iff.mp v2).1
      have r1 : [Val.int ((pre.length : Int) + 1)] = (levRow s1 1 (pre.map (·.1) ++ [v.1]) t 1).map Val.int := by
        rw [levRow_one, List.length_append, List.length_map, Int.one_mul]; rfl
      obtain ⟨ρ', e, b6, b7, rfl⟩ := loop_list (G := G) (t := lpT (sat (lpB (sat d23.body 1)) 1)) (b := lpB (sat (lpB (sat d23.body 1)) 1))
        (fun u : Nat × Nat => Val.tup [.int u.2, .str [u.1]]) (fun p ρ => ∃ b6 b7, ρ = [some (.str s), some (.str t), some (.lst ((levRow s1 1 (pre.map (·.1)) t (t.length + 1)).map .int)), some (.int v.2), some (.str [v.1]), some (.lst ((levRow s1 1 (pre.map (·.1) ++ [v.1]) t (p.length + 1)).map .int)), b6, b7]) (l := t.zipIdx)
        (ρ := [some (.str s), some (.str t), some (.lst ((levRow s1 1 (pre.map (·.1)) t (t.length + 1)).map .int)), some (.int v.2), some (.str [v.1]), some (.lst ((levRow s1 1 (pre.map (·.1) ++ [v.1]) t 1).map .int)), a6, a7]) ⟨_, _, rfl⟩ fun p u post2 ρ hq2 h2 => by
          obtain ⟨b6, b7, rfl⟩ := h2
          obtain ⟨u1, u2⟩ := zipIdx_split hq2
          have hjl : p.length < t.length := (List.getElem?_eq_some_iff.mp u2).1
          have g1 := getI (xs := levRow s1 1 (pre.map (·.1)) t (t.length + 1)) (i := p.length) (by rw [levRow_len]; omega)
          have g2 := getI (xs := levRow s1 1 (pre.map (·.1)) t (t.length + 1)) (i := p.length + 1) (by rw [levRow_len]; omega)
          have g3 := last_row (xs := levRow s1 1 (pre.map (·.1) ++ [v.1]) t (p.length + 1)) (k := p.length) levRow_len
          rw [levRow_get (by omega)] at g1 g2 g3
          rw [show ((p.length + 1 : Nat) : Int) = (p.length : Int) + 1 by omega] at g2
          have st := lev_step (s := s1) (w := 1) (pre := pre.map (·.1)) (c := v.1) u2
          have sn := levRow_snoc (s := s1) (w := 1) (pre := pre.map (·.1) ++ [v.1]) (other := t) (n := p.length + 1)
          have su : (if (!(u.1 == v.1)) = true then (1 : Int) else 0) = s1 v.1 u.1 := s1_symm u.1 v.1
          simp only [d23, sat, lpT, lpB, bindT, bindTs, ok_bind, get_z, get_s, put_z, put_s, List.set_cons_zero, List.set_cons_succ, List.length_cons, List.length_nil, if_true, ev_var, ev_k, ev_g, ev_bin, ev_cmp, ev_cmp2, ev_neg, ev_not, ev_and, ev_or, ev_ite, ev_tup, ev_lst, ev_idx, ev_slc, ev_rev, ev_call, ev_repr, ev_mth, ev_mtc, evs_nil, evs_cons, evi_e, evi_rng, evi_enum, evi_zip, es_set, es_unp, es_par, es_sti, es_ex, es_ret, es_ret0, es_pass, es_brk, es_ifs, es_loop, ess_nil, ess_cons, orS_some, fill_nil, fill_cons, spill_nil, spill_cons, puts_nil, puts_cons, bT_var, done_next, done_ret, done_next1, done_ret1, eb_len, eb_abs, eb_int, eb_str, eb_list, eb_tuple, eb_dict, eb_sum, eb_min, eb_max, eb_any, eb_all, eb_sorted, eb_sortedSet, eb_lenSet, eb_listRange, eb_tupRange, eb_tupEnum, eb_tupZip, eb_listZip, eb_newDict, eb_newDicT, eb_isinst, es_aug, ev_mtl, ev_mtt, ev_mtq, ev_mtd, ev_alt, alt_ok, alt_stuck, eb_minD, eb_maxD, eb_sortedTxt, eb_sortedSetS, eb_sumL, eb_listTxt, u1, g1, g2, g3, ne_c, toint_b, su, add_i, min3_i, isLst, app_i (xs := levRow s1 1 (pre.map (·.1) ++ [v.1]) t (p.length + 1)) (by rw [levRow_len]; omega)]
          rw [min_swap, ← st, ← sn]
          exact ⟨_, rfl, _, _, by rw [List.length_append]; rfl⟩
      rw [List.length_zipIdx] at e
      rw [v1] at e
      simp only [d23, sat, lpT, lpB] at e
      simp only [d23, sat, lpT, lpB, bindT, bindTs, ok_bind, get_z, get_s, put_z, put_s, List.set_cons_zero, List.set_cons_succ, List.length_cons, List.length_nil, if_true, ev_var, ev_k, ev_g, ev_bin, ev_cmp, ev_cmp2, ev_neg, ev_not, ev_and, ev_or, ev_ite, ev_tup, ev_lst, ev_idx, ev_slc, ev_rev, ev_call, ev_repr, ev_mth, ev_mtc, evs_nil, evs_cons, evi_e, evi_rng, evi_enum, evi_zip, es_set, es_unp, es_par, es_sti, es_ex, es_ret, es_ret0, es_pass, es_brk, es_ifs, es_loop, ess_nil, ess_cons, orS_some, fill_nil, fill_cons, spill_nil, spill_cons, puts_nil, puts_cons, bT_var, done_next, done_ret, done_next1, done_ret1, eb_len, eb_abs, eb_int, eb_str, eb_list, eb_tuple, eb_dict, eb_sum, eb_min, eb_max, eb_any, eb_all, eb_sorted, eb_sortedSet, eb_lenSet, eb_listRange, eb_tupRange, eb_tupEnum, eb_tupZip, eb_listZip, eb_newDict, eb_newDicT, eb_isinst, es_aug, ev_mtl, ev_mtt, ev_mtq, ev_mtd, ev_alt, alt_ok, alt_stuck, eb_minD, eb_maxD, eb_sortedTxt, eb_sortedSetS, eb_sumL, eb_listTxt, v1, add_i, r1, enumd, walked, numb_str, e]
      exact ⟨_, rfl, _, _, _, _, _, by rw [List.map_append]; rfl⟩
  have gl := last_row (xs := levRow s1 1 s t (t.length + 1)) (k := t.length) levRow_len
  rw [levRow_get (by omega), List.take_length] at gl
  have ez : s.zipIdx.map (·.1) = s := List.zipIdx_map_fst 0 s
  rw [ez] at e
  simp only [d23, sat, lpT, lpB] at e
  simp only [d23, ok_bind, get_z, get_s, put_z, put_s, List.set_cons_zero, List.set_cons_succ, List.length_cons, List.length_nil, if_true, ev_var, ev_k, ev_g, ev_bin, ev_cmp, ev_cmp2, ev_neg, ev_not, ev_and, ev_or, ev_ite, ev_tup, ev_lst, ev_idx, ev_slc, ev_rev, ev_call, ev_repr, ev_mth, ev_mtc, evs_nil, evs_cons, evi_e, evi_rng, evi_enum, evi_zip, es_set, es_unp, es_par, es_sti, es_ex, es_ret, es_ret0, es_pass, es_brk, es_ifs, es_loop, ess_nil, ess_cons, orS_some, fill_nil, fill_cons, spill_nil, spill_cons, puts_nil, puts_cons, bT_var, done_next, done_ret, done_next1, done_ret1, eb_len, eb_abs, eb_int, eb_str, eb_list, eb_tuple, eb_dict, eb_sum, eb_min, eb_max, eb_any, eb_all, eb_sorted, eb_sortedSet, eb_lenSet, eb_listRange, eb_tupRange, eb_tupEnum, eb_tupZip, eb_listZip, eb_newDict, eb_newDicT, eb_isinst, es_aug, ev_mtl, ev_mtt, ev_mtq, ev_mtd, ev_alt, alt_ok, alt_stuck, eb_minD, eb_maxD, eb_sortedTxt, eb_sortedSetS, eb_sumL, eb_listTxt, len_s, add_i, r0, enumd, walked, numb_str, e, gl]
  rfl
theorem sub0 (i : Nat) : (0 : Int) - (i : Int) = -(i : Int) := by omega
theorem c24 (hl : page.length ≤ 100) (hw : word.length ≤ 100) {e : Nat} (he : e ≤ page.length) : callN P (n + 2) 24 [.str page, .str word, .int e] = .ok (.tup [.int (rowV page word e), .str (str page e (K page word e))], []) := by
  rw [callN_eq (ρ := [some (.str page), some (.str word), some (.int e), Option.none, Option.none, Option.none]) (d := d24) rfl rfl rfl]
  obtain ⟨ρ', el, a4, a5, rfl⟩ := loop_range (G := ⟨callN P (n + 1), P.con, P.rp, P.wh⟩) (t := lpT (sat d24.body 1)) (b := lpB (sat d24.body 1)) (a := 0) (n := e + 1)
    (fun i ρ => ∃ a4 a5, ρ = [some (.str page), some (.str word), some (.int e), some (.lst ((List.range i).map (trip (far page word e) (str page e)))), a4, a5])
    (ρ := [some (.str page), some (.str word), some (.int e), some (.lst []), Option.none, Option.none]) ⟨_, _, rfl⟩ fun i ρ hi h => by
      obtain ⟨a4, a5, rfl⟩ := h
      have es := slc_strA (s := page) (a := e - i) (b := e)
      rw [show e - (e - i) = i by omega] at es
      have es : slc (.str page) (.int ((e - i : Nat) : Int)) (.int e) = .ok (.str (str page e i)) := es
      have hst := str_len (page := page) he (show i ≤ e by omega)
      have e23 := c23 (n := n) (s := str page e i) (t := word) (by omega) hw
      rw [← far_eq he (by omega)] at e23
      have ap := app_v (vs := (List.range i).map (trip (far page word e) (str page e))) (v := trip (far page word e) (str page e) i) (by simp; omega)
      have sn : (List.range i).map (trip (far page word e) (str page e)) ++ [trip (far page word e) (str page e) i] = (List.range (i + 1)).map (trip (far page word e) (str page e)) := by rw [List.range_succ, List.map_append]; rfl
      rw [sn] at ap
      simp only [trip] at ap
      simp only [d24, sat, lpT, lpB, bindT, bindTs, ok_bind, get_z, get_s, put_z, put_s, List.set_cons_zero, List.set_cons_succ, List.length_cons, List.length_nil, if_true, ev_var, ev_k, ev_g, ev_bin, ev_cmp, ev_cmp2, ev_neg, ev_not, ev_and, ev_or, ev_ite, ev_tup, ev_lst, ev_idx, ev_slc, ev_rev, ev_call, ev_repr, ev_mth, ev_mtc, evs_nil, evs_cons, evi_e, evi_rng, evi_enum, evi_zip, es_set, es_unp, es_par, es_sti, es_ex, es_ret, es_ret0, es_pass, es_brk, es_ifs, es_loop, ess_nil, ess_cons, orS_some, fill_nil, fill_cons, spill_nil, spill_cons, puts_nil, puts_cons, bT_var, done_next, done_ret, done_next1, done_ret1, eb_len, eb_abs, eb_int, eb_str, eb_list, eb_tuple, eb_dict, eb_sum, eb_min, eb_max, eb_any, eb_all, eb_sorted, eb_sortedSet, eb_lenSet, eb_listRange, eb_tupRange, eb_tupEnum, eb_tupZip, eb_listZip, eb_newDict, eb_newDicT, eb_isinst, es_aug, ev_mtl, ev_mtt, ev_mtq, ev_mtd, ev_alt, alt_ok, alt_stuck, eb_minD, eb_maxD, eb_sortedTxt, eb_sortedSetS, eb_sumL, eb_listTxt, Int.zero_add, sub_i, sub_nat (show i ≤ e by omega), okp_int, es, e23, sub0, isLst, trip, ap]
      exact ⟨_, rfl, _, _, rfl⟩
  have r1 := range1 (b := (e : Int) + 1) (lim_ofM (by omega) (by omega))
  rw [show ((e : Int) + 1).toNat = e + 1 by omega] at r1
  have fk : far page word e (bst (far page word e) e) = rowV page word e := far_K (page := page) (word := word) he
  have mn : blt .minD [.lst ((List.range (e + 1)).map (trip (far page word e) (str page e)))] = .ok (.tup [.int (rowV page word e), .int (-(K page word e : Int)), .str (str page e (K page word e))]) := by
    rw [minD_trip]
    unfold trip
    rw [fk]
    rfl
  simp only [d24, sat, lpT, lpB] at el
  simp only [d24, ok_bind, get_z, get_s, put_z, put_s, List.set_cons_zero, List.set_cons_succ, List.length_cons, List.length_nil, if_true, ev_var, ev_k, ev_g, ev_bin, ev_cmp, ev_cmp2, ev_neg, ev_not, ev_and, ev_or, ev_ite, ev_tup, ev_lst, ev_idx, ev_slc, ev_rev, ev_call, ev_repr, ev_mth, ev_mtc, evs_nil, evs_cons, evi_e, evi_rng, evi_enum, evi_zip, es_set, es_unp, es_par, es_sti, es_ex, es_ret, es_ret0, es_pass, es_brk, es_ifs, es_loop, ess_nil, ess_cons, orS_some, fill_nil, fill_cons, spill_nil, spill_cons, puts_nil, puts_cons, bT_var, done_next, done_ret, done_next1, done_ret1, eb_len, eb_abs, eb_int, eb_str, eb_list, eb_tuple, eb_dict, eb_sum, eb_min, eb_max, eb_any, eb_all, eb_sorted, eb_sortedSet, eb_lenSet, eb_listRange, eb_tupRange, eb_tupEnum, eb_tupZip, eb_listZip, eb_newDict, eb_newDicT, eb_isinst, es_aug, ev_mtl, ev_mtt, ev_mtq, ev_mtd, ev_alt, alt_ok, alt_stuck, eb_minD, eb_maxD, eb_sortedTxt, eb_sortedSetS, eb_sumL, eb_listTxt, add_i, r1, el, mn, idx3_0, idx3_2]
theorem c25 (hl : page.length ≤ 100) (hw : word.length ≤ 100) : callN P (n + 3) 25 [.str page, .str word] = .ok (.lst ((rowL page word (page.length + 1)).map .int), []) := by
  rw [callN_eq (ρ := [some (.str page), some (.str word), Option.none]) (d := d25) rfl rfl rfl]
  have r1 := range1 (b := (page.length : Int) + 1) (lim_ofM (by omega) (by omega))
  rw [show ((page.length : Int) + 1).toNat = page.length + 1 by omega, rng0] at r1
  have l1 := lc_all (G := ⟨callN P (n + 2), P.con, P.rp, P.wh⟩) (elt := .idx (.call 24 (.cons (.var 0) (.cons (.var 1) (.cons (.var 2) .nil))) []) (.k (Val.int 0))) (t := .var 2) (it := .rng (.cons (.bin .add (.blt .len (.cons (.var 0) .nil)) (.k (Val.int 1))) .nil)) (own := [2])
    (ρ := [some (.str page), some (.str word), Option.none]) (ρ1 := [some (.str page), some (.str word), Option.none]) (f := fun (e : Nat) => Val.int (e : Int)) (l := List.range (page.length + 1)) (fun e => .int (rowV page word e))
    (by simp only [ok_bind, get_z, get_s, put_z, put_s, List.set_cons_zero, List.set_cons_succ, List.length_cons, List.length_nil, if_true, ev_var, ev_k, ev_g, ev_bin, ev_cmp, ev_cmp2, ev_neg, ev_not, ev_and, ev_or, ev_ite, ev_tup, ev_lst, ev_idx, ev_slc, ev_rev, ev_call, ev_repr, ev_mth, ev_mtc, evs_nil, evs_cons, evi_e, evi_rng, evi_enum, evi_zip, es_set, es_unp, es_par, es_sti, es_ex, es_ret, es_ret0, es_pass, es_brk, es_ifs, es_loop, ess_nil, ess_cons, orS_some, fill_nil, fill_cons, spill_nil, spill_cons, puts_nil, puts_cons, bT_var, done_next, done_ret, done_next1, done_ret1, eb_len, eb_abs, eb_int, eb_str, eb_list, eb_tuple, eb_dict, eb_sum, eb_min, eb_max, eb_any, eb_all, eb_sorted, eb_sortedSet, eb_lenSet, eb_listRange, eb_tupRange, eb_tupEnum, eb_tupZip, eb_listZip, eb_newDict, eb_newDicT, eb_isinst, es_aug, ev_mtl, ev_mtt, ev_mtq, ev_mtd, ev_alt, alt_ok, alt_stuck, eb_minD, eb_maxD, eb_sortedTxt, eb_sortedSetS, eb_sumL, eb_listTxt, len_s, add_i, r1]) (bigOf (by simp; omega)) rfl fun e he => ⟨_, rfl, rfl, rfl, by
      have he := List.mem_range.mp he
      simp only [wipe, List.set_cons_succ, List.set_cons_zero, ok_bind, get_z, get_s, put_z, put_s, List.set_cons_zero, List.set_cons_succ, List.length_cons, List.length_nil, if_true, ev_var, ev_k, ev_g, ev_bin, ev_cmp, ev_cmp2, ev_neg, ev_not, ev_and, ev_or, ev_ite, ev_tup, ev_lst, ev_idx, ev_slc, ev_rev, ev_call, ev_repr, ev_mth, ev_mtc, evs_nil, evs_cons, evi_e, evi_rng, evi_enum, evi_zip, es_set, es_unp, es_par, es_sti, es_ex, es_ret, es_ret0, es_pass, es_brk, es_ifs, es_loop, ess_nil, ess_cons, orS_some, fill_nil, fill_cons, spill_nil, spill_cons, puts_nil, puts_cons, bT_var, done_next, done_ret, done_next1, done_ret1, eb_len, eb_abs, eb_int, eb_str, eb_list, eb_tuple, eb_dict, eb_sum, eb_min, eb_max, eb_any, eb_all, eb_sorted, eb_sortedSet, eb_lenSet, eb_listRange, eb_tupRange, eb_tupEnum, eb_tupZip, eb_listZip, eb_newDict, eb_newDicT, eb_isinst, es_aug, ev_mtl, ev_mtt, ev_mtq, ev_mtd, ev_alt, alt_ok, alt_stuck, eb_minD, eb_maxD, eb_sortedTxt, eb_sortedSetS, eb_sumL, eb_listTxt, c24 (n := n) hl hw (show e ≤ page.length by omega), idx2_0]⟩
  simp only [d25, ok_bind, get_z, get_s, put_z, put_s, List.set_cons_zero, List.set_cons_succ, List.length_cons, List.length_nil, if_true, ev_var, ev_k, ev_g, ev_bin, ev_cmp, ev_cmp2, ev_neg, ev_not, ev_and, ev_or, ev_ite, ev_tup, ev_lst, ev_idx, ev_slc, ev_rev, ev_call, ev_repr, ev_mth, ev_mtc, evs_nil, evs_cons, evi_e, evi_rng, evi_enum, evi_zip, es_set, es_unp, es_par, es_sti, es_ex, es_ret, es_ret0, es_pass, es_brk, es_ifs, es_loop, ess_nil, ess_cons, orS_some, fill_nil, fill_cons, spill_nil, spill_cons, puts_nil, puts_cons, bT_var, done_next, done_ret, done_next1, done_ret1, eb_len, eb_abs, eb_int, eb_str, eb_list, eb_tuple, eb_dict, eb_sum, eb_min, eb_max, eb_any, eb_all, eb_sorted, eb_sortedSet, eb_lenSet, eb_listRange, eb_tupRange, eb_tupEnum, eb_tupZip, eb_listZip, eb_newDict, eb_newDicT, eb_isinst, es_aug, ev_mtl, ev_mtt, ev_mtq, ev_mtd, ev_alt, alt_ok, alt_stuck, eb_minD, eb_maxD, eb_sortedTxt, eb_sortedSetS, eb_sumL, eb_listTxt, l1]
  unfold rowL
  rw [List.map_map]
  rfl
def okv (page word : List Nat) (m : Int) (e : Nat) : Bool := decide (rowV page word e ≤ m)
def beg (page word : List Nat) (e : Nat) : Nat := e - K page word e
theorem c26 (hl : page.length ≤ 100) (hw : word.length ≤ 100) {m : Int} : callN P (n + 3) 26 [.str page, .str word, .int m] = .ok (.int (op (okv page word m) (beg page word) page.length), []) := by
  rw [callN_eq (ρ := [some (.str page), some (.str word), some (.int m), Option.none, Option.none, Option.none, Option.none, Option.none, Option.none, Option.none]) (d := d26) rfl rfl rfl]
  obtain ⟨ρ', el, a4, a5, a6, a7, a8, a9, rfl⟩ := loop_range (G := ⟨callN P (n + 2), P.con, P.rp, P.wh⟩) (t := lpT (sat d26.body 1)) (b := lpB (sat d26.body 1)) (a := 0) (n := page.length + 1)
    (fun i ρ => ∃ a4 a5 a6 a7 a8 a9, ρ = [some (.str page), some (.str word), some (.int m), some (.lst ((opL (okv page word m) (beg page word) i).map .int)), a4, a5, a6, a7, a8, a9])
    (ρ := [some (.str page), some (.str word), some (.int m), some (.lst (([] : List Int).map .int)), Option.none, Option.none, Option.none, Option.none, Option.none, Option.none]) ⟨_, _, _, _, _, _, rfl⟩ fun i ρ hi h => by
      obtain ⟨a4, a5, a6, a7, a8, a9, rfl⟩ := h
      have e24 := c24 (n := n) (page := page) (word := word) hl hw (e := i) (by omega)
      have hst := str_len (page := page) (e := i) (k := K page word i) (by omega) (K_le _ _ _)
      have hk := K_le page word i
      have ln := opL_len (okv page word m) (beg page word) i
      have ap : ∀ z, z = opv (opL (okv page word m) (beg page word) i) i (okv page word m i) (beg page word i) → mutate .append (.lst ((opL (okv page word m) (beg page word) i).map .int)) [.int z] = .ok (.lst ((opL (okv page word m) (beg page word) (i + 1)).map .int), .none) := fun z hz => by
        rw [app_i (by omega), hz]; rfl
      have bd : (i : Int) - (K page word i : Int) = (beg page word i : Nat) := sub_nat hk
      have hb : beg page word i ≤ i := Nat.sub_le _ _
      have av : ∀ (b5 b6 b7 b8 b9 : Option Val), evE ⟨callN P (n + 2), P.con, P.rp, P.wh⟩ (.ite (.cmp .gt (.var 4) (.k (Val.int 0))) (.idx (.var 3) (.neg (.k (Val.int 1)))) (.k (Val.int 0))) [some (.str page), some (.str word), some (.int m), some (.lst ((opL (okv page word m) (beg page word) i).map .int)), some (.int i), b5, b6, b7, b8, b9] =
          .ok (.int (if 0 < i then (opL (okv page word m) (beg page word) i).getD (i - 1) 0 else 0), [some (.str page), some (.str word), some (.int m), some (.lst ((opL (okv page word m) (beg page word) i).map .int)), some (.int i), b5, b6, b7, b8, b9]) := fun b5 b6 b7 b8 b9 => by
        by_cases h0 : 0 < i
        · have lr := last_row (xs := opL (okv page word m) (beg page word) i) (k := i - 1) (by omega)
          rw [if_pos h0]
          simp only [ok_bind, get_z, get_s, put_z, put_s, List.set_cons_zero, List.set_cons_succ, List.length_cons, List.length_nil, if_true, ev_var, ev_k, ev_g, ev_bin, ev_cmp, ev_cmp2, ev_neg, ev_not, ev_and, ev_or, ev_ite, ev_tup, ev_lst, ev_idx, ev_slc, ev_rev, ev_call, ev_repr, ev_mth, ev_mtc, evs_nil, evs_cons, evi_e, evi_rng, evi_enum, evi_zip, es_set, es_unp, es_par, es_sti, es_ex, es_ret, es_ret0, es_pass, es_brk, es_ifs, es_loop, ess_nil, ess_cons, orS_some, fill_nil, fill_cons, spill_nil, spill_cons, puts_nil, puts_cons, bT_var, done_next, done_ret, done_next1, done_ret1, eb_len, eb_abs, eb_int, eb_str, eb_list, eb_tuple, eb_dict, eb_sum, eb_min, eb_max, eb_any, eb_all, eb_sorted, eb_sortedSet, eb_lenSet, eb_listRange, eb_tupRange, eb_tupEnum, eb_tupZip, eb_listZip, eb_newDict, eb_newDicT, eb_isinst, es_aug, ev_mtl, ev_mtt, ev_mtq, ev_mtd, ev_alt, alt_ok, alt_stuck, eb_minD, eb_maxD, eb_sortedTxt, eb_sortedSetS, eb_sumL, eb_listTxt, gt_i, decide_eq_true (show (0 : Int) < i by omega), tru_b, lr]
        · rw [if_neg h0]
          simp only [ok_bind, get_z, get_s, put_z, put_s, List.set_cons_zero, List.set_cons_succ, List.length_cons, List.length_nil, if_true, ev_var, ev_k, ev_g, ev_bin, ev_cmp, ev_cmp2, ev_neg, ev_not, ev_and, ev_or, ev_ite, ev_tup, ev_lst, ev_idx, ev_slc, ev_rev, ev_call, ev_repr, ev_mth, ev_mtc, evs_nil, evs_cons, evi_e, evi_rng, evi_enum, evi_zip, es_set, es_unp, es_par, es_sti, es_ex, es_ret, es_ret0, es_pass, es_brk, es_ifs, es_loop, ess_nil, ess_cons, orS_some, fill_nil, fill_cons, spill_nil, spill_cons, puts_nil, puts_cons, bT_var, done_next, done_ret, done_next1, done_ret1, eb_len, eb_abs, eb_int, eb_str, eb_list, eb_tuple, eb_dict, eb_sum, eb_min, eb_max, eb_any, eb_all, eb_sorted, eb_sortedSet, eb_lenSet, eb_listRange, eb_tupRange, eb_tupEnum, eb_tupZip, eb_listZip, eb_newDict, eb_newDicT, eb_isinst, es_aug, ev_mtl, ev_mtt, ev_mtq, ev_mtd, ev_alt, alt_ok, alt_stuck, eb_minD, eb_maxD, eb_sortedTxt, eb_sortedSetS, eb_sumL, eb_listTxt, gt_i, decide_eq_false (show ¬ (0 : Int) < i by omega), tru_b, Bool.false_eq_true, if_false]
      simp only [d26, sat, lpT, lpB, bindT, bindTs, es_loop, es_set, ess_cons, ok_bind, orS_some, put_s, put_z, Int.zero_add, av, es_unp, ev_call, evs_cons, evs_nil, ev_var, get_s, get_z, fill_nil, e24, List.length_nil, if_true, spill_nil]
      generalize ha : (if 0 < i then (opL (okv page word m) (beg page word) i).getD (i - 1) 0 else 0) = A at *
      have ov : opv (opL (okv page word m) (beg page word) i) i (okv page word m i) (beg page word i) = if okv page word m i then (if (if beg page word i < i then (opL (okv page word m) (beg page word) i).getD (beg page word i) 0 else A) + 1 > A then (if beg page word i < i then (opL (okv page word m) (beg page word) i).getD (beg page word i) 0 else A) + 1 else A) else A := by
        unfold opv
        rw [ha]
      by_cases hv : rowV page word i ≤ m
      · have hv2 : okv page word m i = true := decide_eq_true hv
        rw [hv2, if_pos rfl] at ov
        by_cases hbk : beg page word i < i
        · have gb := getI (xs := opL (okv page word m) (beg page word) i) (i := beg page word i) (by omega)
          rw [if_pos hbk] at ov
          simp only [ok_bind, get_z, get_s, put_z, put_s, List.set_cons_zero, List.set_cons_succ, List.length_cons, List.length_nil, if_true, ev_var, ev_k, ev_g, ev_bin, ev_cmp, ev_cmp2, ev_neg, ev_not, ev_and, ev_or, ev_ite, ev_tup, ev_lst, ev_idx, ev_slc, ev_rev, ev_call, ev_repr, ev_mth, ev_mtc, evs_nil, evs_cons, evi_e, evi_rng, evi_enum, evi_zip, es_set, es_unp, es_par, es_sti, es_ex, es_ret, es_ret0, es_pass, es_brk, es_ifs, es_loop, ess_nil, ess_cons, orS_some, fill_nil, fill_cons, spill_nil, spill_cons, puts_nil, puts_cons, bT_var, done_next, done_ret, done_next1, done_ret1, eb_len, eb_abs, eb_int, eb_str, eb_list, eb_tuple, eb_dict, eb_sum, eb_min, eb_max, eb_any, eb_all, eb_sorted, eb_sortedSet, eb_lenSet, eb_listRange, eb_tupRange, eb_tupEnum, eb_tupZip, eb_listZip, eb_newDict, eb_newDicT, eb_isinst, es_aug, ev_mtl, ev_mtt, ev_mtq, ev_mtd, ev_alt, alt_ok, alt_stuck, eb_minD, eb_maxD, eb_sortedTxt, eb_sortedSetS, eb_sumL, eb_listTxt, le_i, decide_eq_true hv, tru_b, len_s, hst, sub_i, bd, lt_i, decide_eq_true (show ((beg page word i : Nat) : Int) < i by omega), gb, add_i, max2_i, isLst]
          rw [ap _ (by rw [hv2, ov])]
          simp only [ok_bind, get_z, get_s, put_z, put_s, List.set_cons_zero, List.set_cons_succ, List.length_cons, List.length_nil, if_true, ev_var, ev_k, ev_g, ev_bin, ev_cmp, ev_cmp2, ev_neg, ev_not, ev_and, ev_or, ev_ite, ev_tup, ev_lst, ev_idx, ev_slc, ev_rev, ev_call, ev_repr, ev_mth, ev_mtc, evs_nil, evs_cons, evi_e, evi_rng, evi_enum, evi_zip, es_set, es_unp, es_par, es_sti, es_ex, es_ret, es_ret0, es_pass, es_brk, es_ifs, es_loop, ess_nil, ess_cons, orS_some, fill_nil, fill_cons, spill_nil, spill_cons, puts_nil, puts_cons, bT_var, done_next, done_ret, done_next1, done_ret1, eb_len, eb_abs, eb_int, eb_str, eb_list, eb_tuple, eb_dict, eb_sum, eb_min, eb_max, eb_any, eb_all, eb_sorted, eb_sortedSet, eb_lenSet, eb_listRange, eb_tupRange, eb_tupEnum, eb_tupZip, eb_listZip, eb_newDict, eb_newDicT, eb_isinst, es_aug, ev_mtl, ev_mtt, ev_mtq, ev_mtd, ev_alt, alt_ok, alt_stuck, eb_minD, eb_maxD, eb_sortedTxt, eb_sortedSetS, eb_sumL, eb_listTxt]
          exact ⟨_, rfl, _, _, _, _, _, _, rfl⟩
        · rw [if_neg hbk] at ov
          simp only [ok_bind, get_z, get_s, put_z, put_s, List.set_cons_zero, List.set_cons_succ, List.length_cons, List.length_nil, if_true, ev_var, ev_k, ev_g, ev_bin, ev_cmp, ev_cmp2, ev_neg, ev_not, ev_and, ev_or, ev_ite, ev_tup, ev_lst, ev_idx, ev_slc, ev_rev, ev_call, ev_repr, ev_mth, ev_mtc, evs_nil, evs_cons, evi_e, evi_rng, evi_enum, evi_zip, es_set, es_unp, es_par, es_sti, es_ex, es_ret, es_ret0, es_pass, es_brk, es_ifs, es_loop, ess_nil, ess_cons, orS_some, fill_nil, fill_cons, spill_nil, spill_cons, puts_nil, puts_cons, bT_var, done_next, done_ret, done_next1, done_ret1, eb_len, eb_abs, eb_int, eb_str, eb_list, eb_tuple, eb_dict, eb_sum, eb_min, eb_max, eb_any, eb_all, eb_sorted, eb_sortedSet, eb_lenSet, eb_listRange, eb_tupRange, eb_tupEnum, eb_tupZip, eb_listZip, eb_newDict, eb_newDicT, eb_isinst, es_aug, ev_mtl, ev_mtt, ev_mtq, ev_mtd, ev_alt, alt_ok, alt_stuck, eb_minD, eb_maxD, eb_sortedTxt, eb_sortedSetS, eb_sumL, eb_listTxt, le_i, decide_eq_true hv, tru_b, len_s, hst, sub_i, bd, lt_i, decide_eq_false (show ¬ ((beg page word i : Nat) : Int) < i by omega), Bool.false_eq_true, if_false, add_i, max2_i, isLst]
          rw [ap _ (by rw [hv2, ov])]
          simp only [ok_bind, get_z, get_s, put_z, put_s, List.set_cons_zero, List.set_cons_succ, List.length_cons, List.length_nil, if_true, ev_var, ev_k, ev_g, ev_bin, ev_cmp, ev_cmp2, ev_neg, ev_not, ev_and, ev_or, ev_ite, ev_tup, ev_lst, ev_idx, ev_slc, ev_rev, ev_call, ev_repr, ev_mth, ev_mtc, evs_nil, evs_cons, evi_e, evi_rng, evi_enum, evi_zip, es_set, es_unp, es_par, es_sti, es_ex, es_ret, es_ret0, es_pass, es_brk, es_ifs, es_loop, ess_nil, ess_cons, orS_some, fill_nil, fill_cons, spill_nil, spill_cons, puts_nil, puts_cons, bT_var, done_next, done_ret, done_next1, done_ret1, eb_len, eb_abs, eb_int, eb_str, eb_list, eb_tuple, eb_dict, eb_sum, eb_min, eb_max, eb_any, eb_all, eb_sorted, eb_sortedSet, eb_lenSet, eb_listRange, eb_tupRange, eb_tupEnum, eb_tupZip, eb_listZip, eb_newDict, eb_newDicT, eb_isinst, es_aug, ev_mtl, ev_mtt, ev_mtq, ev_mtd, ev_alt, alt_ok, alt_stuck, eb_minD, eb_maxD, eb_sortedTxt, eb_sortedSetS, eb_sumL, eb_listTxt]
          exact ⟨_, rfl, _, _, _, _, _, _, rfl⟩
      · have hv2 : okv page word m i = false := decide_eq_false hv
        rw [hv2, if_neg Bool.false_ne_true] at ov
        simp only [ok_bind, get_z, get_s, put_z, put_s, List.set_cons_zero, List.set_cons_succ, List.length_cons, List.length_nil, if_true, ev_var, ev_k, ev_g, ev_bin, ev_cmp, ev_cmp2, ev_neg, ev_not, ev_and, ev_or, ev_ite, ev_tup, ev_lst, ev_idx, ev_slc, ev_rev, ev_call, ev_repr, ev_mth, ev_mtc, evs_nil, evs_cons, evi_e, evi_rng, evi_enum, evi_zip, es_set, es_unp, es_par, es_sti, es_ex, es_ret, es_ret0, es_pass, es_brk, es_ifs, es_loop, ess_nil, ess_cons, orS_some, fill_nil, fill_cons, spill_nil, spill_cons, puts_nil, puts_cons, bT_var, done_next, done_ret, done_next1, done_ret1, eb_len, eb_abs, eb_int, eb_str, eb_list, eb_tuple, eb_dict, eb_sum, eb_min, eb_max, eb_any, eb_all, eb_sorted, eb_sortedSet, eb_lenSet, eb_listRange, eb_tupRange, eb_tupEnum, eb_tupZip, eb_listZip, eb_newDict, eb_newDicT, eb_isinst, es_aug, ev_mtl, ev_mtt, ev_mtq, ev_mtd, ev_alt, alt_ok, alt_stuck, eb_minD, eb_maxD, eb_sortedTxt, eb_sortedSetS, eb_sumL, eb_listTxt, le_i, decide_eq_false hv, tru_b, Bool.false_eq_true, if_false, isLst]
        rw [ap _ (by rw [hv2, ov])]
        simp only [ok_bind, get_z, get_s, put_z, put_s, List.set_cons_zero, List.set_cons_succ, List.length_cons, List.length_nil, if_true, ev_var, ev_k, ev_g, ev_bin, ev_cmp, ev_cmp2, ev_neg, ev_not, ev_and, ev_or, ev_ite, ev_tup, ev_lst, ev_idx, ev_slc, ev_rev, ev_call, ev_repr, ev_mth, ev_mtc, evs_nil, evs_cons, evi_e, evi_rng, evi_enum, evi_zip, es_set, es_unp, es_par, es_sti, es_ex, es_ret, es_ret0, es_pass, es_brk, es_ifs, es_loop, ess_nil, ess_cons, orS_some, fill_nil, fill_cons, spill_nil, spill_cons, puts_nil, puts_cons, bT_var, done_next, done_ret, done_next1, done_ret1, eb_len, eb_abs, eb_int, eb_str, eb_list, eb_tuple, eb_dict, eb_sum, eb_min, eb_max, eb_any, eb_all, eb_sorted, eb_sortedSet, eb_lenSet, eb_listRange, eb_tupRange, eb_tupEnum, eb_tupZip, eb_listZip, eb_newDict, eb_newDicT, eb_isinst, es_aug, ev_mtl, ev_mtt, ev_mtq, ev_mtd, ev_alt, alt_ok, alt_stuck, eb_minD, eb_maxD, eb_sortedTxt, eb_sortedSetS, eb_sumL, eb_listTxt]
        exact ⟨_, rfl, _, _, _, _, _, _, rfl⟩
  have r1 := range1 (b := (page.length : Int) + 1) (lim_ofM (by omega) (by omega))
  rw [show ((page.length : Int) + 1).toNat = page.length + 1 by omega] at r1
  have gl := last_row (xs := opL (okv page word m) (beg page word) (page.length + 1)) (k := page.length) (opL_len _ _ _)
  rw [opL_get _ _ (by omega)] at gl
  simp only [d26, sat, lpT, lpB, List.map_nil] at el
  simp only [d26, ok_bind, get_z, get_s, put_z, put_s, List.set_cons_zero, List.set_cons_succ, List.length_cons, List.length_nil, if_true, ev_var, ev_k, ev_g, ev_bin, ev_cmp, ev_cmp2, ev_neg, ev_not, ev_and, ev_or, ev_ite, ev_tup, ev_lst, ev_idx, ev_slc, ev_rev, ev_call, ev_repr, ev_mth, ev_mtc, evs_nil, evs_cons, evi_e, evi_rng, evi_enum, evi_zip, es_set, es_unp, es_par, es_sti, es_ex, es_ret, es_ret0, es_pass, es_brk, es_ifs, es_loop, ess_nil, ess_cons, orS_some, fill_nil, fill_cons, spill_nil, spill_cons, puts_nil, puts_cons, bT_var, done_next, done_ret, done_next1, done_ret1, eb_len, eb_abs, eb_int, eb_str, eb_list, eb_tuple, eb_dict, eb_sum, eb_min, eb_max, eb_any, eb_all, eb_sorted, eb_sortedSet, eb_lenSet, eb_listRange, eb_tupRange, eb_tupEnum, eb_tupZip, eb_listZip, eb_newDict, eb_newDicT, eb_isinst, es_aug, ev_mtl, ev_mtt, ev_mtq, ev_mtd, ev_alt, alt_ok, alt_stuck, eb_minD, eb_maxD, eb_sortedTxt, eb_sortedSetS, eb_sumL, eb_listTxt, len_s, add_i, r1, el, gl]
theorem ends_filter (m : Int) : endsL page word m = (List.range (page.length + 1)).filter (okv page word m) := rfl
theorem c17 (h : PW page word) {m : Int} (h0 : 0 ≤ m) (h1 : m ≤ 12) : callN P (n + 6) 17 [.str page, .str word, .int m] = .ok (.int (op (okv page word m) (beg page word) page.length), []) := by
  have hp := h.hp
  have hw := h.w2
  rw [callN_eq (ρ := [some (.str page), some (.str word), some (.int m), Option.none, Option.none, Option.none, Option.none]) (d := d17) rfl rfl rfl]
  obtain ⟨ρ', el, a5, a6, rfl⟩ := loop_list (G := ⟨callN P (n + 5), P.con, P.rp, P.wh⟩) (t := lpT (sat d17.body 2)) (b := lpB (sat d17.body 2))
    (fun (e : Nat) => Val.int (e : Int)) (fun pre ρ => ∃ a5 a6, ρ = [some (.str page), some (.str word), some (.int m), some (.int (pre.foldl (gst (beg page word)) (0, 0)).1), some (.int ((pre.foldl (gst (beg page word)) (0, 0)).2 : Nat)), a5, a6]) (l := endsL page word m)
    (ρ := [some (.str page), some (.str word), some (.int m), some (.int 0), some (.int 0), Option.none, Option.none]) ⟨_, _, rfl⟩ fun pre e post ρ hq hρ => by
      obtain ⟨a5, a6, rfl⟩ := hρ
      have he : e ∈ endsL page word m := by rw [hq]; simp
      have he : e ≤ page.length := Nat.le_of_lt_succ (List.mem_range.mp (List.mem_filter.mp he).1)
      have hk := K_le page word e
      have bd : (e : Int) - (K page word e : Int) = (beg page word e : Nat) := sub_nat hk
      rw [List.foldl_append]
      show ∃ ρ', _ ∧ ∃ a5 a6, ρ' = [_, _, _, some (Val.int (gst (beg page word) (pre.foldl (gst (beg page word)) (0, 0)) e).1), some (Val.int ((gst (beg page word) (pre.foldl (gst (beg page word)) (0, 0)) e).2 : Nat)), a5, a6]
      generalize pre.foldl (gst (beg page word)) (0, 0) = st
      obtain ⟨F, l⟩ := st
      unfold gst
      by_cases hc : l ≤ beg page word e
      · rw [if_pos hc]
        simp only [d17, sat, lpT, lpB, bindT, bindTs, ok_bind, get_z, get_s, put_z, put_s, List.set_cons_zero, List.set_cons_succ, List.length_cons, List.length_nil, if_true, ev_var, ev_k, ev_g, ev_bin, ev_cmp, ev_cmp2, ev_neg, ev_not, ev_and, ev_or, ev_ite, ev_tup, ev_lst, ev_idx, ev_slc, ev_rev, ev_call, ev_repr, ev_mth, ev_mtc, evs_nil, evs_cons, evi_e, evi_rng, evi_enum, evi_zip, es_set, es_unp, es_par, es_sti, es_ex, es_ret, es_ret0, es_pass, es_brk, es_ifs, es_loop, ess_nil, ess_cons, orS_some, fill_nil, fill_cons, spill_nil, spill_cons, puts_nil, puts_cons, bT_var, done_next, done_ret, done_next1, done_ret1, eb_len, eb_abs, eb_int, eb_str, eb_list, eb_tuple, eb_dict, eb_sum, eb_min, eb_max, eb_any, eb_all, eb_sorted, eb_sortedSet, eb_lenSet, eb_listRange, eb_tupRange, eb_tupEnum, eb_tupZip, eb_listZip, eb_newDict, eb_newDicT, eb_isinst, es_aug, ev_mtl, ev_mtt, ev_mtq, ev_mtd, ev_alt, alt_ok, alt_stuck, eb_minD, eb_maxD, eb_sortedTxt, eb_sortedSetS, eb_sumL, eb_listTxt, c15 (n := n + 3) (page := page) (word := word) (by omega) (by omega) he, sub_i, bd, ge_i, decide_eq_true (show (l : Int) ≤ (beg page word e : Nat) by omega), tru_b, add_i]
        exact ⟨_, rfl, _, _, rfl⟩
      · rw [if_neg hc]
        simp only [d17, sat, lpT, lpB, bindT, bindTs, ok_bind, get_z, get_s, put_z, put_s, List.set_cons_zero, List.set_cons_succ, List.length_cons, List.length_nil, if_true, ev_var, ev_k, ev_g, ev_bin, ev_cmp, ev_cmp2, ev_neg, ev_not, ev_and, ev_or, ev_ite, ev_tup, ev_lst, ev_idx, ev_slc, ev_rev, ev_call, ev_repr, ev_mth, ev_mtc, evs_nil, evs_cons, evi_e, evi_rng, evi_enum, evi_zip, es_set, es_unp, es_par, es_sti, es_ex, es_ret, es_ret0, es_pass, es_brk, es_ifs, es_loop, ess_nil, ess_cons, orS_some, fill_nil, fill_cons, spill_nil, spill_cons, puts_nil, puts_cons, bT_var, done_next, done_ret, done_next1, done_ret1, eb_len, eb_abs, eb_int, eb_str, eb_list, eb_tuple, eb_dict, eb_sum, eb_min, eb_max, eb_any, eb_all, eb_sorted, eb_sortedSet, eb_lenSet, eb_listRange, eb_tupRange, eb_tupEnum, eb_tupZip, eb_listZip, eb_newDict, eb_newDicT, eb_isinst, es_aug, ev_mtl, ev_mtt, ev_mtq, ev_mtd, ev_alt, alt_ok, alt_stuck, eb_minD, eb_maxD, eb_sortedTxt, eb_sortedSetS, eb_sumL, eb_listTxt, c15 (n := n + 3) (page := page) (word := word) (by omega) (by omega) he, sub_i, bd, ge_i, decide_eq_false (show ¬ (l : Int) ≤ (beg page word e : Nat) by omega), tru_b, Bool.false_eq_true, if_false]
        exact ⟨_, rfl, _, _, rfl⟩
  have gi := (gr_inv (okv page word m) (beg page word) (fun k => Nat.sub_le _ _) (page.length + 1)).1
  have gi : ((endsL page word m).foldl (gst (beg page word)) (0, 0)).1 = op (okv page word m) (beg page word) page.length := gi
  rw [gi] at el
  simp only [d17, sat, lpT, lpB] at el
  simp only [d17, ok_bind, get_z, get_s, put_z, put_s, List.set_cons_zero, List.set_cons_succ, List.length_cons, List.length_nil, if_true, ev_var, ev_k, ev_g, ev_bin, ev_cmp, ev_cmp2, ev_neg, ev_not, ev_and, ev_or, ev_ite, ev_tup, ev_lst, ev_idx, ev_slc, ev_rev, ev_call, ev_repr, ev_mth, ev_mtc, evs_nil, evs_cons, evi_e, evi_rng, evi_enum, evi_zip, es_set, es_unp, es_par, es_sti, es_ex, es_ret, es_ret0, es_pass, es_brk, es_ifs, es_loop, ess_nil, ess_cons, orS_some, fill_nil, fill_cons, spill_nil, spill_cons, puts_nil, puts_cons, bT_var, done_next, done_ret, done_next1, done_ret1, eb_len, eb_abs, eb_int, eb_str, eb_list, eb_tuple, eb_dict, eb_sum, eb_min, eb_max, eb_any, eb_all, eb_sorted, eb_sortedSet, eb_lenSet, eb_listRange, eb_tupRange, eb_tupEnum, eb_tupZip, eb_listZip, eb_newDict, eb_newDicT, eb_isinst, es_aug, ev_mtl, ev_mtt, ev_mtq, ev_mtd, ev_alt, alt_ok, alt_stuck, eb_minD, eb_maxD, eb_sortedTxt, eb_sortedSetS, eb_sumL, eb_listTxt, c8 h h0 h1, c12 (n := n + 2) (page := page) (word := word) (by omega) (by omega), walked, intsN, el]
end
end K18
namespace K18
open MP ME
section
variable {n : Nat} {s t page word : List Nat}
theorem drawS (n : Nat) : DrawS P (n + 1) 19 := fun h m hh hm hm2 => draw_ok (P := P) (f := 19) (n := n) (x := .bin .mul (.var 2) (.k (Val.int 40692))) (A := 69621) (B := 439) (M := 2147483629) (K := 7919) (C1 := 48271) (M1 := 2147483647) (D1 := 1009) (E1 := 69621) (M2 := 2147483647) (D2 := 2003) (E2 := 40014) (M3 := 2147483563) rfl (by decide +kernel)
  (fun G a m cell p q => ⟨cell * 40692, by simp only [ok_bind, get_z, get_s, put_z, put_s, List.set_cons_zero, List.set_cons_succ, List.length_cons, List.length_nil, if_true, ev_var, ev_k, ev_g, ev_bin, ev_cmp, ev_cmp2, ev_neg, ev_not, ev_and, ev_or, ev_ite, ev_tup, ev_lst, ev_idx, ev_slc, ev_rev, ev_call, ev_repr, ev_mth, ev_mtc, evs_nil, evs_cons, evi_e, evi_rng, evi_enum, evi_zip, es_set, es_unp, es_par, es_sti, es_ex, es_ret, es_ret0, es_pass, es_brk, es_ifs, es_loop, ess_nil, ess_cons, orS_some, fill_nil, fill_cons, spill_nil, spill_cons, puts_nil, puts_cons, bT_var, done_next, done_ret, done_next1, done_ret1, eb_len, eb_abs, eb_int, eb_str, eb_list, eb_tuple, eb_dict, eb_sum, eb_min, eb_max, eb_any, eb_all, eb_sorted, eb_sortedSet, eb_lenSet, eb_listRange, eb_tupRange, eb_tupEnum, eb_tupZip, eb_listZip, eb_newDict, eb_newDicT, eb_isinst, es_aug, ev_mtl, ev_mtt, ev_mtq, ev_mtd, ev_alt, alt_ok, alt_stuck, eb_minD, eb_maxD, eb_sortedTxt, eb_sortedSetS, eb_sumL, eb_listTxt, mul_r (show small64 40692 = true by decide)]⟩) hh hm hm2
theorem c21 {v : Val} (h : repOk v = true) : callN P (n + 1) 21 [v, v] = .ok (.bool true, []) := by
  rw [callN_eq (ρ := [some v, some v]) (d := d21) rfl rfl rfl]
  have e : cmp .eq (.txt (P.rp v)) (.txt (P.rp v)) = .ok (.bool true) := by
    show Res.ok (Val.bool (P.rp v == P.rp v)) = _
    rw [beq_self_eq_true]
  simp only [d21, ok_bind, get_z, get_s, put_z, put_s, List.set_cons_zero, List.set_cons_succ, List.length_cons, List.length_nil, if_true, ev_var, ev_k, ev_g, ev_bin, ev_cmp, ev_cmp2, ev_neg, ev_not, ev_and, ev_or, ev_ite, ev_tup, ev_lst, ev_idx, ev_slc, ev_rev, ev_call, ev_repr, ev_mth, ev_mtc, evs_nil, evs_cons, evi_e, evi_rng, evi_enum, evi_zip, es_set, es_unp, es_par, es_sti, es_ex, es_ret, es_ret0, es_pass, es_brk, es_ifs, es_loop, ess_nil, ess_cons, orS_some, fill_nil, fill_cons, spill_nil, spill_cons, puts_nil, puts_cons, bT_var, done_next, done_ret, done_next1, done_ret1, eb_len, eb_abs, eb_int, eb_str, eb_list, eb_tuple, eb_dict, eb_sum, eb_min, eb_max, eb_any, eb_all, eb_sorted, eb_sortedSet, eb_lenSet, eb_listRange, eb_tupRange, eb_tupEnum, eb_tupZip, eb_listZip, eb_newDict, eb_newDicT, eb_isinst, es_aug, ev_mtl, ev_mtt, ev_mtq, ev_mtd, ev_alt, alt_ok, alt_stuck, eb_minD, eb_maxD, eb_sortedTxt, eb_sortedSetS, eb_sumL, eb_listTxt, h, e]
theorem rep_ints {l : List Int} (h : ∀ x ∈ l, -1000000 ≤ x ∧ x ≤ 1000000) (hl : l.length ≤ 1000) : repOk (.tup (l.map .int)) = true := by
  unfold repOk
  have a : shp 60 (.tup (l.map Val.int)) = true := shps_map (n := 59) fun x _ => shp_int
  have b : ints12 (.tup (l.map Val.int)) = true := ints12s_map fun x hx => by
    have := h x hx
    show (decide (-1000000000000 < x) && decide (x < 1000000000000)) = true
    rw [decide_eq_true (by omega), decide_eq_true (by omega)]; rfl
  have c : wgts (l.map Val.int) ≤ l.length * 41 := wgts_map (c := 40) fun x _ => Nat.le_refl _
  rw [a, b]
  have c : wgt (.tup (l.map Val.int)) ≤ l.length * 41 := c
  exact decide_eq_true (by omega)
theorem rep_str {s : List Nat} (h : s.length ≤ 1000) : repOk (.str s) = true := by
  unfold repOk
  have a : wgt (.str s) ≤ 1000 := h
  show (true && true && _) = true
  exact decide_eq_true (by omega)
theorem rep_int {x : Int} (h : -1000000 ≤ x ∧ x ≤ 1000000) : repOk (.int x) = true := by
  unfold repOk
  have b : ints12 (.int x) = true := by
    show (decide (-1000000000000 < x) && decide (x < 1000000000000)) = true
    rw [decide_eq_true (by omega), decide_eq_true (by omega)]; rfl
  rw [b]
  show (true && true && _) = true
  exact decide_eq_true (by show 40 ≤ 1048576; decide)
theorem row_bd (e : Nat) : 0 ≤ rowV page word e ∧ rowV page word e ≤ word.length := by
  constructor
  · unfold rowV
    obtain ⟨k, _, hk⟩ := sl_some _ (page.take e).reverse word.reverse (Nat.le_refl _)
    have := lev_pos (s := s1) (w := 1) s1_pos (by decide) _ ((page.take e).reverse.take k) word.reverse (Nat.le_refl _)
    unfold L at hk
    omega
  · have := sl_len (page.take e).reverse word.reverse
    rw [List.length_reverse] at this
    exact this
theorem rowL_bd {k : Nat} (hw : word.length ≤ 100) : ∀ x ∈ rowL page word k, -1000000 ≤ x ∧ x ≤ 1000000 := fun x hx => by
  obtain ⟨e, _, rfl⟩ := List.mem_map.mp hx
  have := row_bd (page := page) (word := word) e
  omega
theorem op_bd (v : Nat → Bool) (bg : Nat → Nat) (hb : ∀ k, bg k ≤ k) : ∀ (n k : Nat), k < n → 0 ≤ op v bg k ∧ op v bg k ≤ k + 1
  | n + 1, k, h => by
    have e := op_eq v bg k (hb k)
    have om : 0 ≤ opm v bg k ∧ opm v bg k ≤ k := by
      unfold opm
      split
      · have := op_bd v bg hb n (k - 1) (by omega)
        omega
      · omega
    rw [e]
    split
    · split
      · have := op_bd v bg hb n (bg k) (by omega)
        omega
      · omega
    · omega
theorem zipRow (k : Nat) : (rowL page word (k + 1)).zip ((rowL page word (k + 1)).drop 1) = (List.range k).map fun e => (rowV page word e, rowV page word (e + 1)) := by
  refine List.ext_getElem ?_ fun i h1 h2 => ?_
  · rw [List.length_zip, List.length_drop, rowL_len, List.length_map, List.length_range]; omega
  · rw [List.getElem_zip, List.getElem_map, List.getElem_range, List.getElem_drop]
    unfold rowL
    rw [List.getElem_map, List.getElem_map, List.getElem_range, List.getElem_range, Nat.add_comm 1 i]
theorem ends_ints (m : Int) : intsN (endsL page word m) = ((endsL page word m).map fun (e : Nat) => (e : Int)).map Val.int := by
  unfold intsN
  rw [List.map_map]; rfl
theorem ends_bd (m : Int) (hp : page.length ≤ 100) : (∀ x ∈ (endsL page word m).map (fun (e : Nat) => (e : Int)), -1000000 ≤ x ∧ x ≤ 1000000) ∧ ((endsL page word m).map fun (e : Nat) => (e : Int)).length ≤ 1000 := by
  constructor
  · intro x hx
    obtain ⟨e, he, rfl⟩ := List.mem_map.mp hx
    have := List.mem_range.mp (List.mem_filter.mp he).1
    omega
  · rw [List.length_map]
    have := List.length_filter_le (fun e => decide (rowV page word e ≤ m)) (List.range (page.length + 1))
    rw [List.length_range] at this
    unfold endsL
    omega
theorem c27 {h : Val} (hh : Hand h) (pw : PW page word) : ∃ h', callN P (n + 7) 27 [h, .str page, .str word] = .ok (.bool true, [h']) ∧ Hand h' := by
  have hp := pw.hp
  have hw := pw.w2
  rw [callN_eq (ρ := [some h, some (.str page), some (.str word), Option.none, Option.none, Option.none, Option.none, Option.none, Option.none, Option.none]) (d := d27) rfl rfl rfl]
  obtain ⟨m, j, m1, m2, m3, m4, m5⟩ := best_ex (page := page) (word := word) page.length
  obtain ⟨r, h', ed, r0, r1, hh'⟩ := drawS (n + 5) h 13 hh (by decide) (by decide)
  have q1 := c21 (n := n + 5) (rep_ints (l := rowL page word (page.length + 1)) (rowL_bd (by omega)) (by rw [rowL_len]; omega))
  have q2 := c21 (n := n + 5) (v := .tup [.int m, .int j]) (rep_ints (l := [m, (j : Int)]) (fun x hx => by
    simp only [List.mem_cons, List.not_mem_nil, or_false] at hx
    rcases hx with rfl | rfl <;> omega) (by simp))
  have sd := slc_lst_from (vs := (rowL page word (page.length + 1)).map Val.int) (a := 1)
  have zl : pairUp ((rowL page word (page.length + 1)).map Val.int) (((rowL page word (page.length + 1)).map Val.int).drop 1) = (List.range page.length).map fun e => Val.tup [.int (rowV page word e), .int (rowV page word (e + 1))] := by
    unfold pairUp
    rw [← List.map_drop, List.zip_map, zipRow, List.map_map, List.map_map]
    rfl
  have la := lc_all (G := ⟨callN P (n + 6), P.con, P.rp, P.wh⟩) (elt := .cmp .lt (.blt .abs (.cons (.bin .sub (.var 4) (.var 5)) .nil)) (.k (Val.int 2))) (t := .tup [(.var 4), (.var 5)]) (it := .zip (.var 3) (.slc (.var 3) (.k (Val.int 1)) (.k .none))) (own := [4, 5])
    (ρ := [some h, some (.str page), some (.str word), some (.lst ((rowL page word (page.length + 1)).map .int)), Option.none, Option.none, Option.none, Option.none, Option.none, Option.none]) (ρ1 := [some h, some (.str page), some (.str word), some (.lst ((rowL page word (page.length + 1)).map .int)), Option.none, Option.none, Option.none, Option.none, Option.none, Option.none])
    (f := fun e => Val.tup [.int (rowV page word e), .int (rowV page word (e + 1))]) (l := List.range page.length) (fun _ => Val.bool true) (by
      have sd : slc (.lst ((rowL page word (page.length + 1)).map Val.int)) (.int 1) .none = _ := sd
      simp only [ok_bind, get_z, get_s, put_z, put_s, List.set_cons_zero, List.set_cons_succ, List.length_cons, List.length_nil, if_true, ev_var, ev_k, ev_g, ev_bin, ev_cmp, ev_cmp2, ev_neg, ev_not, ev_and, ev_or, ev_ite, ev_tup, ev_lst, ev_idx, ev_slc, ev_rev, ev_call, ev_repr, ev_mth, ev_mtc, evs_nil, evs_cons, evi_e, evi_rng, evi_enum, evi_zip, es_set, es_unp, es_par, es_sti, es_ex, es_ret, es_ret0, es_pass, es_brk, es_ifs, es_loop, ess_nil, ess_cons, orS_some, fill_nil, fill_cons, spill_nil, spill_cons, puts_nil, puts_cons, bT_var, done_next, done_ret, done_next1, done_ret1, eb_len, eb_abs, eb_int, eb_str, eb_list, eb_tuple, eb_dict, eb_sum, eb_min, eb_max, eb_any, eb_all, eb_sorted, eb_sortedSet, eb_lenSet, eb_listRange, eb_tupRange, eb_tupEnum, eb_tupZip, eb_listZip, eb_newDict, eb_newDicT, eb_isinst, es_aug, ev_mtl, ev_mtt, ev_mtq, ev_mtd, ev_alt, alt_ok, alt_stuck, eb_minD, eb_maxD, eb_sortedTxt, eb_sortedSetS, eb_sumL, eb_listTxt, okp_int, sd, zipped, walked, zl]) (bigOf (by simp; omega)) rfl fun e he => ⟨_, rfl, rfl, rfl, by
      have := rowV_step (page := page) (word := word) (e := e) (List.mem_range.mp he)
      have av2 : av (rowV page word e - rowV page word (e + 1)) < 2 := by unfold av; split <;> omega
      simp only [wipe, List.set_cons_succ, List.set_cons_zero, ok_bind, get_z, get_s, put_z, put_s, List.set_cons_zero, List.set_cons_succ, List.length_cons, List.length_nil, if_true, ev_var, ev_k, ev_g, ev_bin, ev_cmp, ev_cmp2, ev_neg, ev_not, ev_and, ev_or, ev_ite, ev_tup, ev_lst, ev_idx, ev_slc, ev_rev, ev_call, ev_repr, ev_mth, ev_mtc, evs_nil, evs_cons, evi_e, evi_rng, evi_enum, evi_zip, es_set, es_unp, es_par, es_sti, es_ex, es_ret, es_ret0, es_pass, es_brk, es_ifs, es_loop, ess_nil, ess_cons, orS_some, fill_nil, fill_cons, spill_nil, spill_cons, puts_nil, puts_cons, bT_var, done_next, done_ret, done_next1, done_ret1, eb_len, eb_abs, eb_int, eb_str, eb_list, eb_tuple, eb_dict, eb_sum, eb_min, eb_max, eb_any, eb_all, eb_sorted, eb_sortedSet, eb_lenSet, eb_listRange, eb_tupRange, eb_tupEnum, eb_tupZip, eb_listZip, eb_newDict, eb_newDicT, eb_isinst, es_aug, ev_mtl, ev_mtt, ev_mtq, ev_mtd, ev_alt, alt_ok, alt_stuck, eb_minD, eb_maxD, eb_sortedTxt, eb_sortedSetS, eb_sumL, eb_listTxt, sub_i, abs_i, lt_i, decide_eq_true av2]⟩
  obtain ⟨ρ', e1, a6, rfl⟩ := loop_range (G := ⟨callN P (n + 6), P.con, P.rp, P.wh⟩) (t := lpT (sat d27.body 4)) (b := lpB (sat d27.body 4)) (a := 0) (n := page.length + 1)
    (fun i ρ => ∃ a6, ρ = [some h, some (.str page), some (.str word), some (.lst ((rowL page word (page.length + 1)).map .int)), Option.none, Option.none, a6, Option.none, Option.none, Option.none])
    (ρ := [some h, some (.str page), some (.str word), some (.lst ((rowL page word (page.length + 1)).map .int)), Option.none, Option.none, Option.none, Option.none, Option.none, Option.none]) ⟨_, rfl⟩ fun i ρ hi hρ => by
      obtain ⟨a6, rfl⟩ := hρ
      have e16 := c16 (n := n + 1) pw (e := i) (by omega)
      have e24 := c24 (n := n + 4) (page := page) (word := word) (by omega) (by omega) (e := i) (by omega)
      have hst := str_len (page := page) (e := i) (k := K page word i) (by omega) (K_le _ _ _)
      have hk := K_le page word i
      have q := c21 (n := n + 5) (rep_str (s := str page i (K page word i)) (by omega))
      simp only [d27, sat, lpT, lpB, bindT, bindTs, ok_bind, get_z, get_s, put_z, put_s, List.set_cons_zero, List.set_cons_succ, List.length_cons, List.length_nil, if_true, ev_var, ev_k, ev_g, ev_bin, ev_cmp, ev_cmp2, ev_neg, ev_not, ev_and, ev_or, ev_ite, ev_tup, ev_lst, ev_idx, ev_slc, ev_rev, ev_call, ev_repr, ev_mth, ev_mtc, evs_nil, evs_cons, evi_e, evi_rng, evi_enum, evi_zip, es_set, es_unp, es_par, es_sti, es_ex, es_ret, es_ret0, es_pass, es_brk, es_ifs, es_loop, ess_nil, ess_cons, orS_some, fill_nil, fill_cons, spill_nil, spill_cons, puts_nil, puts_cons, bT_var, done_next, done_ret, done_next1, done_ret1, eb_len, eb_abs, eb_int, eb_str, eb_list, eb_tuple, eb_dict, eb_sum, eb_min, eb_max, eb_any, eb_all, eb_sorted, eb_sortedSet, eb_lenSet, eb_listRange, eb_tupRange, eb_tupEnum, eb_tupZip, eb_listZip, eb_newDict, eb_newDicT, eb_isinst, es_aug, ev_mtl, ev_mtt, ev_mtq, ev_mtd, ev_alt, alt_ok, alt_stuck, eb_minD, eb_maxD, eb_sortedTxt, eb_sortedSetS, eb_sumL, eb_listTxt, Int.zero_add, e16, e24, idx2_1, q, tru_b, Bool.not_true, Bool.false_eq_true, if_false]
      exact ⟨_, rfl, _, rfl⟩
  obtain ⟨ρ', e2, a6, a7, a8, rfl⟩ := loop_list (G := ⟨callN P (n + 6), P.con, P.rp, P.wh⟩) (t := lpT (sat d27.body 5)) (b := lpB (sat d27.body 5))
    Val.int (fun pre ρ => ∃ a6 a7 a8, ρ = [some h', some (.str page), some (.str word), some (.lst ((rowL page word (page.length + 1)).map .int)), Option.none, Option.none, a6, a7, a8, Option.none]) (l := [0, 1, r])
    (ρ := [some h', some (.str page), some (.str word), some (.lst ((rowL page word (page.length + 1)).map .int)), Option.none, Option.none, a6, Option.none, Option.none, Option.none]) ⟨_, _, _, rfl⟩ fun pre m post ρ hq hρ => by
      obtain ⟨a6, a7, a8, rfl⟩ := hρ
      have hm : m ∈ [0, 1, r] := by rw [hq]; simp
      simp only [List.mem_cons, List.not_mem_nil, or_false] at hm
      have m0 : 0 ≤ m ∧ m ≤ 12 := by rcases hm with rfl | rfl | rfl <;> omega
      have e13 := c13 (n := n) pw m0.1 m0.2
      have e17 := c17 (n := n) pw m0.1 m0.2
      have e26 := c26 (n := n + 3) (page := page) (word := word) (by omega) (by omega) (m := m)
      have ob := op_bd (okv page word m) (beg page word) (fun k => Nat.sub_le _ _) _ page.length (Nat.lt_succ_self _)
      obtain ⟨b1, b2⟩ := ends_bd (page := page) (word := word) m (by omega)
      have q3 := c21 (n := n + 5) (rep_ints b1 b2)
      rw [← ends_ints] at q3
      have q4 := c21 (n := n + 5) (rep_int (x := op (okv page word m) (beg page word) page.length) (by omega))
      have lc := lc_ok (G := ⟨callN P (n + 6), P.con, P.rp, P.wh⟩) (elt := .var 6) (t := .tup [(.var 6), (.var 9)]) (it := .enum (.var 3)) (c := .cmp .le (.var 9) (.var 7)) (own := [6, 9])
        (ρ := [some h', some (.str page), some (.str word), some (.lst ((rowL page word (page.length + 1)).map .int)), Option.none, Option.none, a6, some (.int m), a8, Option.none]) (ρ1 := [some h', some (.str page), some (.str word), some (.lst ((rowL page word (page.length + 1)).map .int)), Option.none, Option.none, a6, some (.int m), a8, Option.none])
        (f := fun (e : Nat) => Val.tup [.int (e : Int), .int (rowV page word e)]) (l := List.range (page.length + 1)) (fun e => decide (rowV page word e ≤ m)) (fun (e : Nat) => .int (e : Int))
        (by simp only [ok_bind, get_z, get_s, put_z, put_s, List.set_cons_zero, List.set_cons_succ, List.length_cons, List.length_nil, if_true, ev_var, ev_k, ev_g, ev_bin, ev_cmp, ev_cmp2, ev_neg, ev_not, ev_and, ev_or, ev_ite, ev_tup, ev_lst, ev_idx, ev_slc, ev_rev, ev_call, ev_repr, ev_mth, ev_mtc, evs_nil, evs_cons, evi_e, evi_rng, evi_enum, evi_zip, es_set, es_unp, es_par, es_sti, es_ex, es_ret, es_ret0, es_pass, es_brk, es_ifs, es_loop, ess_nil, ess_cons, orS_some, fill_nil, fill_cons, spill_nil, spill_cons, puts_nil, puts_cons, bT_var, done_next, done_ret, done_next1, done_ret1, eb_len, eb_abs, eb_int, eb_str, eb_list, eb_tuple, eb_dict, eb_sum, eb_min, eb_max, eb_any, eb_all, eb_sorted, eb_sortedSet, eb_lenSet, eb_listRange, eb_tupRange, eb_tupEnum, eb_tupZip, eb_listZip, eb_newDict, eb_newDicT, eb_isinst, es_aug, ev_mtl, ev_mtt, ev_mtq, ev_mtd, ev_alt, alt_ok, alt_stuck, eb_minD, eb_maxD, eb_sortedTxt, eb_sortedSetS, eb_sumL, eb_listTxt, enumd, walked, enumRow]) (bigOf (by simp; omega)) (by simp only [back, List.getD_cons_succ, List.getD_cons_zero, List.set_cons_succ, List.set_cons_zero]) fun e he => ⟨_, rfl, rfl, (by simp only [bindTs, bindT, wipe, put, back, List.getD_cons_succ, List.getD_cons_zero, List.set_cons_succ, List.set_cons_zero]), rfl, fun _ => rfl⟩
      have le : ((List.range (page.length + 1)).filter fun e => decide (rowV page word e ≤ m)).map (fun (e : Nat) => Val.int (e : Int)) = intsN (endsL page word m) := rfl
      rw [le] at lc
      simp only [d27, sat, lpT, lpB, bindT, bindTs, ok_bind, get_z, get_s, put_z, put_s, List.set_cons_zero, List.set_cons_succ, List.length_cons, List.length_nil, if_true, ev_var, ev_k, ev_g, ev_bin, ev_cmp, ev_cmp2, ev_neg, ev_not, ev_and, ev_or, ev_ite, ev_tup, ev_lst, ev_idx, ev_slc, ev_rev, ev_call, ev_repr, ev_mth, ev_mtc, evs_nil, evs_cons, evi_e, evi_rng, evi_enum, evi_zip, es_set, es_unp, es_par, es_sti, es_ex, es_ret, es_ret0, es_pass, es_brk, es_ifs, es_loop, ess_nil, ess_cons, orS_some, fill_nil, fill_cons, spill_nil, spill_cons, puts_nil, puts_cons, bT_var, done_next, done_ret, done_next1, done_ret1, eb_len, eb_abs, eb_int, eb_str, eb_list, eb_tuple, eb_dict, eb_sum, eb_min, eb_max, eb_any, eb_all, eb_sorted, eb_sortedSet, eb_lenSet, eb_listRange, eb_tupRange, eb_tupEnum, eb_tupZip, eb_listZip, eb_newDict, eb_newDicT, eb_isinst, es_aug, ev_mtl, ev_mtt, ev_mtq, ev_mtd, ev_alt, alt_ok, alt_stuck, eb_minD, eb_maxD, eb_sortedTxt, eb_sortedSetS, eb_sumL, eb_listTxt, lc, tuple_l, e13, q3, e17, e26, q4, tru_b, Bool.not_true, Bool.false_eq_true, if_false]
      exact ⟨_, rfl, _, _, _, rfl⟩
  have rr := range1 (b := (page.length : Int) + 1) (lim_ofM (by omega) (by omega))
  rw [show ((page.length : Int) + 1).toNat = page.length + 1 by omega] at rr
  have l3 : [Val.int 0, Val.int 1, Val.int r] = [0, 1, r].map Val.int := rfl
  refine ⟨h', ?_, hh'⟩
  simp only [d27, sat, lpT, lpB] at e1 e2
  rw [← l3] at e2
  simp only [d27, ok_bind, get_z, get_s, put_z, put_s, List.set_cons_zero, List.set_cons_succ, List.length_cons, List.length_nil, if_true, ev_var, ev_k, ev_g, ev_bin, ev_cmp, ev_cmp2, ev_neg, ev_not, ev_and, ev_or, ev_ite, ev_tup, ev_lst, ev_idx, ev_slc, ev_rev, ev_call, ev_repr, ev_mth, ev_mtc, evs_nil, evs_cons, evi_e, evi_rng, evi_enum, evi_zip, es_set, es_unp, es_par, es_sti, es_ex, es_ret, es_ret0, es_pass, es_brk, es_ifs, es_loop, ess_nil, ess_cons, orS_some, fill_nil, fill_cons, spill_nil, spill_cons, puts_nil, puts_cons, bT_var, done_next, done_ret, done_next1, done_ret1, eb_len, eb_abs, eb_int, eb_str, eb_list, eb_tuple, eb_dict, eb_sum, eb_min, eb_max, eb_any, eb_all, eb_sorted, eb_sortedSet, eb_lenSet, eb_listRange, eb_tupRange, eb_tupEnum, eb_tupZip, eb_listZip, eb_newDict, eb_newDicT, eb_isinst, es_aug, ev_mtl, ev_mtt, ev_mtq, ev_mtd, ev_alt, alt_ok, alt_stuck, eb_minD, eb_maxD, eb_sortedTxt, eb_sortedSetS, eb_sumL, eb_listTxt, c25 (n := n + 3) (page := page) (word := word) (by omega) (by omega), c11 (n := n + 1) pw, tuple_l, q1, tru_b, Bool.not_true, Bool.false_eq_true, if_false, la, all_true, c14 (n := n + 1) pw m1 m2, m1, isLst, m2, q2, len_s, add_i, rr, e1, ed, walked, e2]
/-! ### drawn pages -/
theorem c22 {h : Val} (hh : Hand h) {m : Nat} (hm2 : m ≤ 50) : ∃ t h', callN P (n + 3) 22 [h, .int m] = .ok (.str t, [h']) ∧ Lets t ∧ t.length ≤ m ∧ Hand h' := by
  rw [callN_eq (ρ := [some h, some (.int m), Option.none, Option.none]) (d := d22) rfl rfl rfl]
  obtain ⟨v, h1, e1, hv, hh1⟩ := some_lst (P := P) (n := n + 1) (g := 20) (f := 19) rfl (drawS n) hh (vs := [.str [97, 98], .str [97, 98, 99], .str [97, 98, 99, 100]]) (by simp) (by simp)
  have hv : ∃ l, v = .str l ∧ l ≠ [] ∧ l.length < 100 ∧ Lets l := by
    simp only [List.mem_cons, List.not_mem_nil, or_false] at hv
    rcases hv with rfl | rfl | rfl <;> exact ⟨_, rfl, by simp, by simp, lets_by (by decide)⟩
  obtain ⟨l, rfl, k1, k2, k3⟩ := hv
  obtain ⟨r, h2, e2, r0, r1, hh2⟩ := drawS (n + 1) h1 ((m : Int) + 1) hh1 (by omega) (by omega)
  obtain ⟨vs, ρ', e3, ⟨h3, z, hh3, rfl⟩, hl3, hv3⟩ := lc_eff (G := ⟨callN P (n + 2), P.con, P.rp, P.wh⟩) (elt := .call 20 (.cons (.var 0) (.cons (.blt .listTxt (.cons (.var 2) .nil)) .nil)) [(0, 0)]) (t := .var 3) (it := .rng (.cons (.call 19 (.cons (.var 0) (.cons (.bin .add (.var 1) (.k (Val.int 1))) .nil)) [(0, 0)]) .nil)) (own := [3])
    (ρ := [some h1, some (.int m), some (.str l), Option.none]) (ρ1 := [some h2, some (.int m), some (.str l), Option.none]) (l := rngL 0 r.toNat)
    (fun ρ => ∃ h z, Hand h ∧ ρ = [some h, some (.int m), some (.str l), z]) (fun v => ∃ c, v = .str [c] ∧ (97 ≤ c ∧ c < 123))
    (by simp only [ok_bind, get_z, get_s, put_z, put_s, List.set_cons_zero, List.set_cons_succ, List.length_cons, List.length_nil, if_true, ev_var, ev_k, ev_g, ev_bin, ev_cmp, ev_cmp2, ev_neg, ev_not, ev_and, ev_or, ev_ite, ev_tup, ev_lst, ev_idx, ev_slc, ev_rev, ev_call, ev_repr, ev_mth, ev_mtc, evs_nil, evs_cons, evi_e, evi_rng, evi_enum, evi_zip, es_set, es_unp, es_par, es_sti, es_ex, es_ret, es_ret0, es_pass, es_brk, es_ifs, es_loop, ess_nil, ess_cons, orS_some, fill_nil, fill_cons, spill_nil, spill_cons, puts_nil, puts_cons, bT_var, done_next, done_ret, done_next1, done_ret1, eb_len, eb_abs, eb_int, eb_str, eb_list, eb_tuple, eb_dict, eb_sum, eb_min, eb_max, eb_any, eb_all, eb_sorted, eb_sortedSet, eb_lenSet, eb_listRange, eb_tupRange, eb_tupEnum, eb_tupZip, eb_listZip, eb_newDict, eb_newDicT, eb_isinst, es_aug, ev_mtl, ev_mtt, ev_mtq, ev_mtd, ev_alt, alt_ok, alt_stuck, eb_minD, eb_maxD, eb_sortedTxt, eb_sortedSetS, eb_sumL, eb_listTxt, add_i, e2, range1 (lim_ofM (show -1000000000 ≤ r by omega) (by omega))]) (by simp [rngL]; unfold big; omega) ⟨_, _, hh2, rfl⟩ fun x hx ρ hρ => by
      obtain ⟨h, z, hh, rfl⟩ := hρ
      obtain ⟨u, h', e, hu, hh'⟩ := some_lst (P := P) (n := n + 1) (g := 20) (f := 19) rfl (drawS n) hh (vs := l.map fun c => Val.str [c]) (by simpa using k1) (by simp; omega)
      obtain ⟨c, hc, rfl⟩ := List.mem_map.mp hu
      refine ⟨_, _, [some h', some (.int m), some (.str l), some x], rfl, ?_, ⟨c, rfl, k3 c hc⟩, h', _, hh', rfl⟩
      simp only [wipe, List.set_cons_succ, List.set_cons_zero, ok_bind, get_z, get_s, put_z, put_s, List.set_cons_zero, List.set_cons_succ, List.length_cons, List.length_nil, if_true, ev_var, ev_k, ev_g, ev_bin, ev_cmp, ev_cmp2, ev_neg, ev_not, ev_and, ev_or, ev_ite, ev_tup, ev_lst, ev_idx, ev_slc, ev_rev, ev_call, ev_repr, ev_mth, ev_mtc, evs_nil, evs_cons, evi_e, evi_rng, evi_enum, evi_zip, es_set, es_unp, es_par, es_sti, es_ex, es_ret, es_ret0, es_pass, es_brk, es_ifs, es_loop, ess_nil, ess_cons, orS_some, fill_nil, fill_cons, spill_nil, spill_cons, puts_nil, puts_cons, bT_var, done_next, done_ret, done_next1, done_ret1, eb_len, eb_abs, eb_int, eb_str, eb_list, eb_tuple, eb_dict, eb_sum, eb_min, eb_max, eb_any, eb_all, eb_sorted, eb_sortedSet, eb_lenSet, eb_listRange, eb_tupRange, eb_tupEnum, eb_tupZip, eb_listZip, eb_newDict, eb_newDicT, eb_isinst, es_aug, ev_mtl, ev_mtt, ev_mtq, ev_mtd, ev_alt, alt_ok, alt_stuck, eb_minD, eb_maxD, eb_sortedTxt, eb_sortedSetS, eb_sumL, eb_listTxt, listTxt_ok, e]
  have hlr : vs.length = r.toNat := by rw [hl3]; simp [rngL]
  obtain ⟨u, e4, hu, hu2⟩ := join_ok (by omega) hv3
  refine ⟨u, h3, ?_, hu2, by omega, hh3⟩
  simp only [d22, ok_bind, get_z, get_s, put_z, put_s, List.set_cons_zero, List.set_cons_succ, List.length_cons, List.length_nil, if_true, ev_var, ev_k, ev_g, ev_bin, ev_cmp, ev_cmp2, ev_neg, ev_not, ev_and, ev_or, ev_ite, ev_tup, ev_lst, ev_idx, ev_slc, ev_rev, ev_call, ev_repr, ev_mth, ev_mtc, evs_nil, evs_cons, evi_e, evi_rng, evi_enum, evi_zip, es_set, es_unp, es_par, es_sti, es_ex, es_ret, es_ret0, es_pass, es_brk, es_ifs, es_loop, ess_nil, ess_cons, orS_some, fill_nil, fill_cons, spill_nil, spill_cons, puts_nil, puts_cons, bT_var, done_next, done_ret, done_next1, done_ret1, eb_len, eb_abs, eb_int, eb_str, eb_list, eb_tuple, eb_dict, eb_sum, eb_min, eb_max, eb_any, eb_all, eb_sorted, eb_sortedSet, eb_lenSet, eb_listRange, eb_tupRange, eb_tupEnum, eb_tupZip, eb_listZip, eb_newDict, eb_newDicT, eb_isinst, es_aug, ev_mtl, ev_mtt, ev_mtq, ev_mtd, ev_alt, alt_ok, alt_stuck, eb_minD, eb_maxD, eb_sortedTxt, eb_sortedSetS, eb_sumL, eb_listTxt, e1, e3, isStr, e4, back, List.getD_cons_succ, List.getD_cons_zero]
theorem law_ok {ns : List Int} (hn : ns.length ≤ 63) : ∃ outs, callN P (n + 9) 28 [.lst (ns.map .int)] = .ok (.bool true, outs) := by
  rw [callN_eq (ρ := [some (.lst (ns.map .int)), Option.none, Option.none, Option.none, Option.none]) (d := d28) rfl rfl rfl]
  obtain ⟨h, eh, hh⟩ := handA_ok (P := P) (n := n + 7) (f := 18) (K := 487) (J := 3) rfl (by decide) hn
  obtain ⟨ρ', e, h', b2, b3, b4, hh', rfl⟩ := loop_range (G := ⟨callN P (n + 8), P.con, P.rp, P.wh⟩) (t := lpT (sat d28.body 4)) (b := lpB (sat d28.body 4)) (a := 0) (n := 5)
    (fun i ρ => ∃ h b2 b3 b4, Hand h ∧ ρ = [some (.lst (ns.map .int)), some h, b2, b3, b4]) (ρ := [some (.lst (ns.map .int)), some h, Option.none, Option.none, Option.none]) ⟨_, _, _, _, hh, rfl⟩ fun i ρ hi hρ => by
      obtain ⟨h, b2, b3, b4, hh, rfl⟩ := hρ
      obtain ⟨page, h1, e1, lp, hp, hh1⟩ := c22 (n := n + 5) hh (m := 10) (by decide)
      have e1 : callN P (n + 8) 22 [h, .int 10] = .ok (.str page, [h1]) := e1
      obtain ⟨w, h2, e2, lw, hw, hh2⟩ := c22 (n := n + 5) hh1 (m := 3) (by decide)
      have e2 : callN P (n + 8) 22 [h1, .int 3] = .ok (.str w, [h2]) := e2
      have a1 : bin .add (.str w) (.str [97]) = .ok (.str (w ++ [97])) := add_s (by simp; omega)
      have s1 := slc_strA (s := page) (a := 1) (b := 4)
      have s1 : slc (.str page) (.int 1) (.int 4) = .ok (.str ((page.drop 1).take 3)) := s1
      have sl : ((page.drop 1).take 3).length ≤ 3 := by rw [List.length_take]; omega
      have a2 : bin .add (.str ((page.drop 1).take 3)) (.str [98]) = .ok (.str ((page.drop 1).take 3 ++ [98])) := add_s (by simp; omega)
      obtain ⟨v, h3, e3, hv, hh3⟩ := some_lst (P := P) (n := n + 7) (g := 20) (f := 19) rfl (drawS _) hh2 (vs := [.str (w ++ [97]), .str ((page.drop 1).take 3 ++ [98])]) (by simp) (by simp)
      have hv : ∃ word, v = .str word ∧ Lets word ∧ 1 ≤ word.length ∧ word.length ≤ 12 := by
        simp only [List.mem_cons, List.not_mem_nil, or_false] at hv
        rcases hv with rfl | rfl
        · exact ⟨_, rfl, lw.append (lets_by (by decide)), by simp, by simp; omega⟩
        · exact ⟨_, rfl, (take_lets (drop_lets lp 1) 3).append (lets_by (by decide)), by simp, by simp; omega⟩
      obtain ⟨word, rfl, l1, l2, l3⟩ := hv
      obtain ⟨h4, e4, hh4⟩ := c27 (n := n + 1) hh3 ⟨lp, by omega, l1, l2, l3⟩
      simp only [d28, sat, lpT, lpB, bindT, bindTs, ok_bind, get_z, get_s, put_z, put_s, List.set_cons_zero, List.set_cons_succ, List.length_cons, List.length_nil, if_true, ev_var, ev_k, ev_g, ev_bin, ev_cmp, ev_cmp2, ev_neg, ev_not, ev_and, ev_or, ev_ite, ev_tup, ev_lst, ev_idx, ev_slc, ev_rev, ev_call, ev_repr, ev_mth, ev_mtc, evs_nil, evs_cons, evi_e, evi_rng, evi_enum, evi_zip, es_set, es_unp, es_par, es_sti, es_ex, es_ret, es_ret0, es_pass, es_brk, es_ifs, es_loop, ess_nil, ess_cons, orS_some, fill_nil, fill_cons, spill_nil, spill_cons, puts_nil, puts_cons, bT_var, done_next, done_ret, done_next1, done_ret1, eb_len, eb_abs, eb_int, eb_str, eb_list, eb_tuple, eb_dict, eb_sum, eb_min, eb_max, eb_any, eb_all, eb_sorted, eb_sortedSet, eb_lenSet, eb_listRange, eb_tupRange, eb_tupEnum, eb_tupZip, eb_listZip, eb_newDict, eb_newDicT, eb_isinst, es_aug, ev_mtl, ev_mtt, ev_mtq, ev_mtd, ev_alt, alt_ok, alt_stuck, eb_minD, eb_maxD, eb_sortedTxt, eb_sortedSetS, eb_sumL, eb_listTxt, e1, e2, a1, okp_int, s1, a2, e3, e4, tru_b, Bool.not_true, Bool.false_eq_true, if_false]
      exact ⟨_, rfl, _, _, _, _, hh4, rfl⟩
  have pw : PW [97, 98, 120, 97, 98] [97, 98] := ⟨lets_by (by decide), by simp, lets_by (by decide), by simp, by simp⟩
  have y : rowL [97, 98, 120, 97, 98] [97, 98] 6 = [2, 1, 0, 1, 1, 0] := by
    unfold rowL rowV
    rw [List.map_congr_left fun e _ => sl_F 20 ([97, 98, 120, 97, 98].take e).reverse [97, 98].reverse (by simp; omega)]
    decide
  have fz : ∀ e, far [97, 98, 120, 97, 98] [97, 98] e = fun k => levF s1 1 20 (([97, 98, 120, 97, 98].take e).reverse.take k) [97, 98].reverse := fun e => funext fun k => lev_F 20 _ _ (by simp; omega)
  have k3 : K [97, 98, 120, 97, 98] [97, 98] 3 = 3 := by unfold K; rw [fz]; decide
  have k2 : K [97, 98, 120, 97, 98] [97, 98] 2 = 2 := by unfold K; rw [fz]; decide
  have k5 : K [97, 98, 120, 97, 98] [97, 98] 5 = 2 := by unfold K; rw [fz]; decide
  have rv : ∀ e, e < 6 → rowV [97, 98, 120, 97, 98] [97, 98] e = ([2, 1, 0, 1, 1, 0] : List Int).getD e 0 := fun e he => by
    rw [← y]
    unfold rowL
    rw [List.getD_eq_getElem?_getD, List.getElem?_map, List.getElem?_range he]; rfl
  have ok : ∀ e, e < 6 → okv [97, 98, 120, 97, 98] [97, 98] 0 e = decide (([2, 1, 0, 1, 1, 0] : List Int).getD e 0 ≤ 0) := fun e he => by
    unfold okv
    rw [rv e he]
  have x11 := c11 (n := n + 3) pw
  have x13 := c13 (n := n + 2) pw (m := 0) (by decide) (by decide)
  have x16 := c16 (n := n + 3) pw (e := 3) (by simp)
  have yl : ([97, 98, 120, 97, 98] : List Nat).length = 5 := rfl
  rw [yl] at x11
  have y5 : rowL [97, 98, 120, 97, 98] [97, 98] (5 + 1) = [2, 1, 0, 1, 1, 0] := y
  rw [y5] at x11
  have ye : endsL [97, 98, 120, 97, 98] [97, 98] 0 = [2, 5] := by
    unfold endsL
    rw [yl]
    simp [List.range_succ, List.filter, rv]
  rw [ye] at x13
  rw [k3] at x16
  have x14 := c14 (n := n + 3) pw (m := 0) (j := 2) (by rw [yl, y5]; rfl) (by rw [yl, y5]; rfl)
  have x17 := c17 (n := n + 2) pw (m := 0) (by decide) (by decide)
  have yo : op (okv [97, 98, 120, 97, 98] [97, 98] 0) (beg [97, 98, 120, 97, 98] [97, 98]) 5 = 2 := by
    simp [op, opL, opv, ok, beg, k2, k5]
  rw [yl, yo] at x17
  have n1 : cmp .ne (.tup (([2, 1, 0, 1, 1, 0] : List Int).map .int)) (.tup [.int 2, .int 1, .int 0, .int 1, .int 1, .int 0]) = .ok (.bool false) := rfl
  have n2 : cmp .ne (.tup (intsN [2, 5])) (.tup [.int 2, .int 5]) = .ok (.bool false) := rfl
  have n3 : cmp .ne (.str (str [97, 98, 120, 97, 98] 3 3)) (.str [97, 98, 120]) = .ok (.bool false) := rfl
  have n4 : cmp .ne (.tup [.int 0, .int ((2 : Nat) : Int)]) (.tup [.int 0, .int 2]) = .ok (.bool false) := rfl
  have n5 : cmp .ne (.int 2) (.int 2) = .ok (.bool false) := rfl
  have x16 : callN P (n + 8) 16 [.str [97, 98, 120, 97, 98], .str [97, 98], .int 3] = _ := x16
  have r5 : range [.int 5] = .ok (rngL 0 5) := rfl
  refine ⟨[], ?_⟩
  simp only [d28, sat, lpT, lpB] at e
  simp only [d28, ok_bind, get_z, get_s, put_z, put_s, List.set_cons_zero, List.set_cons_succ, List.length_cons, List.length_nil, if_true, ev_var, ev_k, ev_g, ev_bin, ev_cmp, ev_cmp2, ev_neg, ev_not, ev_and, ev_or, ev_ite, ev_tup, ev_lst, ev_idx, ev_slc, ev_rev, ev_call, ev_repr, ev_mth, ev_mtc, evs_nil, evs_cons, evi_e, evi_rng, evi_enum, evi_zip, es_set, es_unp, es_par, es_sti, es_ex, es_ret, es_ret0, es_pass, es_brk, es_ifs, es_loop, ess_nil, ess_cons, orS_some, fill_nil, fill_cons, spill_nil, spill_cons, puts_nil, puts_cons, bT_var, done_next, done_ret, done_next1, done_ret1, eb_len, eb_abs, eb_int, eb_str, eb_list, eb_tuple, eb_dict, eb_sum, eb_min, eb_max, eb_any, eb_all, eb_sorted, eb_sortedSet, eb_lenSet, eb_listRange, eb_tupRange, eb_tupEnum, eb_tupZip, eb_listZip, eb_newDict, eb_newDicT, eb_isinst, es_aug, ev_mtl, ev_mtt, ev_mtq, ev_mtd, ev_alt, alt_ok, alt_stuck, eb_minD, eb_maxD, eb_sortedTxt, eb_sortedSetS, eb_sumL, eb_listTxt, eh, x11, x13, n1, n2, tru_b, Bool.false_eq_true, if_false, x16, n3, x14, n4, x17, n5, r5, e]
end
theorem run : ∀ ns : List Int, ns.length ≤ 63 → ∃ outs, callN S.prog 12 28 [.lst (ns.map Val.int)] = .ok (.bool true, outs) := fun ns h => law_ok (n := 3) h
end K18
open MP L2 PySem.Spec PySem PyProof.Rows
namespace K18
def fa : List He.Fa := faOf ds cs free
def fn : List He.DefD := ds.map DefP.dd
abbrev hk : PySem.W.Hook := hookX 4 fa fn cs
def names : List PySem.Str := (["TextError", "NoMost", "NoPage", "NoWord", "NoEnd", "LETTERS", "MOST_TEXT", "is_integer", "is_within", "is_letters", "is_word", "check_word", "edit_table", "MOST_PAGE", "MOST_SLIPS", "check_page", "check_both", "check_asked", "next_column", "raw_slips", "slips_row", "raw_ends", "ends_within", "best_end", "longest_at", "stretch_at", "once_each", "_law_hand", "_law_draw", "_law_any"] : List PySem.Str) ++ (["_law_same", "_law_page", "_law_edits", "_law_stretches", "_law_row", "_law_once", "_law_is_right"] : List PySem.Str)
def ob (s : PySem.W.SharedT) : He.AlD × Bool := obsX 4 fa fn cs (HandSHeadRun.getT s)
theorem ob_eq (s : PySem.W.SharedT) : ob s = hk.obs s.abs := obsX_eq (HandSHeadRun.getT_eq s)
theorem hrun (w : World) : HandSHeadRun.RunEq (PySem.W.OpenLaw.row PySem.Challenge.rw_twotexts_k18_whole_patterns_with_slips) (PySem.W.view (PySem.W.OpenLaw.row PySem.Challenge.rw_twotexts_k18_whole_patterns_with_slips).prog [42]) hk ob 3000 names w := by
  intro os
  kernel_rfl
end K18
open PySem PySem.W PySem.Calls PyProof.Rows
set_option maxHeartbeats 0 in
theorem PySem.Challenge.cw_twotexts_k18_whole_patterns_with_slips_holds : PySem.Challenge.rw_twotexts_k18_whole_patterns_with_slips.Holds := by
  w_on; o_law
  refine HandSHeadRun.head_any (r := OpenLaw.row PySem.Challenge.rw_twotexts_k18_whole_patterns_with_slips) (q := view (OpenLaw.row PySem.Challenge.rw_twotexts_k18_whole_patterns_with_slips).prog [42])
    (H := K18.hk) (ob := K18.ob) (M := 3000) (loose := K18.names)
    (d := HandSHeadRun.topDef (OpenLaw.row PySem.Challenge.rw_twotexts_k18_whole_patterns_with_slips).prog 42) (kwd := []) K18.ob_eq
    (by kernel_rfl) (fun s => by kernel_rfl) K18.hrun (by kernel_rfl) (by kernel_rfl) (by kernel_rfl) (by rfl)
    (by first | assumption | decide +kernel) (by decide +kernel) ⟨rfl, rfl, rfl, rfl, rfl, by decide +kernel⟩ ?hw ?hc
  case hw => w_witness2
  case hc =>
    exact MP.mp_law (S := K18.S) (ds := K18.ds) (cs := K18.cs) (k := 12) (f := 28) (ret := 0) (pl := K18.p28)
      rfl (by kernel_rfl) ⟨rfl, by decide, by decide⟩ rfl (fun w h Y => Y) K18.goods rfl (by decide +kernel) K18.con_ok
      (by kernel_rfl) (by decide) rfl K18.run
