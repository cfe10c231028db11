import PyProof.Rows.All
import PyProof.EqLayable
import KE.LtData
import KE.KeyNested
import KE.SortData
import KE.DataMinMax
import HandS.Text
import HandS.Comp
import HandS.Call
import HandS.Dict
import KE.KDictKeyed
import KE.KDictDisplayH
import HandS.ForMost
import HandS.ForExc
import HandS.TupAny
import HandS.TupMul
import HandS.Conv
import HandS.IsInst
import HandS.Deep
import HandS.Flow
import HandS.Walk
import HandS.Style
import HandS.SortInts
import HandS.Iter
import KE.KDictWalk
import KE.KDictList
import KE.KDictSum
import PyProof.Rows.RowBridgeK
import KE.DataCmp
import HandS.Zip
import HandS.ExcOwn
import HandS.TupSets
import HandS.SetFor
import HandS.Strs
import HandS.HeadHook1
import HandS.TryMany
import HandS.Defaults
import HandS.Head0
import HandS.Head1
import HandS.Head2
import HandS.HeadEnd
import HandS.HeadHook2
import PyProof.TableCode
import PySem.Challenge.RW_pastpictures_k19_whole_fitting
set_option Elab.async false
set_option linter.all false

/-! FLcore: a small core language over PyData and its evaluator. -/
namespace FL
open PySem

abbrev D := PyData

inductive Out (α : Type) where
  | ok (a : α)
  | exc (c : Nat)
  | bad

namespace Out
def bind {α β : Type} : Out α → (α → Out β) → Out β
  | ok a, f => f a
  | exc c, _ => exc c
  | bad, _ => bad
def map {α β : Type} (f : α → β) : Out α → Out β
  | ok a => ok (f a)
  | exc c => exc c
  | bad => bad
/-- an exception where none may be -/
def calm {α : Type} : Out α → Out α
  | ok a => ok a
  | exc _ => bad
  | bad => bad
def guard {α : Type} (b : Bool) (o : Out α) : Out α := if b = true then o else bad
def ofOpt {α : Type} : Option α → Out α
  | some a => ok a
  | none => bad
@[simp] theorem bind_ok {α β : Type} (a : α) (f : α → Out β) : (ok a).bind f = f a := rfl
@[simp] theorem bind_exc {α β : Type} (c : Nat) (f : α → Out β) : (exc c : Out α).bind f = exc c := rfl
@[simp] theorem bind_bad {α β : Type} (f : α → Out β) : (bad : Out α).bind f = bad := rfl
@[simp] theorem map_ok {α β : Type} (a : α) (f : α → β) : (ok a).map f = ok (f a) := rfl
@[simp] theorem map_exc {α β : Type} (c : Nat) (f : α → β) : (exc c : Out α).map f = exc c := rfl
@[simp] theorem map_bad {α β : Type} (f : α → β) : (bad : Out α).map f = bad := rfl
@[simp] theorem calm_ok {α : Type} (a : α) : (ok a).calm = ok a := rfl
@[simp] theorem calm_exc {α : Type} (c : Nat) : (exc c : Out α).calm = bad := rfl
@[simp] theorem calm_bad {α : Type} : (bad : Out α).calm = bad := rfl
@[simp] theorem guard_true {α : Type} (o : Out α) : guard true o = o := rfl
@[simp] theorem guard_false {α : Type} (o : Out α) : guard false o = bad := rfl
@[simp] theorem ofOpt_some {α : Type} (a : α) : ofOpt (some a) = ok a := rfl
@[simp] theorem ofOpt_none {α : Type} : (ofOpt none : Out α) = bad := rfl
end Out
open Out

/-- a size that every object may have -/
def fits (n : Nat) : Bool := decide (n ≤ 1000000)

/-! ### operations on data -/
/-- the script, a list of ints that is only read, stands as a dict of this form -/
def scr (ns : List Int) : D := .dict [(.none, .list (ns.map .int))]
def nscr : List (D × D) → Bool
  | (.none, _) :: _ => false
  | (.bool _, _) :: _ => false
  | _ => true
def tru : D → Out Bool
  | .none => ok false
  | .bool b => ok b
  | .int i => ok (i != 0)
  | .str s => guard (fits s.length) (ok (s.length != 0))
  | .list xs => ok (!xs.isEmpty)
  | .tuple xs => ok (!xs.isEmpty)
  | .dict kvs => guard (nscr kvs) (ok (!kvs.isEmpty))

inductive BOp where
  | add | sub | mul | mod | fdiv | pow

def mulOk (i j : Int) : Bool := decide (i.natAbs < 2 ^ 64 ∨ j.natAbs < 2 ^ 64)
def repl (xs : List D) (k : Int) : List D := (List.replicate k.toNat xs).flatten

def bop : BOp → D → D → Out D
  | .add, .int i, .int j => ok (.int (i + j))
  | .add, .str x, .str y => guard (fits (x.length + y.length)) (ok (.str (x ++ y)))
  | .add, .list xs, .list ys => guard (fits (xs.length + ys.length)) (ok (.list (xs ++ ys)))
  | .add, .tuple xs, .tuple ys => guard (fits (xs.length + ys.length)) (ok (.tuple (xs ++ ys)))
  | .sub, .int i, .int j => ok (.int (i - j))
  | .mul, .int i, .int j => guard (mulOk i j) (ok (.int (i * j)))
  | .mul, .list xs, .int k => guard (decide (0 ≤ k ∧ k ≤ 1000) && decide (xs.length ≤ 1000)) (ok (.list (repl xs k)))
  | .mul, .tuple xs, .int k => guard (decide (2 ≤ k ∧ k ≤ 1000) && (decide (xs.length ≤ 1000) && !xs.isEmpty)) (ok (.tuple (repl xs k)))
  | .mod, .int i, .int j => guard (decide (0 < j)) (ok (.int (i % j)))
  | .fdiv, .int i, .int j => guard (decide (0 < j ∧ j.natAbs < 1073741824)) (ok (.int (i / j)))
  | .pow, .int i, .int j => guard (decide (0 ≤ j ∧ j ≤ 1000000 ∧ i.natAbs < 2 ^ 64)) (ok (.int (i ^ j.toNat)))
  | _, _, _ => bad

inductive COp where
  | eq | ne | lt | le | gt | ge | inn | nin | is | isn

def flat : D → Bool
  | .none => true
  | .bool _ => true
  | .int _ => true
  | .str _ => true
  | _ => false
def shp (d : D) : Bool := SeqAt.shaped d
def anyEq (x : D) (ys : List D) : Bool := ys.any fun y => PyData.eqv y x
/-- one sign -/
def signOf (s : Str) : Option Nat := match s.cps.toList with
  | [c] => some c
  | _ => none
def keyD : D → Bool
  | .int _ => true
  | .str _ => true
  | _ => false
mutual
/-- a key made of whole numbers and tuples -/
def nk : D → Option NestedKey
  | .int i => some (.num i)
  | .tuple ds => (nks ds).map .tup
  | _ => none
def nks : List D → Option (List NestedKey)
  | [] => some []
  | d :: ds => (nk d).bind fun k => (nks ds).map (k :: ·)
end
/-- such a tuple, not too deep -/
def tkD : D → Bool
  | .tuple ds => match nk (.tuple ds) with
    | some k => decide (k.depth ≤ 8)
    | none => false
  | _ => false
def lookD (k : D) : List (D × D) → Option D
  | [] => none
  | (a, b) :: r => if PyData.eqv a k = true then some b else lookD k r

/-- a dict whose keys are tuples stands with a mark ahead of its entries -/
def mkD : D × D := (.bool true, .none)
def inK (x : D) : List (D × D) → Out Bool
  | (.bool true, .none) :: es => guard (tkD x) (ok (lookD x es).isSome)
  | kvs => guard (keyD x && nscr kvs) (ok (lookD x kvs).isSome)
def inD : D → D → Out Bool
  | x, .list ys => guard (shp x && shp (.list ys)) (ok (anyEq x ys))
  | x, .tuple ys => guard (flat x && ys.all flat) (ok (anyEq x ys))
  | .str x, .str y => match signOf x with
    | some c => ok (decide (c ∈ y.cps.toList))
    | none => bad
  | x, .dict kvs => inK x kvs
  | _, _ => bad
def ordOk (a b : D) : Bool := PySem.W.alike a b && (shp a && shp b)
def cop : COp → D → D → Out D
  | .eq, a, b => guard (shp a && shp b) (ok (.bool (PyData.eqv a b)))
  | .ne, a, b => guard (shp a && shp b) (ok (.bool (!PyData.eqv a b)))
  | .lt, .int i, .int j => ok (.bool (decide (i < j)))
  | .le, .int i, .int j => ok (.bool (decide (i ≤ j)))
  | .gt, .int i, .int j => ok (.bool (decide (j < i)))
  | .ge, .int i, .int j => ok (.bool (decide (j ≤ i)))
  | .ge, .tuple xs, .tuple ys => guard (ordOk (.tuple xs) (.tuple ys)) (ok (.bool (!PySem.W.dataLt (.tuple xs) (.tuple ys))))
  | .inn, a, b => (inD a b).map .bool
  | .nin, a, b => (inD a b).map fun r => .bool (!r)
  | .is, .bool a, .bool b => ok (.bool (a == b))
  | .isn, .bool a, .bool b => ok (.bool (a != b))
  | _, _, _ => bad

/-- the place that an index of any sign means -/
def ixD (n : Nat) (i : Int) : Option Nat := if 0 ≤ i then (if i < n then some i.toNat else none) else if -(n : Int) ≤ i then some (i + n).toNat else none
def atD {α : Type} (xs : List α) (i : Int) : Option α := (ixD xs.length i).bind fun j => xs[j]?
def idxK : List (D × D) → D → Out D
  | [(.none, .list xs)], k => match k with
    | .int i => ofOpt (atD xs i)
    | _ => bad
  | (.bool true, .none) :: es, k => guard (tkD k) (ofOpt (lookD k es))
  | kvs, k => guard (keyD k && nscr kvs) (ofOpt (lookD k kvs))
def idx : D → D → Out D
  | .list xs, .int i => ofOpt (atD xs i)
  | .tuple xs, .int i => ofOpt (atD xs i)
  | .str s, .int i => guard (fits s.length) ((ofOpt (atD s.cps.toList i)).map fun c => .str ⟨#[c]⟩)
  | .dict kvs, k => idxK kvs k
  | _, _ => bad
/-- a slice's bound as a place among n -/
def sIx (n d : Nat) : Option Int → Nat
  | none => d
  | some v => if v < 0 then (v + (n : Int)).toNat else min v.toNat n
def cut {α : Type} (xs : List α) (lo hi : Option Int) : List α := (xs.drop (sIx xs.length 0 lo)).take (sIx xs.length xs.length hi - sIx xs.length 0 lo)
def slc (lo hi : Option Int) : D → Out D
  | .list xs => ok (.list (cut xs lo hi))
  | .tuple xs => ok (.tuple (cut xs lo hi))
  | .str s => guard (fits s.length) (ok (.str ⟨(cut s.cps.toList lo hi).toArray⟩))
  | _ => bad
def asInt : D → Out Int
  | .int i => ok i
  | _ => bad
def revD : D → Out D
  | .list xs => ok (.list xs.reverse)
  | .tuple xs => ok (.tuple xs.reverse)
  | _ => bad

/-! ### built-ins of one argument -/
inductive B1 where
  | len | tuple | list | int | str | max | min | sum | sorted | dict | lenset | sortedset | listrange | sortedvals | listvals | isInt | isBool | isTuple | isStr | isList

def intsD : List D → Option (List Int)
  | [] => some []
  | .int i :: r => (intsD r).map (i :: ·)
  | _ :: _ => none
def maxI : List Int → Option Int
  | [] => none
  | x :: r => match maxI r with
    | none => some x
    | some m => some (if m ≤ x then x else m)
def minI : List Int → Option Int
  | [] => none
  | x :: r => match minI r with
    | none => some x
    | some m => some (if x ≤ m then x else m)
def rngB (n : Int) : Bool := decide (n.natAbs ≤ 1000000)
def rangeD (n : Int) : List D := (List.range n.toNat).map fun k => .int (k : Nat)
def pairs : List D → Option (List (D × D))
  | [] => some []
  | .tuple [a, b] :: r => (pairs r).map ((a, b) :: ·)
  | _ :: _ => none
def putD (k v : D) : List (D × D) → List (D × D)
  | [] => [(k, v)]
  | (a, b) :: r => if PyData.eqv a k = true then (a, v) :: r else (a, b) :: putD k v r
def putAllD : List (D × D) → List (D × D) → List (D × D)
  | acc, [] => acc
  | acc, (k, v) :: r => putAllD (putD k v acc) r
def intText (i : Int) : Str := Str.ofString (toString i)

/-- things that can be sorted: all alike, tuples with a thing in them, or none of them a tuple -/
def tup1 : D → Bool
  | .tuple (_ :: _) => true
  | _ => false
def noTN : D → Bool
  | .tuple _ => false
  | .none => false
  | _ => true
def srtOk (xs : List D) : Bool := (xs.all fun d => xs.all fun e => PySem.W.alike d e) && ((xs.all tup1 || xs.all noTN) && xs.all shp)
def srtD (xs : List D) : Out D := guard (srtOk xs) (ok (.list (xs.mergeSort (PySem.W.dataLe false id))))
def srtK : List (D × D) → Out D
  | (.bool true, .none) :: es => srtD (es.map (·.1))
  | _ => bad
def srtV : List (D × D) → Out D
  | (.bool true, .none) :: es => srtD (es.map (·.2))
  | _ => bad
def lstV : List (D × D) → Out D
  | (.bool true, .none) :: es => ok (.list (es.map (·.2)))
  | _ => bad
/-- put in by a number, each number once -/
def insK {α : Type} (f : α → Int) (x : α) : List α → List α
  | [] => [x]
  | y :: r => if f x < f y then x :: y :: r else if f x = f y then y :: r else y :: insK f x r
def usort {α : Type} (f : α → Int) (l : List α) : List α := l.foldr (insK f) []
/-- pairs of small numbers -/
def prsD : List D → Option (List (List Int))
  | [] => some []
  | .tuple [.int a, .int b] :: r => if 0 ≤ a ∧ a < 64 ∧ 0 ≤ b ∧ b < 64 then (prsD r).map ([a, b] :: ·) else none
  | _ :: _ => none
def pk2 : List Int → Int
  | [a, b] => a * 64 + b
  | _ => 0
def tupI (ns : List Int) : D := .tuple (ns.map .int)
mutual
/-- a key made of whole numbers, texts and tuples -/
def nkt : D → Option NestedKey
  | .int i => some (.num i)
  | .str x => some (.text x)
  | .tuple ds => (nkts ds).map .tup
  | _ => none
def nkts : List D → Option (List NestedKey)
  | [] => some []
  | d :: ds => (nkt d).bind fun k => (nkts ds).map (k :: ·)
end
/-- tuples that can be in a set -/
def tkts : List D → Option (List NestedKey)
  | [] => some []
  | .tuple xs :: ds => match nkt (.tuple xs) with
    | some k => if k.depth ≤ 8 then (tkts ds).map (k :: ·) else none
    | none => none
  | _ :: _ => none
/-- each once -/
def dist : List NestedKey → List NestedKey
  | [] => []
  | k :: r => if k ∈ dist r then dist r else k :: dist r
def lsetD : D → Out D
  | .list xs => match tkts xs with
    | some ks => guard (decide (ks.length < 63)) (ok (.int ((dist ks).length : Nat)))
    | none => bad
  | _ => bad
def usetD : D → Out D
  | .tuple xs => match intsD xs with
    | some ns => guard (decide (ns.length < 63)) (ok (.list ((usort id ns).map .int)))
    | none => bad
  | .list xs => match prsD xs with
    | some ts => guard (decide (ts.length < 63)) (ok (.list ((usort (pk2) ts).map tupI)))
    | none => bad
  | _ => bad
/-- the first of the least of things that are alike -/
def isNo : D → Bool
  | .none => true
  | _ => false
def mnOk (xs : List D) : Bool := (xs.all fun d => xs.all fun e => PySem.W.alike d e) && xs.all fun d => shp d && !isNo d
def mnD : List D → Out D
  | [] => bad
  | x :: xs => guard (mnOk (x :: xs)) (ok (PySem.W.minD x xs))
def lenK : List (D × D) → Out D
  | [(.none, .list xs)] => ok (.int xs.length)
  | _ => bad
def b1 : B1 → D → Out D
  | .len, .list xs => ok (.int xs.length)
  | .len, .tuple xs => ok (.int xs.length)
  | .len, .str s => guard (fits s.length) (ok (.int s.length))
  | .len, .dict kvs => lenK kvs
  | .tuple, .list xs => ok (.tuple xs)
  | .tuple, .tuple xs => ok (.tuple xs)
  | .list, .list xs => ok (.list xs)
  | .list, .tuple xs => ok (.list xs)
  | .int, .int i => ok (.int i)
  | .int, .bool b => ok (.int (if b = true then 1 else 0))
  | .max, .list xs => (ofOpt ((intsD xs).bind maxI)).map .int
  | .min, .list xs => match intsD xs with
    | some ns => (ofOpt (minI ns)).map .int
    | none => mnD xs
  | .sum, .list xs => (ofOpt (intsD xs)).map fun ns => .int ns.sum
  | .sorted, .list xs => match intsD xs with
    | some ns => ok (.list ((ns.mergeSort fun a b => decide (a ≤ b)).map .int))
    | none => srtD xs
  | .sorted, .dict kvs => srtK kvs
  | .sortedvals, .dict kvs => srtV kvs
  | .sortedset, x => usetD x
  | .lenset, x => lsetD x
  | .listvals, .dict kvs => lstV kvs
  | .dict, .list xs => match pairs xs with
    | some kvs => guard (kvs.all fun p => keyD p.1) (ok (.dict (putAllD [] kvs)))
    | none => bad
  | .listrange, .int n => guard (rngB n) (ok (.list (rangeD n)))
  | .isInt, .int _ => ok (.bool true)
  | .isInt, .bool _ => ok (.bool true)
  | .isInt, .dict kvs => guard (nscr kvs) (ok (.bool false))
  | .isInt, _ => ok (.bool false)
  | .isBool, .bool _ => ok (.bool true)
  | .isBool, .dict kvs => guard (nscr kvs) (ok (.bool false))
  | .isBool, _ => ok (.bool false)
  | .isTuple, .tuple _ => ok (.bool true)
  | .isTuple, .dict kvs => guard (nscr kvs) (ok (.bool false))
  | .isTuple, _ => ok (.bool false)
  | .isStr, .str _ => ok (.bool true)
  | .isStr, .dict kvs => guard (nscr kvs) (ok (.bool false))
  | .isStr, _ => ok (.bool false)
  | .isList, .list _ => ok (.bool true)
  | .isList, .dict kvs => guard (nscr kvs) (ok (.bool false))
  | .isList, _ => ok (.bool false)
  | _, _ => bad

/-! ### iterables -/
def itemsK : List (D × D) → Out (List D)
  | [(.none, .list xs)] => ok xs
  | (.bool true, .none) :: es => ok (es.map (·.1))
  | _ => bad
/-- the items of a thing that is gone through -/
def items : D → Out (List D)
  | .dict kvs => itemsK kvs
  | .list xs => ok xs
  | .tuple xs => ok xs
  | .str s => guard (fits s.length) (ok (s.cps.toList.map fun c => .str ⟨#[c]⟩))
  | _ => bad
def zipD : List D → List D → List D
  | x :: xs, y :: ys => .tuple [x, y] :: zipD xs ys
  | _, _ => []
def enumD : Nat → List D → List D
  | _, [] => []
  | n, x :: xs => .tuple [.int (n : Nat), x] :: enumD (n + 1) xs

def zipI : D → D → Out (List D)
  | .list xs, .list ys => ok (zipD xs ys)
  | .tuple xs, .tuple ys => ok (zipD xs ys)
  | _, _ => bad
def enumI : D → Out (List D)
  | .list xs => ok (enumD 0 xs)
  | _ => bad

def valsK : List (D × D) → Out (List D)
  | (.bool true, .none) :: es => ok (es.map (·.2))
  | _ => bad
def valsI : D → Out (List D)
  | .dict kvs => valsK kvs
  | _ => bad
/-! ### methods -/
inductive Mth where
  | get | index | join | split | partition | count
/-- the first place of a thing -/
def indD (x : D) : Nat → List D → Option Nat
  | _, [] => none
  | n, y :: ys => if PyData.eqv y x = true then some n else indD x (n + 1) ys
def strsD : List D → Option (List Str)
  | [] => some []
  | .str x :: r => (strsD r).map (x :: ·)
  | _ :: _ => none
def getK (k d : D) : List (D × D) → Out D
  | (.bool true, .none) :: es => guard (tkD k) (ok ((lookD k es).getD d))
  | kvs => guard (keyD k && nscr kvs) (ok ((lookD k kvs).getD d))
def mth : Mth → D → List D → Out D
  | .get, .dict kvs, [k] => getK k .none kvs
  | .get, .dict kvs, [k, d] => getK k d kvs
  | .index, .list xs, [x] => guard (shp x && shp (.list xs)) ((ofOpt (indD x 0 xs)).map fun n => .int (n : Nat))
  | .count, .list xs, [x] => guard (shp x && shp (.list xs)) (ok (.int ((xs.countP fun y => PyData.eqv y x : Nat) : Int)))
  | .join, .str a, [.list xs] => match strsD xs with
    | some ss => guard (decide ((ss.map (·.length)).sum + ss.length * a.length ≤ 1000000)) (ok (.str (Txt.join a ss)))
    | none => bad
  | .split, .str a, [.str b] => guard (!(b.length == 0) && decide (a.length ≤ 1000000)) (ok (.list ((Txt.split a b).map .str)))
  | .partition, .str a, [.str b] => guard (!(b.length == 0) && decide (a.length ≤ 1000000)) (ok (.tuple [.str (Txt.partition a b).1, .str (Txt.partition a b).2.1, .str (Txt.partition a b).2.2]))
  | _, _, _ => bad
/-- a written dict: its keys are constants -/
def dspD (ks ds : List D) : Out D := guard (decide (ks.length = ds.length) && (ks.all keyD && (!ks.isEmpty && decide (ks.length ≤ 15)))) (ok (.dict (putAllD [] (ks.zip ds))))
/-! ### the core language -/
inductive Tg where
  | one (i : Nat)
  | two (i j : Nat)

mutual
inductive CE where
  | con (d : D)
  | glo (x : Nat) (d : D)
  | var (i : Nat)
  | pk (i : Nat)
  | call (f : Nat) (as : CEs)
  | bin (o : BOp) (a b : CE)
  | neg (a : CE)
  | not (a : CE)
  | bool (isAnd : Bool) (as : CEs)
  | ite (c a b : CE)
  | cmp (o : COp) (a b : CE)
  | chn (o p : COp) (a b c : CE)
  | isN (yes : Bool) (a : CE)
  | tup (as : CEs)
  | lst (as : CEs)
  | idx (a b : CE)
  | slc (a : CE) (lo hi : CO)
  | rev (a : CE)
  | lc (it : CI) (tg : Tg) (t : CO) (e : CE)
  | b1 (f : B1) (a : CE)
  | mth (m : Mth) (a : CE) (as : CEs)
  | dsp (ks : List D) (vs : CEs)
  | hole
inductive CO where
  | no
  | so (a : CE)
inductive CEs where
  | nil
  | cons (a : CE) (as : CEs)
inductive CI where
  | seq (a : CE)
  | rng (a : CE)
  | zip (a b : CE)
  | enum (a : CE)
  | vals (a : CE)
end

inductive Sl where
  | no
  | fz (d : D)
  | ow (d : D)
abbrev St := List Sl

def getF (S : St) (i : Nat) : Out D := match S[i]? with
  | some (.fz d) => ok d
  | _ => bad
def getP (S : St) (i : Nat) : Out D := match S[i]? with
  | some (.fz d) => ok d
  | some (.ow d) => ok d
  | _ => bad
def bindT : Tg → D → St → Out St
  | .one i, d, S => ok (S.set i (.fz d))
  | .two i j, .tuple [a, b], S => ok ((S.set i (.fz a)).set j (.fz b))
  | .two _ _, _, _ => bad
def consO : Option D → List D → List D
  | some y, rs => y :: rs
  | none, rs => rs
/-- a comprehension's list: f of an item is an item, or none -/
def lcM (f : D → Out (Option D)) : List D → Out (List D)
  | [] => ok []
  | x :: xs => (f x).bind fun r => (lcM f xs).bind fun rs => ok (consO r rs)

section
variable (Φ : Nat → List D → Out D)
mutual
def ev : CE → St → Out D
  | .con d, _ => ok d
  | .glo _ d, _ => ok d
  | .var i, S => getF S i
  | .pk i, S => getP S i
  | .call f as, S => (evs as S).bind fun ds => Φ f ds
  | .bin o a b, S => (ev a S).bind fun x => (ev b S).bind fun y => bop o x y
  | .neg a, S => (ev a S).bind fun x => (asInt x).bind fun i => ok (.int (-i))
  | .not a, S => (ev a S).bind fun x => (tru x).bind fun b => ok (.bool (!b))
  | .bool k as, S => evb k as S
  | .ite c a b, S => (ev c S).bind fun x => (tru x).bind fun t => if t = true then ev a S else ev b S
  | .cmp o a b, S => (ev a S).bind fun x => (ev b S).bind fun y => cop o x y
  | .chn o p a b c, S => (ev a S).bind fun x => (ev b S).bind fun y => (cop o x y).bind fun r => (match r with
      | .bool true => (ev c S).bind fun z => cop p y z
      | .bool false => ok (.bool false)
      | _ => bad)
  | .isN yes a, S => (ev a S).bind fun x => ok (.bool (match x with
      | .none => yes
      | _ => !yes))
  | .tup as, S => (evs as S).bind fun ds => guard (fits ds.length) (ok (.tuple ds))
  | .lst as, S => (evs as S).bind fun ds => guard (fits ds.length) (ok (.list ds))
  | .idx a b, S => (ev a S).bind fun x => (ev b S).bind fun y => idx x y
  | .slc a lo hi, S => (ev a S).bind fun x => (evo lo S).bind fun l => (evo hi S).bind fun h => slc l h x
  | .rev a, S => (ev a S).bind revD
  | .lc it tg t e, S => (evi it S).bind fun xs => (lcM (fun x => ((bindT tg x S).bind fun S2 => (evt t S2).bind fun b => if b = true then (ev e S2).bind fun y => ok (some y) else ok none).calm) xs).bind fun ys => ok (.list ys)
  | .b1 f a, S => (ev a S).bind fun x => b1 f x
  | .mth m a as, S => (ev a S).bind fun x => (evs as S).calm.bind fun ds => mth m x ds
  | .dsp ks vs, S => (evs vs S).calm.bind fun ds => dspD ks ds
  | .hole, _ => bad
/-- a slice's part -/
def evo : CO → St → Out (Option Int)
  | .no, _ => ok none
  | .so a, S => (ev a S).bind fun x => (asInt x).bind fun i => ok (some i)
/-- a comprehension's test -/
def evt : CO → St → Out Bool
  | .no, _ => ok true
  | .so a, S => (ev a S).bind fun x => tru x
def evs : CEs → St → Out (List D)
  | .nil, _ => ok []
  | .cons a as, S => (ev a S).bind fun x => (evs as S).bind fun xs => ok (x :: xs)
def evb (k : Bool) : CEs → St → Out D
  | .nil, _ => bad
  | .cons a as, S => match as with
    | .nil => ev a S
    | .cons _ _ => (ev a S).bind fun x => (tru x).bind fun b => if b = k then evb k as S else ok x
def evi : CI → St → Out (List D)
  | .seq a, S => (ev a S).bind items
  | .rng a, S => (ev a S).bind fun x => (asInt x).bind fun n => guard (rngB n) (ok (rangeD n))
  | .zip a b, S => (ev a S).bind fun x => (ev b S).bind fun y => zipI x y
  | .enum a, S => (ev a S).bind enumI
  | .vals a, S => (ev a S).bind valsI
end
end

/-! ### statements -/
inductive Fl where
  | nx (S : St)
  | rt (d : D)

/-- the body of a try: one statement, or an if of such -/
inductive TB where
  | set (i : Nat) (e : CE)
  | exp (e : CE)
  | iff (c : CE) (a b : TB)
mutual
inductive CS where
  | set (i : Nat) (e : CE)
  | setl (i : Nat) (es : CEs)
  | unp (tg : Tg) (e : CE)
  | unp3 (i j k : Nat) (e : CE)
  | par (i j : Nat) (a b : CE)
  | aug (i : Nat) (e : CE)
  | app (i : Nat) (e : CE)
  | ext (i : Nat) (e : CE)
  | exp (e : CE)
  | iff (c : CE) (a b : CSs)
  | for_ (tg : Tg) (it : CI) (b : CSs)
  | whl (c : CE) (b : CSs)
  | ret (e : CE)
  | rai (k : Nat)
  | frz (i : Nat)
  | try_ (b : TB) (hs : List (Nat × Nat × D))
  | setd (i : Nat) (ks vs : CEs)
  | setk (i : Nat) (ks : List D) (vs : CEs)
  | pard (i j : Nat) (k v b : CE)
  | put (i : Nat) (k v : CE)
  | sdf (i : Nat) (k v : CE)
  | setc (i : Nat) (it : CI) (tg : Tg) (t : CO) (e : CE)
  | hole
inductive CSs where
  | nil
  | cons (a : CS) (as : CSs)
end

def forM (f : D → St → Out Fl) : List D → St → Out Fl
  | [], S => ok (.nx S)
  | x :: xs, S => (f x S).bind fun r => match r with
    | .nx S' => forM f xs S'
    | .rt d => ok (.rt d)
def whlM (c : St → Out Bool) (f : St → Out Fl) : Nat → St → Out Fl
  | 0, _ => bad
  | n + 1, S => (c S).bind fun b => if b = true then (f S).bind fun r => (match r with
      | .nx S' => whlM c f n S'
      | .rt d => ok (.rt d)) else ok (.nx S)

def ownL (S : St) (i : Nat) : Out (List D) := match S[i]? with
  | some (.ow (.list xs)) => ok xs
  | _ => bad
def asList : D → Out (List D)
  | .list xs => ok xs
  | _ => bad
/-- {}, or a dict of one tuple -/
def newN : List D → List D → Out D
  | [], [] => ok (.dict [mkD])
  | [k], [v] => guard (tkD k) (ok (.dict [mkD, (k, v)]))
  | _, _ => bad
def putO (k v : D) : List (D × D) → Out D
  | (.bool true, .none) :: es => guard (tkD k && fits es.length) (ok (.dict (mkD :: putD k v es)))
  | kvs => guard (keyD k && (nscr kvs && fits kvs.length)) (ok (.dict (putD k v kvs)))
def ownA (S : St) (i : Nat) : Out D := match S[i]? with
  | some (.ow d) => ok d
  | _ => bad
def putA : D → D → D → Out D
  | .dict kvs, k, v => putO k v kvs
  | .list xs, k, v => (asInt k).bind fun n => (ofOpt (ixD xs.length n)).bind fun j => ok (.list (xs.set j v))
  | _, _, _ => bad
def ownN (S : St) (i : Nat) : Out (List (D × D)) := match S[i]? with
  | some (.ow (.dict ((.bool true, .none) :: es))) => ok es
  | _ => bad
def sdfN (k v : D) (es : List (D × D)) : Out D := guard (tkD k && fits es.length) (ok (.dict (mkD :: if (lookD k es).isSome = true then es else putD k v es)))
/-- the class k is under the class j: 8 is that of all -/
def subX (k j : Nat) : Bool := decide (k = j) || decide (j = 8)
/-- what the clauses do -/
def hnd : List (Nat × Nat × D) → Nat → St → Out Fl
  | [], k, _ => exc k
  | (j, i, d) :: r, k, S => if subX k j = true then ok (.nx (S.set i (.fz d))) else hnd r k S
def tryM (o : Out Fl) (f : Nat → Out Fl) : Out Fl := match o with
  | ok a => ok a
  | exc k => f k
  | bad => bad
section
variable (Φ : Nat → List D → Out D) (wf : Nat)
def evT : TB → St → Out Fl
  | .set i e, S => (ev Φ e S).bind fun d => ok (.nx (S.set i (.fz d)))
  | .exp e, S => (ev Φ e S).bind fun _ => ok (.nx S)
  | .iff c a b, S => (ev Φ c S).bind fun x => (tru x).bind fun t => if t = true then evT a S else evT b S
mutual
def evS : CS → St → Out Fl
  | .set i e, S => (ev Φ e S).bind fun d => ok (.nx (S.set i (.fz d)))
  | .setl i es, S => (evs Φ es S).bind fun ds => guard (fits ds.length) (ok (.nx (S.set i (.ow (.list ds)))))
  | .unp tg e, S => (ev Φ e S).bind fun d => (bindT tg d S).map .nx
  | .unp3 i j k e, S => (ev Φ e S).bind fun d => (match d with
      | .tuple [a, b, c] => ok (.nx (((S.set i (.fz a)).set j (.fz b)).set k (.fz c)))
      | _ => bad)
  | .par i j a b, S => (ev Φ a S).bind fun x => (ev Φ b S).bind fun y => ok (.nx ((S.set i (.fz x)).set j (.fz y)))
  | .aug i e, S => (getF S i).bind fun x => (asInt x).bind fun m => (ev Φ e S).bind fun y => (asInt y).bind fun n => ok (.nx (S.set i (.fz (.int (m + n)))))
  | .app i e, S => (ownL S i).bind fun xs => (ev Φ e S).bind fun y => guard (fits xs.length) (ok (.nx (S.set i (.ow (.list (xs ++ [y]))))))
  | .ext i e, S => (ownL S i).bind fun xs => (ev Φ e S).bind fun y => (asList y).bind fun ys => guard (fits (xs.length + ys.length)) (ok (.nx (S.set i (.ow (.list (xs ++ ys))))))
  | .exp e, S => (ev Φ e S).bind fun _ => ok (.nx S)
  | .iff c a b, S => (ev Φ c S).bind fun x => (tru x).bind fun t => if t = true then evSs a S else evSs b S
  | .for_ tg it b, S => (evi Φ it S).bind fun xs => forM (fun x S => (bindT tg x S).bind fun S2 => evSs b S2) xs S
  | .whl c b, S => whlM (fun S => (ev Φ c S).bind tru) (fun S => evSs b S) wf S
  | .ret e, S => (ev Φ e S).bind fun d => ok (.rt d)
  | .rai k, _ => exc k
  | .frz i, S => (match S[i]? with
      | some (.ow d) => ok (.nx (S.set i (.fz d)))
      | some (.fz _) => ok (.nx S)
      | _ => bad)
  | .try_ b hs, S => tryM (evT Φ b S) fun k => hnd hs k S
  | .setc i it tg t e, S => (ev Φ (.lc it tg t e) S).bind fun d => ok (.nx (S.set i (.ow d)))
  | .hole, _ => bad
  | .setd i ks vs, S => (evs Φ ks S).bind fun xs => (evs Φ vs S).bind fun ys => (newN xs ys).bind fun d => ok (.nx (S.set i (.ow d)))
  | .setk i ks vs, S => (evs Φ vs S).calm.bind fun ds => (dspD ks ds).bind fun d => ok (.nx (S.set i (.ow d)))
  | .pard i j k v b, S => (ev Φ k S).bind fun x => (ev Φ v S).bind fun y => guard (tkD x) ((ev Φ b S).bind fun z => ok (.nx ((S.set i (.ow (.dict [mkD, (x, y)]))).set j (.fz z))))
  | .put i k v, S => (ev Φ v S).bind fun y => (ownA S i).bind fun d => (ev Φ k S).bind fun x => (putA d x y).bind fun d' => ok (.nx (S.set i (.ow d')))
  | .sdf i k v, S => (ownN S i).bind fun es => (ev Φ k S).bind fun x => (ev Φ v S).bind fun y => (sdfN x y es).bind fun d' => ok (.nx (S.set i (.ow d')))
def evSs : CSs → St → Out Fl
  | .nil, S => ok (.nx S)
  | .cons a as, S => (evS a S).bind fun r => match r with
    | .nx S' => evSs as S'
    | .rt d => ok (.rt d)
end
end

/-- a def: how many parameters, how many names in all, its body -/
structure Fn where
  np : Nat
  nn : Nat
  body : CSs

def startS (nn : Nat) (ds : List D) : St := ds.map .fz ++ List.replicate (nn - ds.length) .no
def runFn (Φ : Nat → List D → Out D) (wf : Nat) (f : Fn) (ds : List D) : Out D :=
  guard (decide (ds.length = f.np)) ((evSs Φ wf f.body (startS f.nn ds)).bind fun r => match r with
    | .nx _ => ok .none
    | .rt d => ok d)
/-- the functions of a table, calls n deep -/
def call (tbl : Nat → Option Fn) (wf : Nat) : Nat → Nat → List D → Out D
  | 0, _, _ => bad
  | n + 1, f, ds => match tbl f with
    | some fn => runFn (call tbl wf n) wf fn ds
    | none => bad
end FL

set_option Elab.async false
/-! FLchk: that a core term is the core of a piece of the program's text. -/
namespace FL
open PySem L2

/-- the module's own names -/
structure Gm where
  fn : Nat → Option Str
  gl : Nat → Option (Str × D)
  ex : Nat → Option Str

mutual
def beqD : D → D → Bool
  | .none, .none => true
  | .bool a, .bool b => a == b
  | .int i, .int j => decide (i = j)
  | .str x, .str y => decide (x = y)
  | .list xs, .list ys => beqDs xs ys
  | .tuple xs, .tuple ys => beqDs xs ys
  | _, _ => false
def beqDs : List D → List D → Bool
  | [], [] => true
  | x :: xs, y :: ys => beqD x y && beqDs xs ys
  | _, _ => false
end
mutual
theorem beqD_eq : ∀ {a b : D}, beqD a b = true → a = b
  | .none, .none, _ => rfl
  | .bool a, .bool b, h => by simp [beqD] at h; rw [h]
  | .int i, .int j, h => by simp [beqD] at h; rw [h]
  | .str x, .str y, h => by simp [beqD] at h; rw [h]
  | .list xs, .list ys, h => congrArg PyData.list (beqDs_eq (by simpa [beqD] using h))
  | .tuple xs, .tuple ys, h => congrArg PyData.tuple (beqDs_eq (by simpa [beqD] using h))
  | .none, .bool _, h => by simp [beqD] at h
  | .none, .int _, h => by simp [beqD] at h
  | .none, .str _, h => by simp [beqD] at h
  | .none, .list _, h => by simp [beqD] at h
  | .none, .tuple _, h => by simp [beqD] at h
  | .none, .dict _, h => by simp [beqD] at h
  | .bool _, .none, h => by simp [beqD] at h
  | .bool _, .int _, h => by simp [beqD] at h
  | .bool _, .str _, h => by simp [beqD] at h
  | .bool _, .list _, h => by simp [beqD] at h
  | .bool _, .tuple _, h => by simp [beqD] at h
  | .bool _, .dict _, h => by simp [beqD] at h
  | .int _, .none, h => by simp [beqD] at h
  | .int _, .bool _, h => by simp [beqD] at h
  | .int _, .str _, h => by simp [beqD] at h
  | .int _, .list _, h => by simp [beqD] at h
  | .int _, .tuple _, h => by simp [beqD] at h
  | .int _, .dict _, h => by simp [beqD] at h
  | .str _, .none, h => by simp [beqD] at h
  | .str _, .bool _, h => by simp [beqD] at h
  | .str _, .int _, h => by simp [beqD] at h
  | .str _, .list _, h => by simp [beqD] at h
  | .str _, .tuple _, h => by simp [beqD] at h
  | .str _, .dict _, h => by simp [beqD] at h
  | .list _, .none, h => by simp [beqD] at h
  | .list _, .bool _, h => by simp [beqD] at h
  | .list _, .int _, h => by simp [beqD] at h
  | .list _, .str _, h => by simp [beqD] at h
  | .list _, .tuple _, h => by simp [beqD] at h
  | .list _, .dict _, h => by simp [beqD] at h
  | .tuple _, .none, h => by simp [beqD] at h
  | .tuple _, .bool _, h => by simp [beqD] at h
  | .tuple _, .int _, h => by simp [beqD] at h
  | .tuple _, .str _, h => by simp [beqD] at h
  | .tuple _, .list _, h => by simp [beqD] at h
  | .tuple _, .dict _, h => by simp [beqD] at h
  | .dict _, b, h => by cases b <;> simp [beqD] at h
theorem beqDs_eq : ∀ {a b : List D}, beqDs a b = true → a = b
  | [], [], _ => rfl
  | x :: xs, y :: ys, h => by
    have h' : beqD x y = true ∧ beqDs xs ys = true := by simpa [beqDs] using h
    rw [beqD_eq h'.1, beqDs_eq h'.2]
  | [], _ :: _, h => by simp [beqDs] at h
  | _ :: _, [], h => by simp [beqDs] at h
end

def constIs : Const → D → Bool
  | .none, .none => true
  | .bool a, .bool b => a == b
  | .int i, .int j => decide (i = j)
  | .str x, .str y => decide (x = y)
  | _, _ => false
def nstB : Expr → Bool
  | .Starred _ _ => false
  | _ => true
def nsetB : Expr → Bool
  | .Set _ _ _ => false
  | _ => true
def nslB : Expr → Bool
  | .Slice _ _ _ _ => false
  | _ => true
def nlcB : Expr → Bool
  | .ListComp _ _ _ _ => false
  | .SetComp _ _ _ _ => false
  | .DictComp _ _ _ _ _ => false
  | _ => true
def glB (sc : Scope) (x : Str) : Bool := decide (sc.names.lookup x = some .globalImplicit) && (!(x == ("__debug__" : Str)) && decide (x ≠ ("__name__" : Str)))
def visB (sc : Scope) (x : Str) : Bool := match sc.names.lookup x with
  | some .local => true
  | some .cell => true
  | some .free => true
  | _ => false
def locB (sc : Scope) (x : Str) : Bool := match sc.names.lookup x with
  | some .local => true
  | some .cell => true
  | _ => false
def ndB (x : Str) : Bool := !(x == ("__debug__" : Str)) && !(x == ("__classdict__" : Str))

def bopIs : BOp → Operator → Bool
  | .add, .Add => true
  | .sub, .Sub => true
  | .mul, .Mult => true
  | .mod, .Mod => true
  | .fdiv, .FloorDiv => true
  | .pow, .Pow => true
  | _, _ => false
def copIs : COp → CmpOp → Bool
  | .eq, .Eq => true
  | .ne, .NotEq => true
  | .lt, .Lt => true
  | .le, .LtE => true
  | .gt, .Gt => true
  | .ge, .GtE => true
  | .inn, .In => true
  | .nin, .NotIn => true
  | .is, .Is => true
  | .isn, .IsNot => true
  | _, _ => false

def b1Name : B1 → Option Str
  | .len => some "len"
  | .tuple => some "tuple"
  | .list => some "list"
  | .int => some "int"
  | .max => some "max"
  | .min => some "min"
  | .sum => some "sum"
  | .sorted => some "sorted"
  | .dict => some "dict"
  | _ => none
def b1Isi : B1 → Option Str
  | .isInt => some "int"
  | .isBool => some "bool"
  | .isTuple => some "tuple"
  | .isStr => some "str"
  | .isList => some "list"
  | _ => none
/-- a thing whose method is asked -/
def atB : Expr → Bool
  | .Call (.Name _ _) [] [] _ => false
  | _ => true
/-- values of a dict: handed on -/
def b1Vals : B1 → Bool
  | .sortedvals => true
  | .listvals => true
  | _ => false
/-- the argument of a built-in's call -/
def b1Arg (sc : Scope) (f : B1) : Expr → Option Expr
  | .Call (.Name x _) [a] [] _ => match b1Name f with
    | some y => if (decide (x = y) && (glB sc x && nstB a)) = true then some a else none
    | none => match f, a with
      | .sortedvals, .Call (.Attribute b m ap) [] [] cp => if (decide (x = ("sorted" : Str)) && (decide (m = ("values" : Str)) && (glB sc x && (atB b && ap.endLine == cp.line)))) = true then some b else none
      | .listvals, .Call (.Attribute b m ap) [] [] cp => if (decide (x = ("list" : Str)) && (decide (m = ("values" : Str)) && (glB sc x && (atB b && ap.endLine == cp.line)))) = true then some b else none
      | .lenset, .Call (.Name z _) [b] [] _ => if (decide (x = ("len" : Str)) && (decide (z = ("set" : Str)) && (glB sc x && (glB sc z && nstB b)))) = true then some b else none
      | .sortedset, .Call (.Name z _) [b] [] _ => if (decide (x = ("sorted" : Str)) && (decide (z = ("set" : Str)) && (glB sc x && (glB sc z && nstB b)))) = true then some b else none
      | .listrange, .Call (.Name z _) [b] [] _ => if (decide (x = ("list" : Str)) && (decide (z = ("range" : Str)) && (glB sc x && (glB sc z && nstB b)))) = true then some b else none
      | _, _ => none
  | .Call (.Name x _) [a, .Name t _] [] _ => match b1Isi f with
    | some y => if (decide (x = ("isinstance" : Str)) && (decide (t = y) && (glB sc x && (glB sc t && nstB a)))) = true then some a else none
    | none => none
  | _ => none

def tgIs (N : List Str) (sc : Scope) : Tg → Expr → Bool
  | .one i, .Name x _ => decide (N[i]? = some x) && locB sc x
  | .two i j, .Tuple [.Name x _, .Name y _] _ _ => decide (N[i]? = some x) && (locB sc x && (decide (N[j]? = some y) && (locB sc y && decide (i ≠ j))))
  | _, _ => false
/-- a comprehension's own names and their places -/
def ownOf : Tg → Expr → List (Str × Nat)
  | .one i, .Name x _ => [(x, i)]
  | .two i j, .Tuple [.Name x _, .Name y _] _ _ => [(x, i), (y, j)]
  | _, _ => []

/-- zip, enumerate: into a tuple of names -/
def itTg : CI → Expr → Bool
  | .zip _ _, .Tuple _ _ _ => true
  | .zip _ _, _ => false
  | .enum _, .Tuple _ _ _ => true
  | .enum _, _ => false
  | _, _ => true
def isPk : CE → Bool
  | .pk _ => true
  | _ => false

def mthN : Mth → Str
  | .get => "get"
  | .index => "index"
  | .join => "join"
  | .split => "split"
  | .partition => "partition"
  | .count => "count"
/-- the keys of a written dict: constants -/
def chkK : List D → List (Option Expr) → Bool
  | [], [] => true
  | d :: ds, some (.Constant c _ _) :: es => constIs c d && chkK ds es
  | _, _ => false
section
variable (Γ : Gm) (N : List Str)
mutual
def chk (sc : Scope) : CE → Expr → Bool
  | .con d, e => match e with
    | .Constant c _ _ => constIs c d
    | _ => false
  | .glo g d, e => match e with
    | .Name x _ => (match Γ.gl g with
      | some (y, d') => decide (x = y) && (beqD d d' && glB sc x)
      | none => false)
    | _ => false
  | .var i, e => match e with
    | .Name x _ => decide (N[i]? = some x) && (visB sc x && ndB x)
    | _ => false
  | .pk i, e => match e with
    | .Name x _ => decide (N[i]? = some x) && (visB sc x && ndB x)
    | _ => false
  | .call f as, e => match e with
    | .Call (.Name x _) (a :: args) [] _ => (match Γ.fn f with
      | some y => decide (x = y) && (glB sc x && chks sc as (a :: args))
      | none => false)
    | _ => false
  | .bin o a b, e => match e with
    | .BinOp x op y _ => bopIs o op && (chk sc a x && chk sc b y)
    | _ => false
  | .neg a, e => match e with
    | .UnaryOp .USub x _ => chk sc a x
    | _ => false
  | .not a, e => match e with
    | .UnaryOp .Not x _ => chk sc a x
    | _ => false
  | .bool k as, e => match e with
    | .BoolOp op xs _ => (match op, k with
      | .And, true => chks' sc as xs
      | .Or, false => chks' sc as xs
      | _, _ => false)
    | _ => false
  | .ite c a b, e => match e with
    | .IfExp x y z _ => chk sc c x && (chk sc a y && (chk sc b z && (!isPk a && !isPk b)))
    | _ => false
  | .cmp o a b, e => match e with
    | .Compare x [op] [y] _ => copIs o op && (chk sc a x && (chk sc b y && nsetB y))
    | _ => false
  | .chn o p a b c, e => match e with
    | .Compare x [op, op'] [y, z] _ => copIs o op && (copIs p op' && (chk sc a x && (chk sc b y && (chk sc c z && nsetB z))))
    | _ => false
  | .isN yes a, e => match e with
    | .Compare x [op] [.Constant .none _ _] _ => (match op, yes with
      | .Is, true => chk sc a x
      | .IsNot, false => chk sc a x
      | _, _ => false)
    | _ => false
  | .tup as, e => match e with
    | .Tuple xs _ _ => chks sc as xs
    | _ => false
  | .lst as, e => match e with
    | .List xs _ => chks sc as xs
    | _ => false
  | .idx a b, e => match e with
    | .Subscript x y _ => chk sc a x && (chk sc b y && nslB y)
    | _ => false
  | .slc a lo hi, e => match e with
    | .Subscript x (.Slice l h none _) _ => chk sc a x && (chko sc lo l && chko sc hi h)
    | _ => false
  | .rev a, e => match e with
    | .Subscript x (.Slice none none (some (.UnaryOp .USub (.Constant (.int i) _ _) _)) _) _ => decide (i = 1) && chk sc a x
    | _ => false
  | .lc it tg t el, e => match e with
    | .ListComp elt [⟨te, iter, ifs, as⟩] scope _ => decide (as = 0) && (chki sc it iter && ((tgIs N scope tg te && itTg it te) && (blkC N sc scope (ownOf tg te) && (chkt (relS scope sc) t ifs && (chk (relS scope sc) el elt && (!isPk el && nsetB iter))))))
    | _ => false
  | .b1 f a, e => match b1Arg sc f e with
    | some x => chk sc a x && !(b1Vals f && isPk a)
    | none => false
  | .mth m a as, e => match e with
    | .Call (.Attribute x y ap) (b :: bs) [] cp => decide (y = mthN m) && (atB x && (ap.endLine == cp.line && (decide (bs.length ≤ 5) && (chk sc a x && chks sc as (b :: bs)))))
    | _ => false
  | .dsp ks vs, e => match e with
    | .Dict kes ves _ => chkK ks kes && chks sc vs ves
    | _ => false
  | .hole, _ => true
def chko (sc : Scope) : CO → Option Expr → Bool
  | .no, none => true
  | .so a, some e => chk sc a e
  | _, _ => false
def chkt (sc : Scope) : CO → List Expr → Bool
  | .no, [] => true
  | .so a, [e] => chk sc a e
  | _, _ => false
/-- arguments, items: handed on -/
def chks (sc : Scope) : CEs → List Expr → Bool
  | .nil, [] => true
  | .cons a as, e :: es => chk sc a e && (!isPk a && (nstB e && chks sc as es))
  | _, _ => false
/-- parts of and, or -/
def chks' (sc : Scope) : CEs → List Expr → Bool
  | .nil, [] => true
  | .cons a as, e :: es => chk sc a e && (!isPk a && chks' sc as es)
  | _, _ => false
def chki (sc : Scope) : CI → Expr → Bool
  | .seq a, e => chk sc a e && !isPk a
  | .rng a, e => match e with
    | .Call (.Name x _) [b] [] _ => decide (x = ("range" : Str)) && (glB sc x && (chk sc a b && nstB b))
    | _ => false
  | .zip a b, e => match e with
    | .Call (.Name x _) [p, q] [] _ => decide (x = ("zip" : Str)) && (glB sc x && (chk sc a p && (chk sc b q && (nstB p && (nstB q && (!isPk a && !isPk b))))))
    | _ => false
  | .vals a, e => match e with
    | .Call (.Attribute x m ap) [] [] cp => decide (m = ("values" : Str)) && (chk sc a x && (!isPk a && (atB x && ap.endLine == cp.line)))
    | _ => false
  | .enum a, e => match e with
    | .Call (.Name x _) [p] [] _ => decide (x = ("enumerate" : Str)) && (glB sc x && (chk sc a p && (nstB p && !isPk a)))
    | _ => false
end

/-- name = value: how a comprehension's value is stored -/
def setB (sc : Scope) (x : Str) (p : Pos) : Expr → Bool
  | .ListComp _ _ s p2 => !(decide (sc.names.lookup x = some .local) && decide (p.line = p2.line)) || !(s.names.any fun (n, k) => n == x && (k == .local || k == .cell))
  | .SetComp _ _ _ _ => false
  | .DictComp _ _ _ _ _ => false
  | _ => true
def nameB : Expr → Bool
  | .Name _ _ => true
  | _ => false
/-- a tuple into names that are not all plain locals, or no tuple -/
def unpB (sc : Scope) : Tg → Expr → Expr → Bool
  | .two _ _, .Tuple [.Name x _, .Name y _] _ _, .Tuple _ _ _ => !(decide (sc.names.lookup x = some .local) && decide (sc.names.lookup y = some .local))
  | .two _ _, _, .Tuple _ _ _ => false
  | .two _ _, _, _ => true
  | .one _, _, _ => false
/-- stored from the right without a tuple -/
def swapB (sc : Scope) (x y : Str) (p q : Pos) (v w : Expr) : Bool := decide (sc.names.lookup x = some .local) && (decide (sc.names.lookup y = some .local) && (decide (p.line = q.line) && (!([v, w].all (foldedForSure 8)) && !([v, w].all (constantsAlone 8)))))
def excArg : Expr → Bool
  | .Constant (.str _) _ _ => true
  | _ => false
def chkT (sc : Scope) : TB → List Stmt → Bool
  | .set i e, r => match r with
    | [.Assign [.Name x p] v q] => decide (N[i]? = some x) && (locB sc x && (chk Γ N sc e v && (!isPk e && nlcB v)))
    | _ => false
  | .exp e, r => match r with
    | [.Expr v _] => chk Γ N sc e v && nlcB v
    | _ => false
  | .iff c a b, r => match r with
    | [.If t x y _] => chk Γ N sc c t && (chkT sc a x && chkT sc b y)
    | _ => false
def chkH (sc : Scope) : List (Nat × Nat × D) → List ExceptHandler → Bool
  | [], [] => true
  | (j, i, d) :: r, .ExceptHandler (some (.Name x _)) none [.Assign [.Name y _] (.Constant c _ _) _] _ :: hs => (match Γ.ex j with
    | some x' => decide (x = x') && (glB sc x && (decide (N[i]? = some y) && (locB sc y && (constIs c d && chkH sc r hs))))
    | none => false)
  | _, _ => false
mutual
def chkS (sc : Scope) : CS → List Stmt → Option (List Stmt)
  | .setd i ks vs, r => match r with
    | .Assign [.Name x _] (.Dict [] [] _) _ :: r => (match ks, vs with
      | .nil, .nil => if (decide (N[i]? = some x) && locB sc x) = true then some r else none
      | _, _ => none)
    | .Assign [.Name x _] (.Dict [some k] [v] _) _ :: r => (match ks, vs with
      | .cons a .nil, .cons b .nil => if (decide (N[i]? = some x) && (locB sc x && (chk Γ N sc a k && (chk Γ N sc b v && (!isPk a && !isPk b))))) = true then some r else none
      | _, _ => none)
    | _ => none
  | .hole, r => match r with
    | _ :: r => some r
    | _ => none
  | .setc i it tg t el, r => match r with
    | .Assign [.Name x p] (.ListComp elt gs scope p2) _ :: r => if (decide (N[i]? = some x) && (chk Γ N sc (.lc it tg t el) (.ListComp elt gs scope p2) && (decide (sc.names.lookup x = some .local) && (decide (p.line = p2.line) && !(scope.names.any fun (n, k) => n == x && (k == .local || k == .cell)))))) = true then some r else none
    | _ => none
  | .setk i ks vs, r => match r with
    | .Assign [.Name x _] (.Dict kes ves _) _ :: r => if (decide (N[i]? = some x) && (locB sc x && (chkK ks kes && chks Γ N sc vs ves))) = true then some r else none
    | _ => none
  | .pard i j k v b, r => match r with
    | .Assign [.Tuple [.Name x p, .Name y q] _ _] (.Tuple [.Dict [some ke] [ve] pd, be] _ _) _ :: r => if (decide (N[i]? = some x) && (decide (N[j]? = some y) && (decide (i ≠ j) && (decide (x ≠ y) && (swapB sc x y p q (.Dict [some ke] [ve] pd) be && (chk Γ N sc k ke && (chk Γ N sc v ve && (chk Γ N sc b be && (!isPk k && (!isPk v && (!isPk b && nstB be))))))))))) = true then some r else none
    | _ => none
  | .put i k v, r => match r with
    | .Assign [.Subscript (.Name x _) ke _] ve _ :: r => if (decide (N[i]? = some x) && (visB sc x && (ndB x && (chk Γ N sc k ke && (chk Γ N sc v ve && (!isPk k && (!isPk v && (nlcB ve && nslB ke)))))))) = true then some r else none
    | _ => none
  | .sdf i k v, r => match r with
    | .Expr (.Call (.Attribute (.Name x _) m ap) [ke, ve] [] cp) _ :: r => if (decide (N[i]? = some x) && (visB sc x && (ndB x && (decide (m = ("setdefault" : Str)) && (chk Γ N sc k ke && (chk Γ N sc v ve && (!isPk k && (!isPk v && (nstB ke && (nstB ve && ap.endLine == cp.line)))))))))) = true then some r else none
    | _ => none
  | .try_ b hs, r => match r with
    | .Try body (h :: hds) [] [] _ :: r => if (chkT Γ N sc b body && chkH Γ N sc hs (h :: hds)) = true then some r else none
    | _ => none
  | .frz _, r => some r
  | .set i e, r => match r with
    | .Assign [.Name x p] v q :: r => if (decide (N[i]? = some x) && (locB sc x && (chk Γ N sc e v && (!isPk e && setB sc x p v)))) = true then some r else none
    | _ => none
  | .setl i es, r => match r with
    | .Assign [.Name x _] (.List xs _) _ :: r => if (decide (N[i]? = some x) && (locB sc x && chks Γ N sc es xs)) = true then some r else none
    | _ => none
  | .unp tg e, r => match r with
    | .Assign [t] v _ :: r => if (tgIs N sc tg t && (chk Γ N sc e v && (!isPk e && (nlcB v && unpB sc tg t v)))) = true then some r else none
    | _ => none
  | .unp3 i j k e, r => match r with
    | .Assign [.Tuple [.Name x _, .Name y _, .Name z _] _ _] v _ :: r => if (decide (N[i]? = some x) && (locB sc x && (decide (N[j]? = some y) && (locB sc y && (decide (N[k]? = some z) && (locB sc z && (chk Γ N sc e v && (!isPk e && nameB v)))))))) = true then some r else none
    | _ => none
  | .par i j a b, r => match r with
    | .Assign [.Tuple [.Name x p, .Name y q] _ _] (.Tuple [v, w] _ _) _ :: r => if (decide (N[i]? = some x) && (decide (N[j]? = some y) && (decide (i ≠ j) && (decide (x ≠ y) && (swapB sc x y p q v w && (chk Γ N sc a v && (chk Γ N sc b w && (!isPk a && (!isPk b && (nstB v && nstB w)))))))))) = true then some r else none
    | _ => none
  | .aug i e, r => match r with
    | .AugAssign (.Name x _) .Add v _ :: r => if (decide (N[i]? = some x) && (locB sc x && (chk Γ N sc e v && !isPk e))) = true then some r else none
    | _ => none
  | .app i e, r => match r with
    | .Expr (.Call (.Attribute (.Name x _) m ap) [v] [] cp) _ :: r => if (decide (N[i]? = some x) && (visB sc x && (ndB x && (decide (m = ("append" : Str)) && (chk Γ N sc e v && (!isPk e && (nstB v && ap.endLine == cp.line))))))) = true then some r else none
    | _ => none
  | .ext i e, r => match r with
    | .Expr (.Call (.Attribute (.Name x _) m ap) [v] [] cp) _ :: r => if (decide (N[i]? = some x) && (visB sc x && (ndB x && (decide (m = ("extend" : Str)) && (chk Γ N sc e v && (!isPk e && (nstB v && ap.endLine == cp.line))))))) = true then some r else none
    | _ => none
  | .exp e, r => match r with
    | .Expr v _ :: r => if (chk Γ N sc e v && nlcB v) = true then some r else none
    | _ => none
  | .iff c a b, r => match r with
    | .If t x y _ :: r => if (chk Γ N sc c t && (chkSs sc a x && chkSs sc b y)) = true then some r else none
    | _ => none
  | .for_ tg it b, r => match r with
    | .For t iter x [] _ :: r => if ((tgIs N sc tg t && itTg it t) && (chki Γ N sc it iter && (chkSs sc b x && nsetB iter))) = true then some r else none
    | _ => none
  | .whl c b, r => match r with
    | .While t x [] _ :: r => if (chk Γ N sc c t && chkSs sc b x) = true then some r else none
    | _ => none
  | .ret e, r => match r with
    | .Return (some v) _ :: r => if (chk Γ N sc e v && !isPk e) = true then some r else none
    | _ => none
  | .rai k, r => match r with
    | .Raise (some (.Call (.Name x _) [a] [] _)) none _ :: r => (match Γ.ex k with
      | some y => if (decide (x = y) && (glB sc x && excArg a)) = true then some r else none
      | none => none)
    | _ => none
def chkSs (sc : Scope) : CSs → List Stmt → Bool
  | .nil, r => r.isEmpty
  | .cons a as, r => match chkS sc a r with
    | some r' => chkSs sc as r'
    | none => false
end
end
end FL

set_option Elab.async false
set_option maxRecDepth 100000
set_option maxHeartbeats 4000000
/-! FLd0: dicts whose keys are tuples of whole numbers, nested: the object. -/
namespace FL
open PySem PySem.Spec PyProof.Rows L2

/-! ### keys -/
mutual
/-- whole numbers and tuples of such -/
def numK : NestedKey → Bool
  | .num _ => true
  | .tup ks => numKs ks
  | _ => false
def numKs : List NestedKey → Bool
  | [] => true
  | k :: ks => numK k && numKs ks
end
mutual
theorem hash_num (w w' : World) : ∀ k : NestedKey, numK k = true → NestedKey.hash w k = NestedKey.hash w' k
  | .num _, _ => rfl
  | .tup ks, h => by
    rw [NestedKey.hash, NestedKey.hash, hashes_num w w' ks (by simpa [numK] using h)]
  | .none, h => by simp [numK] at h
  | .text _, h => by simp [numK] at h
theorem hashes_num (w w' : World) : ∀ ks : List NestedKey, numKs ks = true → NestedKey.hashes w ks = NestedKey.hashes w' ks
  | [], _ => rfl
  | k :: ks, h => by
    have h' : numK k = true ∧ numKs ks = true := by simpa [numKs] using h
    rw [NestedKey.hashes, NestedKey.hashes, hash_num w w' k h'.1, hashes_num w w' ks h'.2]
end
mutual
theorem nk_num : ∀ {d : D} {k : NestedKey}, nk d = some k → numK k = true
  | .int i, k, h => by
    have h : some (NestedKey.num i) = some k := by simpa [nk] using h
    cases h
    rfl
  | .tuple ds, k, h => by
    have h : (nks ds).map NestedKey.tup = some k := by simpa [nk] using h
    cases q : nks ds with
    | none =>
      rw [q] at h
      cases h
    | some ks =>
      rw [q] at h
      cases h
      rw [numK]
      exact nks_num q
  | .none, k, h => by simp [nk] at h
  | .bool _, k, h => by simp [nk] at h
  | .str _, k, h => by simp [nk] at h
  | .list _, k, h => by simp [nk] at h
  | .dict _, k, h => by simp [nk] at h
theorem nks_num : ∀ {ds : List D} {ks : List NestedKey}, nks ds = some ks → numKs ks = true
  | [], ks, h => by
    have h : some ([] : List NestedKey) = some ks := by simpa [nks] using h
    cases h
    rfl
  | d :: ds, ks, h => by
    obtain ⟨j, js, h1, h2, rfl⟩ := nks_cons h
    rw [numKs, nk_num h1, nks_num h2]
    rfl
theorem nks_cons {d : D} {ds : List D} {ks : List NestedKey} (h : nks (d :: ds) = some ks) : ∃ j js, nk d = some j ∧ nks ds = some js ∧ ks = j :: js := by
  have h : (nk d).bind (fun k => (nks ds).map (k :: ·)) = some ks := by simpa [nks] using h
  cases q : nk d with
  | none =>
    rw [q] at h
    cases h
  | some j =>
    rw [q] at h
    have h : (nks ds).map (j :: ·) = some ks := h
    cases q2 : nks ds with
    | none =>
      rw [q2] at h
      cases h
    | some js =>
      rw [q2] at h
      cases h
      exact ⟨j, js, rfl, rfl, rfl⟩
end
theorem tkD_of {d : D} (h : tkD d = true) : ∃ ds ks, d = .tuple ds ∧ nks ds = some ks ∧ nk d = some (.tup ks) ∧ (NestedKey.tup ks).depth ≤ 8 := by
  cases d <;> first | (cases h; done) | skip
  rename_i ds
  cases q2 : nks ds with
  | none =>
    have e : nk (.tuple ds) = none := by simp [nk, q2]
    simp [tkD, e] at h
  | some ks =>
    have e : nk (.tuple ds) = some (.tup ks) := by simp [nk, q2]
    simp only [tkD, e, decide_eq_true_eq] at h
    exact ⟨ds, ks, rfl, q2, e, h⟩

/-! ### the object -/
abbrev NX := List (NestedKey × Addr × V)
abbrev NY := List (NestedKey × Addr × Value)
abbrev NR : NX → NY → Prop := Paired fun p q => p.1 = q.1 ∧ p.2.1 = q.2.1 ∧ RelV p.2.2 q.2.2
def entN (w : World) (y : NestedKey × Addr × Value) : DictEntry := ⟨NestedKey.hash w y.1, .ref y.2.1, y.2.2⟩
def dNφ (a : Addr) (xs : NX) (ep : Nat) (h : Heap) : Prop := (a == sysModules) = false ∧ xs.length ≤ sizeLine ∧ (xs.map (·.1)).Nodup ∧ (∀ x ∈ xs, numK x.1 = true) ∧
  ∃ (w : World) (ys : NY) (o : Obj) (es : Array DictEntry), NR xs ys ∧ h.get? a = some o ∧ o.ExactDict ∧ o.data = .dict es ep ∧ es.toList = ys.map (entN w)
def dN (a : Addr) (xs : NX) (ep : Nat) : HO := .ext (dNφ a xs ep)
theorem dNφ.at {a : Addr} {xs : NX} {ep : Nat} {h h' : Heap} (x : dNφ a xs ep h) (k : ∀ o, h.get? a = some o → h'.get? a = some o) : dNφ a xs ep h' := by
  obtain ⟨h1, h2, h3, h4, w, ys, o, es, r, e, c⟩ := x
  exact ⟨h1, h2, h3, h4, w, ys, o, es, r, k o e, c⟩
theorem dN_new {P : Program} {w : World} {H : Hp} {h : Heap} {a : Addr} {xs : NX} {ep : Nat} (x : dNφ a xs ep h) : ObjOk P w H h a (dN a xs ep) := by
  refine ⟨x, ?_, fun h1 h2 y k => y.at k⟩
  obtain ⟨_, _, _, _, w, ys, o, es, r, e, c⟩ := x
  exact ⟨o, e⟩
theorem NR.keys {xs : NX} {ys : NY} (r : NR xs ys) : xs.map (·.1) = ys.map (·.1) := by
  induction r with
  | nil => rfl
  | cons h t ih => rw [List.map_cons, List.map_cons, ih, h.1]
theorem NR.all {xs : NX} {ys : NY} (r : NR xs ys) {p : NestedKey → Addr → Prop} (h : ∀ x ∈ xs, p x.1 x.2.1) : ∀ y ∈ ys, p y.1 y.2.1 := by
  induction r with
  | nil =>
    intro y hy
    cases hy
  | @cons x y xs ys h1 t ih =>
    intro z hz
    rcases List.mem_cons.mp hz with e | hz
    · subst e
      rw [← h1.1, ← h1.2.1]
      exact h x List.mem_cons_self
    · exact ih (fun x hx => h x (List.mem_cons_of_mem _ hx)) z hz
theorem entN_num {w w' : World} {y : NestedKey × Addr × Value} (h : numK y.1 = true) : entN w y = entN w' y := by
  unfold entN
  rw [hash_num w w' y.1 h]
/-- the dict, once its keys are known -/
theorem dN_of {P : Program} {w : World} {a : Addr} {xs : NX} {ep : Nat} {h : Heap} (x : dNφ a xs ep h) (hk : ∀ x ∈ xs, (nestedKind P w).is h x.1 x.2.1) : ∃ ys, NR xs ys ∧ h.DictOfH (nestedKind P w) a ys ∧ ∃ es : Array DictEntry, (∃ o, h.get? a = some o ∧ o.ExactDict ∧ o.data = .dict es ep) ∧ es.toList = ys.map (entN w) := by
  obtain ⟨h1, h2, h3, h4, w', ys, o, es, r, e, c, d, l⟩ := x
  have l' : es.toList = ys.map (entN w) := by
    rw [l]
    refine List.map_congr_left fun y hy => entN_num ?_
    exact r.all (p := fun k _ => numK k = true) (fun x hx => h4 x hx) y hy
  refine ⟨ys, r, ⟨o, es, ep, e, c, d, l', r.all (p := fun k b => (nestedKind P w).is h k b) hk, ?_⟩, es, ⟨o, e, c, d⟩, l'⟩
  rw [← r.keys]
  exact h3
/-- such a dict is one -/
theorem dN_is {P : Program} {w : World} {a : Addr} {xs : NX} {ys : NY} {h : Heap} (hd : (a == sysModules) = false) (hl : xs.length ≤ sizeLine) (hn : ∀ x ∈ xs, numK x.1 = true) (r : NR xs ys) (x : h.DictOfH (nestedKind P w) a ys) : ∃ ep, dNφ a xs ep h := by
  obtain ⟨o, es, ep, e, c, d, l, _, nd⟩ := x
  exact ⟨ep, hd, hl, by rw [r.keys]; exact nd, hn, w, ys, o, es, r, e, c, d, l⟩

/-! ### keys and values found -/
/-- in its place, or at the end -/
def putN (xs : NX) (k : NestedKey) (b : Addr) (v : V) : NX := if (xs.any fun x => decide (x.1 = k)) = true then xs.map fun x => if x.1 = k then (x.1, x.2.1, v) else x else xs ++ [(k, b, v)]
def lookN (xs : NX) (k : NestedKey) : Option V := (xs.find? fun x => decide (x.1 = k)).map (·.2.2)
theorem NR.look {xs : NX} {ys : NY} (r : NR xs ys) (k : NestedKey) : RelO (lookN xs k) ((atKey ys k).map (·.2)) := by
  induction r with
  | nil => exact trivial
  | @cons x y xs ys h t ih =>
    unfold lookN atKey
    by_cases e : x.1 = k
    · rw [List.find?_cons_of_pos (by simp [e]), List.find?_cons_of_pos (by simp [← h.1, e])]
      exact h.2.2
    · rw [List.find?_cons_of_neg (by simp [e]), List.find?_cons_of_neg (by simp [← h.1, e])]
      exact ih
theorem NR.any {xs : NX} {ys : NY} (r : NR xs ys) (k : NestedKey) : (xs.any fun x => decide (x.1 = k)) = (atKey ys k).isSome := by
  induction r with
  | nil => rfl
  | @cons x y xs ys h t ih =>
    unfold atKey at ih ⊢
    by_cases e : x.1 = k
    · rw [List.find?_cons_of_pos (by simp [← h.1, e]), List.any_cons]
      simp [e]
    · rw [List.find?_cons_of_neg (by simp [← h.1, e]), List.any_cons, ih]
      simp [e]
theorem NR.snoc {xs : NX} {ys : NY} (r : NR xs ys) {k : NestedKey} {b : Addr} {v : V} {u : Value} (rv : RelV v u) : NR (xs ++ [(k, b, v)]) (ys ++ [(k, b, u)]) := by
  induction r with
  | nil => exact .cons ⟨rfl, rfl, rv⟩ .nil
  | cons h t ih => exact .cons h ih
theorem NR.put {xs : NX} {ys : NY} (r : NR xs ys) (k : NestedKey) (b : Addr) {v : V} {u : Value} (rv : RelV v u) : NR (putN xs k b v) (storedH ys k b u) := by
  unfold putN storedH
  rw [r.any k]
  by_cases e : (atKey ys k).isSome = true
  · rw [if_pos e, if_pos e]
    clear e
    induction r with
    | nil => exact .nil
    | @cons x y xs ys h t ih =>
      refine .cons ?_ ih
      unfold putAt
      dsimp only
      by_cases e : x.1 = k
      · rw [if_pos e, if_pos (by rw [← h.1]; exact e)]
        exact ⟨h.1, h.2.1, rv⟩
      · rw [if_neg e, if_neg (by rw [← h.1]; exact e)]
        exact h
  · rw [if_neg e, if_neg e]
    exact r.snoc rv
theorem putN_len (xs : NX) (k : NestedKey) (b : Addr) (v : V) : (putN xs k b v).length ≤ xs.length + 1 := by
  unfold putN
  split
  · simp
  · simp
theorem putN_num {xs : NX} {k : NestedKey} {b : Addr} {v : V} (h : ∀ x ∈ xs, numK x.1 = true) (hk : numK k = true) : ∀ x ∈ putN xs k b v, numK x.1 = true := by
  intro x hx
  unfold putN at hx
  split at hx
  · obtain ⟨y, hy, e⟩ := List.mem_map.mp hx
    rw [← e]
    split
    · exact h y hy
    · exact h y hy
  · rcases List.mem_append.mp hx with z | z
    · exact h x z
    · have e : x = (k, b, v) := by simpa using z
      rw [e]
      exact hk
end FL

set_option Elab.async false
set_option maxRecDepth 100000
set_option maxHeartbeats 4000000
/-! FLs1: data in the abstract heap; the frozen part; what an evaluation wants. -/
namespace FL
open PySem PySem.Spec PyProof.Rows L2

/-! ### the frozen part of the heap -/
structure Ext (F H F' H' : Hp) : Prop where
  ff : Same F F'
  hh : Same H H'
  fh : Same F' H'
  nw : ∀ b o, F' b = some o → F b = some o ∨ H b = none
theorem Ext.refl {F H : Hp} (h : Same F H) : Ext F H F H := ⟨Same.refl F, Same.refl H, h, fun _ _ e => .inl e⟩
theorem Ext.trans {F H F1 H1 F2 H2 : Hp} (a : Ext F H F1 H1) (b : Ext F1 H1 F2 H2) : Ext F H F2 H2 :=
  ⟨a.ff.trans b.ff, a.hh.trans b.hh, b.fh, fun c o e => by
    rcases b.nw c o e with h | h
    · exact a.nw c o h
    · exact .inr (a.hh.free h)⟩
theorem same_upd {H : Hp} {p : Addr} {o : HO} (h : H p = none) : Same H (upd H p o) := fun b x e => by
  rw [upd_ne (ne_of_none e h)]
  exact e
/-- a new frozen object -/
theorem Ext.new {F H : Hp} {p : Addr} {o : HO} (s : Same F H) (h : H p = none) : Ext F H (upd F p o) (upd H p o) :=
  ⟨same_upd (s.free h), same_upd h, fun b x e => by
    by_cases hb : b = p
    · subst hb
      rw [upd_same] at e
      rw [upd_same]
      exact e
    · rw [upd_ne hb] at e
      rw [upd_ne hb]
      exact s b x e, fun b x e => by
    by_cases hb : b = p
    · subst hb
      exact .inr h
    · rw [upd_ne hb] at e
      exact .inl e⟩
/-- a new object, not frozen -/
theorem Ext.lay {F H : Hp} {p : Addr} {o : HO} (s : Same F H) (h : H p = none) : Ext F H F (upd H p o) :=
  ⟨Same.refl F, same_upd h, fun b x e => same_upd h b x (s b x e), fun _ _ e => .inl e⟩
theorem Same.rd {F F' : Hp} (s : Same F F') {a : Addr} {u : HO} (h : Rd F a u) : Rd F' a u := by
  rcases h with h | ⟨o, h⟩
  · exact .inl (s _ _ h)
  · exact .inr ⟨o, s _ _ h⟩
theorem Same.sqt {K : PySem.W.Frag} {F F' : Hp} (s : Same F F') {a : Addr} {xs : List V} (h : SqT K F a xs) : SqT K F' a xs := by
  rcases h with h | h
  · exact .inl (Same.rd s h)
  · exact .inr h

/-! ### data -/
/-- a dict: its keys and values in order -/
def DicAt (F : Hp) (a : Addr) (kvs : List (V × V)) : Prop := ∃ l : List (Key × V), F a = some (.dK l) ∧ kvs = l.map fun p => (kV p.1, p.2)
theorem DicAt.mono {F F' : Hp} (s : Same F F') {a : Addr} {kvs : List (V × V)} (h : DicAt F a kvs) : DicAt F' a kvs := by
  obtain ⟨l, e, z⟩ := h
  exact ⟨l, s _ _ e, z⟩
mutual
inductive DD (K : PySem.W.Frag) (F : Hp) : V → D → Prop
  | non : DD K F .non .none
  | bl (b : Bool) : DD K F (.bl b) (.bool b)
  | int (i : Int) : DD K F (.int i) (.int i)
  | str (x : Str) : DD K F (.str x) (.str x)
  | lst {a : Addr} {xs : List V} {ds : List D} : Rd F a (.lst xs) → DDs K F xs ds → DD K F (.ref a) (.list ds)
  | tup {a : Addr} {xs : List V} {ds : List D} : SqT K F a xs → DDs K F xs ds → DD K F (.ref a) (.tuple ds)
  | dic {a : Addr} {xs : List (V × V)} {es : List (D × D)} : DicAt F a xs → DDk K F xs es → DD K F (.ref a) (.dict es)
  | scr {a : Addr} {ns : List Int} : SqL K F a (ns.map V.int) → DD K F (.ref a) (FL.scr ns)
  | dnn {a : Addr} {xs : NX} {ep : Nat} {es : List (D × D)} : F a = some (dN a xs ep) → DDx K F xs es → DD K F (.ref a) (.dict (mkD :: es))
inductive DDs (K : PySem.W.Frag) (F : Hp) : List V → List D → Prop
  | nil : DDs K F [] []
  | cons {v : V} {vs : List V} {d : D} {ds : List D} : DD K F v d → DDs K F vs ds → DDs K F (v :: vs) (d :: ds)
inductive DDk (K : PySem.W.Frag) (F : Hp) : List (V × V) → List (D × D) → Prop
  | nil : DDk K F [] []
  | cons {v u : V} {vs : List (V × V)} {d e : D} {ds : List (D × D)} : DD K F v d → DD K F u e → DDk K F vs ds → DDk K F ((v, u) :: vs) ((d, e) :: ds)
inductive DDx (K : PySem.W.Frag) (F : Hp) : NX → List (D × D) → Prop
  | nil : DDx K F [] []
  | cons {k : NestedKey} {b : Addr} {u : V} {xs : NX} {d e : D} {ds : List (D × D)} : nk d = some k → tkD d = true → DD K F (.ref b) d → DD K F u e → DDx K F xs ds → DDx K F ((k, b, u) :: xs) ((d, e) :: ds)
end
section
variable {K : PySem.W.Frag} {F F' : Hp}
mutual
theorem DD.mono (s : Same F F') : ∀ {v : V} {d : D}, DD K F v d → DD K F' v d
  | _, _, .non => .non
  | _, _, .bl b => .bl b
  | _, _, .int i => .int i
  | _, _, .str x => .str x
  | _, _, .lst h t => .lst (Same.rd s h) (DDs.mono s t)
  | _, _, .tup h t => .tup (Same.sqt s h) (DDs.mono s t)
  | _, _, .dic h t => .dic (h.mono s) (DDk.mono s t)
  | _, _, .scr h => .scr (s.seq h)
  | _, _, .dnn h t => .dnn (s _ _ h) (DDx.mono s t)
theorem DDs.mono (s : Same F F') : ∀ {v : List V} {d : List D}, DDs K F v d → DDs K F' v d
  | _, _, .nil => .nil
  | _, _, .cons h t => .cons (DD.mono s h) (DDs.mono s t)
theorem DDk.mono (s : Same F F') : ∀ {v : List (V × V)} {d : List (D × D)}, DDk K F v d → DDk K F' v d
  | _, _, .nil => .nil
  | _, _, .cons h g t => .cons (DD.mono s h) (DD.mono s g) (DDk.mono s t)
theorem DDx.mono (s : Same F F') : ∀ {v : NX} {d : List (D × D)}, DDx K F v d → DDx K F' v d
  | _, _, .nil => .nil
  | _, _, .cons a b h g t => .cons a b (DD.mono s h) (DD.mono s g) (DDx.mono s t)
end
theorem DDs.length : ∀ {vs : List V} {ds : List D}, DDs K F vs ds → vs.length = ds.length
  | _, _, .nil => rfl
  | _, _, .cons _ t => by rw [List.length_cons, List.length_cons, DDs.length t]
theorem DDs.get : ∀ {vs : List V} {ds : List D}, DDs K F vs ds → ∀ (i : Nat) (d : D), ds[i]? = some d → ∃ v, vs[i]? = some v ∧ DD K F v d
  | _, _, .nil, i, d, e => by simp at e
  | _, _, .cons h _, 0, d, e => by
    simp at e
    subst e
    exact ⟨_, rfl, h⟩
  | _, _, .cons _ t, i + 1, d, e => by
    obtain ⟨v, e1, e2⟩ := DDs.get t i d (by simpa using e)
    exact ⟨v, by simpa using e1, e2⟩
theorem DDs.getV : ∀ {vs : List V} {ds : List D}, DDs K F vs ds → ∀ (i : Nat) (v : V), vs[i]? = some v → ∃ d, ds[i]? = some d ∧ DD K F v d
  | _, _, .nil, i, d, e => by simp at e
  | _, _, .cons h _, 0, d, e => by
    simp at e
    subst e
    exact ⟨_, rfl, h⟩
  | _, _, .cons _ t, i + 1, d, e => by
    obtain ⟨v, e1, e2⟩ := DDs.getV t i d (by simpa using e)
    exact ⟨v, by simpa using e1, e2⟩
theorem DDs.append : ∀ {vs ws : List V} {ds es : List D}, DDs K F vs ds → DDs K F ws es → DDs K F (vs ++ ws) (ds ++ es)
  | _, _, _, _, .nil, h => h
  | _, _, _, _, .cons a t, h => .cons a (DDs.append t h)
theorem DDs.take : ∀ {vs : List V} {ds : List D} (n : Nat), DDs K F vs ds → DDs K F (vs.take n) (ds.take n)
  | _, _, 0, _ => .nil
  | _, _, _ + 1, .nil => .nil
  | _, _, n + 1, .cons a t => .cons a (DDs.take n t)
theorem DDs.drop : ∀ {vs : List V} {ds : List D} (n : Nat), DDs K F vs ds → DDs K F (vs.drop n) (ds.drop n)
  | _, _, 0, h => h
  | _, _, _ + 1, .nil => .nil
  | _, _, n + 1, .cons _ t => DDs.drop n t
theorem DDs.set : ∀ {vs : List V} {ds : List D} {v : V} {d : D} (i : Nat), DDs K F vs ds → DD K F v d → DDs K F (vs.set i v) (ds.set i d)
  | _, _, _, _, _, .nil, _ => .nil
  | _, _, _, _, 0, .cons _ t, h => .cons h t
  | _, _, _, _, i + 1, .cons a t, h => .cons a (DDs.set i t h)
theorem DDs.reverse {vs : List V} {ds : List D} (h : DDs K F vs ds) : DDs K F vs.reverse ds.reverse := by
  induction vs generalizing ds with
  | nil => cases h; exact .nil
  | cons v vs ih =>
    cases h with
    | cons a t =>
      rw [List.reverse_cons, List.reverse_cons]
      exact (ih t).append (.cons a .nil)
theorem DDs.ints : ∀ (ns : List Int), DDs K F (ns.map V.int) (ns.map PyData.int)
  | [] => .nil
  | n :: r => .cons (.int n) (DDs.ints r)
theorem DDs.replicate {vs : List V} {ds : List D} (h : DDs K F vs ds) : ∀ n : Nat, DDs K F (List.replicate n vs).flatten (List.replicate n ds).flatten
  | 0 => .nil
  | n + 1 => by
    rw [List.replicate_succ, List.replicate_succ, List.flatten_cons, List.flatten_cons]
    exact h.append (DDs.replicate h n)
theorem DDs.isEmpty {vs : List V} {ds : List D} (h : DDs K F vs ds) : vs.isEmpty = ds.isEmpty := by
  cases h <;> rfl
theorem DDk.length : ∀ {vs : List (V × V)} {ds : List (D × D)}, DDk K F vs ds → vs.length = ds.length
  | _, _, .nil => rfl
  | _, _, .cons _ _ t => by rw [List.length_cons, List.length_cons, DDk.length t]

/-! ### data without dicts is the layer's -/
mutual
theorem DD.dp : ∀ {d : D} {v : V}, DD K F v d → d.canLay0 = true → Dp K F v d
  | .none, _, .non, _ => .non
  | .bool _, _, .bl b, _ => .bl b
  | .int _, _, .int i, _ => .int i
  | .str _, _, .str x, _ => .str x
  | .list ds, _, .lst h t, c => .lst (.inl h) (DDs.dp t (by simpa [PyData.canLay0] using c))
  | .tuple ds, _, .tup h t, c => .tup h (DDs.dp t (by simpa [PyData.canLay0] using c))
theorem DDs.dp : ∀ {ds : List D} {vs : List V}, DDs K F vs ds → PyData.canLayAll0 ds = true → DpAll K F vs ds
  | _, _, .nil, _ => .nil
  | d :: ds, _, .cons h t, c => by
    have c' : d.canLay0 = true ∧ PyData.canLayAll0 ds = true := by simpa [PyData.canLayAll0] using c
    exact .cons (DD.dp h c'.1) (DDs.dp t c'.2)
end
theorem shp_lay {d : D} (h : shp d = true) : d.canLay0 = true := by
  have h' : (d.canLay0 && decide (d.depth ≤ 64)) = true := h
  simp at h'
  exact h'.1
end

/-! ### the state -/
/-- an owned object -/
def Own (K : PySem.W.Frag) (F H : Hp) (a : Addr) : D → Prop
  | .list ds => ∃ xs, H a = some (.lst xs) ∧ DDs K F xs ds
  | .dict es => (∃ l : List (Key × V), H a = some (.dK l) ∧ DDk K F (l.map fun p => (kV p.1, p.2)) es) ∨ ∃ (xs : NX) (ep : Nat) (es' : List (D × D)), es = mkD :: es' ∧ H a = some (dN a xs ep) ∧ DDx K F xs es'
  | _ => False
theorem Own.mono {K : PySem.W.Frag} {F H F' H' : Hp} {a : Addr} {d : D} (sf : Same F F') (sh : ∀ o, H a = some o → H' a = some o) (h : Own K F H a d) : Own K F' H' a d := by
  cases d with
  | list ds =>
    obtain ⟨xs, e, t⟩ := h
    exact ⟨xs, sh _ e, t.mono sf⟩
  | dict es =>
    rcases h with ⟨l, e, t⟩ | ⟨xs, ep, es', q, e, t⟩
    · exact .inl ⟨l, sh _ e, t.mono sf⟩
    · exact .inr ⟨xs, ep, es', q, sh _ e, t.mono sf⟩
  | _ => exact h
theorem Own.some {K : PySem.W.Frag} {F H : Hp} {a : Addr} {d : D} (h : Own K F H a d) : ∃ o, H a = some o := by
  cases d with
  | list ds =>
    obtain ⟨xs, e, t⟩ := h
    exact ⟨_, e⟩
  | dict es =>
    rcases h with ⟨l, e, t⟩ | ⟨xs, ep, es', q, e, t⟩
    · exact ⟨_, e⟩
    · exact ⟨_, e⟩
  | _ => exact h.elim
/-- an owned object is data of every heap that has it frozen -/
theorem Own.dd' {K : PySem.W.Frag} {F F' H : Hp} {a : Addr} {d : D} (s : Same F F') (f : ∀ o, H a = Option.some o → F' a = Option.some o) (h : Own K F H a d) : DD K F' (.ref a) d := by
  cases d with
  | list ds =>
    obtain ⟨xs, e, t⟩ := h
    exact .lst (.inl (f _ e)) (t.mono s)
  | dict es =>
    rcases h with ⟨l, e, t⟩ | ⟨xs, ep, es', q, e, t⟩
    · exact .dic ⟨l, f _ e, rfl⟩ (t.mono s)
    · subst q
      exact .dnn (f _ e) (t.mono s)
  | _ => exact h.elim
/-- an owned object is data of the whole heap -/
theorem Own.dd {K : PySem.W.Frag} {F H : Hp} {a : Addr} {d : D} (s : Same F H) (h : Own K F H a d) : DD K H (.ref a) d := h.dd' s fun _ e => e

structure Rp (K : PySem.W.Frag) (H0 : Hp) (S : St) (σ : L2.St) (F H : Hp) : Prop where
  fh : Same F H
  len : S.length = σ.length
  fz : ∀ (i : Nat) (d : D), S[i]? = some (.fz d) → ∃ v, σ[i]? = some (some v) ∧ DD K F v d
  ow : ∀ (i : Nat) (d : D), S[i]? = some (.ow d) → ∃ a, σ[i]? = some (some (.ref a)) ∧ H0 a = none ∧ F a = none ∧ Own K F H a d
  ne : ∀ (i j : Nat) (d e : D) (a : Addr), S[i]? = some (.ow d) → S[j]? = some (.ow e) → σ[i]? = some (some (.ref a)) → σ[j]? = some (some (.ref a)) → i = j
theorem Rp.ext {K : PySem.W.Frag} {H0 : Hp} {S : St} {σ : L2.St} {F H F' H' : Hp} (r : Rp K H0 S σ F H) (e : Ext F H F' H') : Rp K H0 S σ F' H' := by
  refine ⟨e.fh, r.len, fun i d h => ?_, fun i d h => ?_, r.ne⟩
  · obtain ⟨v, h1, h2⟩ := r.fz i d h
    exact ⟨v, h1, h2.mono e.ff⟩
  · obtain ⟨a, h1, h2, h3, h4⟩ := r.ow i d h
    refine ⟨a, h1, h2, ?_, h4.mono e.ff fun _ z => e.hh _ _ z⟩
    cases q : F' a with
    | none => rfl
    | some o =>
      rcases e.nw a o q with z | z
      · rw [z] at h3
        cases h3
      · obtain ⟨o', z'⟩ := h4.some
        rw [z] at z'
        cases z'
/-- a slot is given a frozen value -/
theorem Rp.set {K : PySem.W.Frag} {H0 : Hp} {S : St} {σ : L2.St} {F H : Hp} (r : Rp K H0 S σ F H) {i : Nat} {v : V} {d : D} (h : DD K F v d) : Rp K H0 (S.set i (.fz d)) (σ.set i (some v)) F H := by
  refine ⟨r.fh, by simp [r.len], fun j e hj => ?_, fun j e hj => ?_, fun j k d1 d2 a h1 h2 h3 h4 => ?_⟩
  · by_cases ij : i = j
    · subst ij
      have hl : i < S.length := by
        rcases Nat.lt_or_ge i S.length with z | z
        · exact z
        · rw [List.getElem?_eq_none (by simpa using z)] at hj
          cases hj
      rw [List.getElem?_set_self hl] at hj
      cases hj
      exact ⟨v, by rw [List.getElem?_set_self (by rw [← r.len]; exact hl)], h⟩
    · rw [List.getElem?_set_ne ij] at hj
      obtain ⟨v', h1, h2⟩ := r.fz j e hj
      exact ⟨v', by rw [List.getElem?_set_ne ij]; exact h1, h2⟩
  · have ij : i ≠ j := by
      intro ij
      subst ij
      have hl : i < S.length := by
        rcases Nat.lt_or_ge i S.length with z | z
        · exact z
        · rw [List.getElem?_eq_none (by simpa using z)] at hj
          cases hj
      rw [List.getElem?_set_self hl] at hj
      cases hj
    rw [List.getElem?_set_ne ij] at hj
    obtain ⟨a, h1, h2⟩ := r.ow j e hj
    exact ⟨a, by rw [List.getElem?_set_ne ij]; exact h1, h2⟩
  · have ne : ∀ (m : Nat) (z : D), (S.set i (.fz d))[m]? = some (.ow z) → i ≠ m := fun m z q im => by
      subst im
      have hl : i < S.length := by
        rcases Nat.lt_or_ge i S.length with z | z
        · exact z
        · rw [List.getElem?_eq_none (by simpa using z)] at q
          cases q
      rw [List.getElem?_set_self hl] at q
      cases q
    have nj := ne j _ h1
    have nk := ne k _ h2
    rw [List.getElem?_set_ne nj] at h1 h3
    rw [List.getElem?_set_ne nk] at h2 h4
    exact r.ne j k d1 d2 a h1 h2 h3 h4
end FL

set_option Elab.async false
set_option maxRecDepth 100000
set_option maxHeartbeats 4000000
/-! FLs2: readings by meaning; what an outcome wants; the operations by values. -/
namespace FL
open PySem PySem.Spec PyProof.Rows L2

/-! ### readings by meaning -/
section
variable (X : Cx)
def wE (e : Expr) : TE := fun σ H Q => ∀ (pins : List (Addr × Obj)) (s : Shared), Inv X pins σ H s → wpAny (model X.prog X.w) X.A (eval e X.env) (EP X pins σ Q) X.xe s
def wT (e : Expr) : TT := fun σ H Q => ∀ (pins : List (Addr × Obj)) (s : Shared), Inv X pins σ H s → wpAny (model X.prog X.w) X.A (isTrue e X.env (eval e X.env)) (TP X pins σ Q) X.xe s
def wA (es : List Expr) : TA := fun σ H Q => ∀ (pos : Pos) (pins : List (Addr × Obj)) (s : Shared), Inv X pins σ H s → wpAny (model X.prog X.w) X.A (spliced (backTo pos (starEach es X.env))) (AP X pins σ Q) X.xe s
def wS (st : Stmt) : TS := fun D σ H => ∀ (pins : List (Addr × Obj)) (s : Shared), Inv X pins σ H s → wpAny (model X.prog X.w) X.A (exec st X.env) (SP X pins D) X.xe s
def wSs (st : List Stmt) : TS := fun D σ H => ∀ (pins : List (Addr × Obj)) (s : Shared), Inv X pins σ H s → wpAny (model X.prog X.w) X.A (execs st X.env) (SP X pins D) X.xe s
def wI (tg iter : Expr) : TI := fun σ H R => ∀ (pins : List (Addr × Obj)) (s : Shared), Inv X pins σ H s → wpAny (model X.prog X.w) X.A (eval iter X.env) (fun v s1 => wpAny (model X.prog X.w) X.A (pyIter v) (PIE X pins σ tg R) X.xe s1) X.xe s
def wOp (f : Value → Value → Sem Value) : R2 := fun x y H Q => ∀ (pins : List (Addr × Obj)) (s : Shared) (σ : L2.St) (v u : Value), Inv X pins σ H s → RelV x v → RelV y u → wpAny (model X.prog X.w) X.A (f v u) (EP X pins σ Q) X.xe s
def wUn (f : Value → Sem Value) : V → Hp → VK → Prop := fun x H Q => ∀ (pins : List (Addr × Obj)) (s : Shared) (σ : L2.St) (v : Value), Inv X pins σ H s → RelV x v → wpAny (model X.prog X.w) X.A (f v) (EP X pins σ Q) X.xe s
def wCall (f : Value) : List V → Hp → VK → Prop := fun xs H Q => ∀ (pins : List (Addr × Obj)) (s : Shared) (σ : L2.St) (us : List Value), Inv X pins σ H s → Vals xs us → wpAny (model X.prog X.w) X.A (PySem.call f us) (EP X pins σ Q) X.xe s
end
section
variable {X : Cx} {e tg : Expr} {es : List Expr} {st : Stmt} {sts : List Stmt} {σ : L2.St} {H : Hp}
theorem pe_w : PE X e (wE X e) := ⟨fun pins s _ _ _ I h => h pins s I⟩
theorem pt_w : PT X e (wT X e) := ⟨fun pins s _ _ _ I h => h pins s I⟩
theorem pa_w : PA X es (wA X es) := ⟨fun pos pins s _ _ _ I h => h pos pins s I⟩
theorem ps_w : PS X st (wS X st) := ⟨fun pins s _ _ _ I h => h pins s I⟩
theorem pss_w : PSs X sts (wSs X sts) := ⟨fun pins s _ _ _ I h => h pins s I⟩
theorem pi_w : PI X tg e (wI X tg e) := ⟨fun pins s _ _ _ I h => h pins s I⟩
theorem PE.w {t : TE} {Q : VK} (p : PE X e t) (h : t σ H Q) : wE X e σ H Q := fun pins s I => p.run pins s σ H Q I h
theorem PT.w {t : TT} {Q : Bool → Hp → Prop} (p : PT X e t) (h : t σ H Q) : wT X e σ H Q := fun pins s I => p.run pins s σ H Q I h
theorem PA.w {t : TA} {Q : List V → Hp → Prop} (p : PA X es t) (h : t σ H Q) : wA X es σ H Q := fun pos pins s I => p.run pos pins s σ H Q I h
theorem PS.w {t : TS} {D : Ends} (p : PS X st t) (h : t D σ H) : wS X st D σ H := fun pins s I => p.run pins s σ H D I h
theorem PSs.w {t : TS} {D : Ends} (p : PSs X sts t) (h : t D σ H) : wSs X sts D σ H := fun pins s I => p.run pins s σ H D I h
theorem PI.w {t : TI} {R : It → Hp → Prop} (p : PI X tg e t) (h : t σ H R) : wI X tg e σ H R := fun pins s I => p.run pins s σ H R I h
theorem op_w {f : Value → Value → Sem Value} : OpR X f (wOp X f) := fun pins s σ _ _ _ v u _ I r1 r2 h => h pins s σ v u I r1 r2
theorem OpR.w {f : Value → Value → Sem Value} {r : R2} {x y : V} {Q : VK} (p : OpR X f r) (h : r x y H Q) : wOp X f x y H Q := fun pins s σ v u I r1 r2 => p pins s σ H x y v u Q I r1 r2 h
theorem un_w {f : Value → Sem Value} : UnR X f (wUn X f) := fun pins s σ _ _ v _ I r1 h => h pins s σ v I r1
theorem UnR.w {f : Value → Sem Value} {r : V → Hp → VK → Prop} {x : V} {Q : VK} (p : UnR X f r) (h : r x H Q) : wUn X f x H Q := fun pins s σ v I r1 => p pins s σ H x v Q I r1 h
theorem call_w {f : Value} : CallR X f (wCall X f) := fun pins s σ _ _ us _ I r h => h pins s σ us I r
theorem CallR.w {f : Value} {r : List V → Hp → VK → Prop} {xs : List V} {Q : VK} (p : CallR X f r) (h : r xs H Q) : wCall X f xs H Q := fun pins s σ us I r1 => p pins s σ H xs us Q I r1 h
end

/-! ### what an outcome wants -/
def Wn {α : Type} (F H : Hp) (W : Nat → Hp → Prop) (R : α → Hp → Hp → Prop) : Out α → Prop
  | .ok a => ∀ F' H', Ext F H F' H' → R a F' H'
  | .exc k => ∀ H', Same H H' → W k H'
  | .bad => False
section
variable {α β : Type} {F H F1 H1 : Hp} {W : Nat → Hp → Prop}
theorem Wn.ext {R : α → Hp → Hp → Prop} {o : Out α} (e : Ext F H F1 H1) (h : Wn F H W R o) : Wn F1 H1 W R o := by
  cases o with
  | ok a => exact fun F' H' e' => h F' H' (e.trans e')
  | exc k => exact fun H' e' => h H' (e.hh.trans e')
  | bad => exact h
theorem Wn.imp {R R' : α → Hp → Hp → Prop} {o : Out α} (h : Wn F H W R o) (i : ∀ a F' H', o = .ok a → Ext F H F' H' → R a F' H' → R' a F' H') : Wn F H W R' o := by
  cases o with
  | ok a => exact fun F' H' e' => i a F' H' rfl e' (h F' H' e')
  | exc k => exact h
  | bad => exact h
theorem Wn.bind {R : β → Hp → Hp → Prop} {o : Out α} {f : α → Out β} (h : Wn F H W R (o.bind f)) : Wn F H W (fun a F' H' => Wn F' H' W R (f a)) o := by
  cases o with
  | ok a => exact fun F' H' e' => Wn.ext e' h
  | exc k => exact h
  | bad => exact h
theorem Wn.guard {R : α → Hp → Hp → Prop} {b : Bool} {o : Out α} (h : Wn F H W R (Out.guard b o)) : b = true ∧ Wn F H W R o := by
  cases b with
  | true => exact ⟨rfl, h⟩
  | false => exact h.elim
end

/-! ### an owned thing may be looked at -/
def TD (K : PySem.W.Frag) (F H : Hp) (v : V) (d : D) : Prop := DD K F v d ∨ ∃ a, v = .ref a ∧ Own K F H a d
section
variable {K : PySem.W.Frag} {F H F' H' : Hp} {v : V} {d : D}
theorem TD.ext (e : Ext F H F' H') (h : TD K F H v d) : TD K F' H' v d := by
  rcases h with h | ⟨a, e1, h⟩
  · exact .inl (h.mono e.ff)
  · exact .inr ⟨a, e1, h.mono e.ff fun _ z => e.hh _ _ z⟩
theorem TD.dd (s : Same F H) (h : TD K F H v d) : DD K H v d := by
  rcases h with h | ⟨a, e1, h⟩
  · exact h.mono s
  · rw [e1]
    exact h.dd s
theorem TD.lst {ds : List D} (s : Same F H) (h : TD K F H v (.list ds)) : ∃ a xs, v = .ref a ∧ Rd H a (.lst xs) ∧ DDs K F xs ds := by
  rcases h with h | ⟨a, e1, xs, h, t⟩
  · cases h with
    | lst r t => exact ⟨_, _, rfl, Same.rd s r, t⟩
  · exact ⟨a, xs, e1, .inl h, t⟩
theorem TD.tup {ds : List D} (h : TD K F H v (.tuple ds)) : ∃ a xs, v = .ref a ∧ SqT K F a xs ∧ DDs K F xs ds := by
  rcases h with h | ⟨a, e1, h⟩
  · cases h with
    | tup r t => exact ⟨_, _, rfl, r, t⟩
  · exact h.elim
theorem kV_bool {K : PySem.W.Frag} {F : Hp} {k : Key} {b : Bool} (h : DD K F (kV k) (.bool b)) : False := by
  cases k <;> cases h
theorem kV_none {K : PySem.W.Frag} {F : Hp} {k : Key} (h : DD K F (kV k) .none) : False := by
  cases k <;> cases h
theorem TD.dic {es : List (D × D)} (s : Same F H) (h : TD K F H v (.dict es)) (ns : nscr es = true) : ∃ (a : Addr) (l : List (Key × V)), v = .ref a ∧ H a = some (.dK l) ∧ DDk K F (l.map fun p => (kV p.1, p.2)) es := by
  rcases h with h | ⟨a, e1, ⟨l, h, t⟩ | ⟨xs, ep, es', q, h, t⟩⟩
  · cases h with
    | dic r t =>
      obtain ⟨l, e, rfl⟩ := r
      exact ⟨_, l, rfl, s _ _ e, t⟩
    | scr r => cases ns
    | dnn r t => cases ns
  · exact ⟨a, l, e1, h, t⟩
  · subst q
    cases ns
theorem TD.dnn {es : List (D × D)} (s : Same F H) (h : TD K F H v (.dict (mkD :: es))) : ∃ (a : Addr) (xs : NX) (ep : Nat), v = .ref a ∧ H a = some (dN a xs ep) ∧ DDx K F xs es := by
  rcases h with h | ⟨a, e1, ⟨l, h, t⟩ | ⟨xs, ep, es', q, h, t⟩⟩
  · generalize q : PyData.dict (mkD :: es) = d at h
    cases h with
    | @dic a xs es' r t =>
      obtain ⟨l, e, rfl⟩ := r
      cases q
      cases l with
      | nil => cases t
      | cons p l =>
        cases t with
        | cons a b t => exact (kV_bool a).elim
    | scr r => cases q
    | dnn r t =>
      cases q
      exact ⟨_, _, _, rfl, s _ _ r, t⟩
    | _ => cases q
  · cases l with
    | nil => cases t
    | cons p l =>
      cases t with
      | cons a b t => exact (kV_bool a).elim
  · cases q
    exact ⟨a, xs, ep, e1, h, t⟩
theorem TD.scr {ns : List Int} (s : Same F H) (h : TD K F H v (FL.scr ns)) : ∃ a, v = .ref a ∧ SqL K H a (ns.map V.int) := by
  rcases h with h | ⟨a, e1, ⟨l, h, t⟩ | ⟨xs, ep, es', q, h, t⟩⟩
  · generalize q : FL.scr ns = d at h
    cases h with
    | dic r t =>
      obtain ⟨l, e, rfl⟩ := r
      cases q
      cases l with
      | nil => cases t
      | cons p l =>
        cases t with
        | cons a b t => exact (kV_none a).elim
    | @scr a ms r =>
      have e : ns = ms := by
        have : ns.map PyData.int = ms.map PyData.int := by
          unfold FL.scr at q
          injection q with q
          injection q with q
          injection q with _ q
          injection q
        exact List.map_inj_right (fun x y h => by injection h) |>.mp this
      subst e
      exact ⟨a, rfl, s.seq r⟩
    | _ => cases q
  · cases l with
    | nil => cases t
    | cons p l =>
      cases t with
      | cons a b t => exact (kV_none a).elim
  · cases q
theorem TD.int {i : Int} (h : TD K F H v (.int i)) : v = .int i := by
  rcases h with h | ⟨a, e1, h⟩
  · cases h
    rfl
  · exact h.elim
theorem TD.str {x : Str} (h : TD K F H v (.str x)) : v = .str x := by
  rcases h with h | ⟨a, e1, h⟩
  · cases h
    rfl
  · exact h.elim
theorem TD.bl {b : Bool} (h : TD K F H v (.bool b)) : v = .bl b := by
  rcases h with h | ⟨a, e1, h⟩
  · cases h
    rfl
  · exact h.elim
theorem TD.non (h : TD K F H v .none) : v = .non := by
  rcases h with h | ⟨a, e1, h⟩
  · cases h
    rfl
  · exact h.elim
/-- a thing that is no list and no dict is frozen -/
theorem TD.fz (h : TD K F H v d) (hl : ∀ ds, d ≠ .list ds) (hd : ∀ es, d ≠ .dict es) : DD K F v d := by
  rcases h with h | ⟨a, e1, h⟩
  · exact h
  · cases d with
    | list ds => exact absurd rfl (hl ds)
    | dict es => exact absurd rfl (hd es)
    | _ => exact h.elim
end
/-- what is wanted of a value -/
def RV1 (K : PySem.W.Frag) (pk : Bool) (Q : VK) : D → Hp → Hp → Prop := fun d F' H' => ∀ v, TD K F' H' v d → (pk = false → DD K F' v d) → Q v H'
section
variable {K : PySem.W.Frag} {F H : Hp} {W : Nat → Hp → Prop} {Q : VK} {pk : Bool}
/-- the same heap, a frozen value -/
theorem Wn.here {d : D} {v : V} (s : Same F H) (h : Wn F H W (RV1 K pk Q) (.ok d)) (hd : DD K F v d) : Q v H := h F H (Ext.refl s) v (.inl hd) fun _ => hd
/-- a new object -/
theorem Wn.newL {ds : List D} {xs : List V} {p : Addr} (s : Same F H) (h : Wn F H W (RV1 K pk Q) (.ok (.list ds))) (t : DDs K F xs ds) (np : H p = none) : Q (.ref p) (upd H p (.lst xs)) := by
  have e : Ext F H (upd F p (.lst xs)) (upd H p (.lst xs)) := Ext.new s np
  have hd : DD K (upd F p (.lst xs)) (.ref p) (.list ds) := .lst (.inl upd_same) (t.mono e.ff)
  exact h _ _ e _ (.inl hd) fun _ => hd
theorem Wn.newT {ds : List D} {xs : List V} {p : Addr} (s : Same F H) (h : Wn F H W (RV1 K pk Q) (.ok (.tuple ds))) (t : DDs K F xs ds) (np : H p = none) : Q (.ref p) (upd H p (.tup xs)) := by
  have e : Ext F H (upd F p (.tup xs)) (upd H p (.tup xs)) := Ext.new s np
  have hd : DD K (upd F p (.tup xs)) (.ref p) (.tuple ds) := .tup (.inl (.inl upd_same)) (t.mono e.ff)
  exact h _ _ e _ (.inl hd) fun _ => hd
end

/-! ### sizes -/
theorem fits_le {n : Nat} (h : fits n = true) : n ≤ sizeLine := Nat.le_trans (of_decide_eq_true h) (by decide)
theorem fits_lt {n : Nat} (h : fits n = true) : n < sizeLine := Nat.lt_of_le_of_lt (of_decide_eq_true h) (by decide)

/-! ### lists that are read -/
section
variable {X : Cx} {pins : List (Addr × Obj)} {σ : L2.St} {H : Hp} {s : Shared} {l b : Addr} {xs ys zs : List V}
theorem rdL (I : Inv X pins σ H s) (hH : Rd H l (.lst xs)) : xs.length ≤ sizeLine ∧ ∃ (its : List Value) (n : Nat), Vals xs its ∧ xs.length = its.length ∧ s.heap.get? l = some { cls := .type "list", data := .seq its.toArray n } := by
  obtain ⟨z, its, n, r, e⟩ := hH.ok I.hok
  exact ⟨z, its, n, r, r.length, e⟩
end
section
variable {X : Cx}
def rCatR : R2 := fun x y H Q => ∃ l b xs zs, x = .ref l ∧ y = .ref b ∧ Rd H l (.lst xs) ∧ Rd H b (.lst zs) ∧ xs.length + zs.length ≤ sizeLine ∧ ∀ p, H p = none → Q (.ref p) (upd H p (.lst (xs ++ zs)))
theorem op_catR : OpR X (binaryOp .Add) rCatR := fun pins s σ H x y v u Q I rx ry h => by
  obtain ⟨l, b, xs, zs, rfl, rfl, hH, hB, hz, q⟩ := h
  cases rx
  cases ry
  obtain ⟨_, its, n, r, hl, e⟩ := rdL I hH
  obtain ⟨_, its2, n2, r2, hl2, e2⟩ := rdL I hB
  have fit : its.length + its2.length ≤ sizeLine := by omega
  refine PySem.P.add_list e e2 ?_ (by simpa using fit)
  rw [show its.toArray ++ its2.toArray = (its ++ its2).toArray by simp]
  exact ⟨.ref _, _, I.lnew (t' := s.toks) (r.append r2) (by simpa using hz), rfl, q _ I.fresh⟩
def rRepR : R2 := fun x y H Q => ∃ l k xs, x = .ref l ∧ y = .int k ∧ Rd H l (.lst xs) ∧ -(2 ^ 63) ≤ k ∧ k < 2 ^ 63 ∧ xs.length * k.toNat ≤ sizeLine ∧
  ∀ p, H p = none → Q (.ref p) (upd H p (.lst (List.replicate k.toNat xs).flatten))
/-- a list's object times a small number -/
theorem rep_at {A : Around} {E : Value → Shared → Prop} {s : Shared} {l : Addr} {its : List Value} {n : Nat} {k : Int} {t : Tok} {Q : Value → Shared → Prop} {P : Program} {w : World} (e : s.heap.get? l = some { cls := .type "list", data := .seq its.toArray n })
    (h0 : -(2 ^ 63) ≤ k) (h1 : k < 2 ^ 63) (hz : its.length * k.toNat ≤ sizeLine)
    (q : Q (.ref s.heap.objs.size) { s with heap := s.heap.push { cls := .type "list", data := .seq (List.replicate k.toNat its).flatten.toArray } }) :
    wpAny (model P w) A (binaryOp .Mult (.ref l) (.int k t)) Q E s := by
  have many : its.toArray.size * k.toNat ≤ sizeLine := by simpa using hz
  have room : ¬ its.toArray.size * k.toNat > (2 ^ 63 - 1) / 8 := fun z => absurd (Nat.lt_of_lt_of_le z many) (by decide)
  have same : List.foldl (fun x1 x2 => x1 ++ x2) #[] (List.replicate (if its.toArray.isEmpty = true then 0 else k.toNat) its.toArray) = (List.replicate k.toNat its).flatten.toArray := by
    have gen : ∀ m : Nat, List.foldl (fun x1 x2 => x1 ++ x2) #[] (List.replicate m its.toArray) = (List.replicate m its).flatten.toArray := fun m => by
      simpa using foldl_rep its m []
    rw [gen]
    by_cases z : its = []
    · subst z
      simp
    · rw [if_neg (by simpa using z)]
  have own := AutoListH.list___mul___list_int_3 l its.toArray n k t (by rw [fitsIndex_both h0 h1]; exact Bool.false_ne_true) room (by rw [notLongL many]; exact Bool.false_ne_true)
  have ty : s.TypeIs (.ref l) "list" := ⟨_, e, rfl⟩
  refine wpAny_binaryOp_repeat_ref (T := "list") (U := "int") (by decide) ty (fun s' => typeIs_int s' k t) noFill_list_mul F.fills_int_mul F.slot_int_rmul repeat_list F.slot_int_index.lookup ?_
  refine call_meets F.slot_int_rmul (typeIs_int s k t) F.entry_int_rmul (F.args_int_rmul_2 _ _) (int___rmul___int_list k t l its.toArray n) ⟨e, rfl, ty, ?_⟩
  refine call_meets F.slot_list_mul ty F.entry_list_mul (F.args_list_mul_2 _ _) own ⟨e, ?_⟩
  rw [same]
  exact q
theorem op_repR : OpR X (binaryOp .Mult) rRepR := by
  intro pins s σ H x y v u Q I rx ry h
  obtain ⟨l, k, xs, rfl, rfl, hH, h1, h2, hz, q⟩ := h
  cases rx
  obtain ⟨t, rfl⟩ := ry
  obtain ⟨z, its, n, r, hl, e⟩ := rdL I hH
  refine rep_at e h1 h2 (by rw [← hl]; exact hz) ⟨.ref _, _, I.lnew (t' := s.toks) (r.rep k.toNat) ?_, rfl, q _ I.fresh⟩
  rw [PyProof.Rows.lm_len_rep_flat, Nat.mul_comm]
  exact hz
def rExtR : V → List V → Hp → VK → Prop := fun x vs H Q => ∃ l b xs zs, x = .ref l ∧ vs = [.ref b] ∧ H l = some (.lst xs) ∧ Rd H b (.lst zs) ∧ xs.length + zs.length ≤ sizeLine ∧ Q .non (upd H l (.lst (xs ++ zs)))
theorem mt_extR : MtM X "list.extend" rExtR := fun pins s σ H x vs v us Q I rx rv h => by
  obtain ⟨l, b, xs, zs, rfl, rfl, hH, hB, hz, q⟩ := h
  cases rx
  obtain ⟨u, rfl, ru⟩ := rv.one
  cases ru
  obtain ⟨_, its, n, r, hl, e⟩ := I.lstM hH
  obtain ⟨_, its2, n2, r2, hl2, e2⟩ := rdL I hB
  have fit : its.toArray.size + its2.toArray.size ≤ sizeLine := by
    simp
    omega
  have short : ¬ (!its.toArray.isEmpty && Builtin.List.listTooLong (its.toArray.size + its2.toArray.size)) = true := by
    rw [notLongL fit]
    simp
  have does := AutoSeq1.list_extend_list_list_0 l its.toArray n b its2.toArray n2 short (by simp; omega) (by omega)
  refine call_meets F.slot_list_extend ⟨_, e, rfl⟩ F.entry_list_extend (F.args_list_extend_2 _ _) does ⟨e, e2, ?_⟩
  exact ⟨.non, _, I.lset (its' := its ++ its2) hH e (by simp) (r.append r2) (by simpa using hz), rfl, q⟩
end

/-! ### operators -/
section
variable {X : Cx} {F H : Hp} {W : Nat → Hp → Prop} {Q : VK}
def opOf : BOp → Operator
  | .add => .Add
  | .sub => .Sub
  | .mul => .Mult
  | .mod => .Mod
  | .fdiv => .FloorDiv
  | .pow => .Pow
theorem opOf_eq {o : BOp} {op : Operator} (h : bopIs o op = true) : op = opOf o := by
  cases o <;> cases op <;> first | rfl | cases h
theorem mulOk_C {i j : Int} (h : mulOk i j = true) : CMul i j := by
  unfold mulOk at h
  have h' := of_decide_eq_true h
  have h2 : (-(2 ^ 64) < i ∧ i < 2 ^ 64) ∨ (-(2 ^ 64) < j ∧ j < 2 ^ 64) := by omega
  exact h2
theorem op_ok {o : BOp} {x y : D} {v u : V} (s : Same F H) (hx : TD X.K F H v x) (hy : TD X.K F H u y) (h : Wn F H W (RV1 X.K false Q) (bop o x y)) : wOp X (binaryOp (opOf o)) v u H Q := by
  cases o with
  | add =>
    cases x with
    | int i =>
      cases y with
      | int j =>
        obtain rfl := hx.int
        obtain rfl := hy.int
        exact OpR.w op_add ⟨i, j, rfl, rfl, h.here s (.int _)⟩
      | _ => exact h.elim
    | str i =>
      cases y with
      | str j =>
        obtain rfl := hx.str
        obtain rfl := hy.str
        obtain ⟨g, h⟩ := Wn.guard (o := .ok _) h
        exact OpR.w op_add_str ⟨i, j, rfl, rfl, fits_le g, Wn.here (pk := false) s h (.str _)⟩
      | _ => exact h.elim
    | list xs =>
      cases y with
      | list ys =>
        obtain ⟨a, vs, rfl, r1, t1⟩ := hx.lst s
        obtain ⟨b, ws, rfl, r2, t2⟩ := hy.lst s
        obtain ⟨g, h⟩ := Wn.guard (o := .ok _) h
        refine OpR.w op_catR ⟨a, b, vs, ws, rfl, rfl, r1, r2, ?_, fun p np => Wn.newL (pk := false) s h (t1.append t2) np⟩
        rw [t1.length, t2.length]
        exact fits_le g
      | _ => exact h.elim
    | tuple xs =>
      cases y with
      | tuple ys =>
        obtain ⟨a, vs, rfl, r1, t1⟩ := hx.tup
        obtain ⟨b, ws, rfl, r2, t2⟩ := hy.tup
        obtain ⟨g, h⟩ := Wn.guard (o := .ok _) h
        refine OpR.w op_catA ⟨a, b, vs, ws, rfl, rfl, Same.sqt s r1, Same.sqt s r2, ?_, fun e => ?_, fun e e' => ?_, fun e e' p np => ?_⟩
        · rw [t1.length, t2.length]
          exact fits_le g
        · subst e
          cases t1
          exact Wn.here (pk := false) s h (.tup r2 t2)
        · subst e'
          cases t2
          refine Wn.here (pk := false) s h ?_
          rw [List.append_nil]
          exact .tup r1 t1
        · exact Wn.newT (pk := false) s h (t1.append t2) np
      | _ => exact h.elim
    | _ => cases y <;> exact h.elim
  | sub =>
    cases x with
    | int i =>
      cases y with
      | int j =>
        obtain rfl := hx.int
        obtain rfl := hy.int
        exact OpR.w op_sub ⟨i, j, rfl, rfl, h.here s (.int _)⟩
      | _ => exact h.elim
    | _ => cases y <;> exact h.elim
  | mul =>
    cases x with
    | int i =>
      cases y with
      | int j =>
        obtain rfl := hx.int
        obtain rfl := hy.int
        obtain ⟨g, h⟩ := Wn.guard (o := .ok _) h
        exact OpR.w op_mul ⟨i, j, rfl, rfl, mulOk_C g, Wn.here (pk := false) s h (.int _)⟩
      | _ => exact h.elim
    | tuple xs =>
      cases y with
      | int k =>
        obtain ⟨a, vs, rfl, r1, t1⟩ := hx.tup
        obtain rfl := hy.int
        obtain ⟨g, h⟩ := Wn.guard (o := .ok _) h
        simp at g
        obtain ⟨⟨g1, g2⟩, g3, g4⟩ := g
        refine OpR.w op_repT ⟨a, k, vs, rfl, rfl, Same.sqt s r1, ?_, g1, g2, ?_, fun p np => Wn.newT (pk := false) s h (t1.replicate _) np⟩
        · intro z
          subst z
          cases t1
          exact absurd rfl g4
        · rw [t1.length]
          exact g3
      | _ => exact h.elim
    | list xs =>
      cases y with
      | int k =>
        obtain ⟨a, vs, rfl, r1, t1⟩ := hx.lst s
        obtain rfl := hy.int
        obtain ⟨g, h⟩ := Wn.guard (o := .ok _) h
        simp at g
        obtain ⟨⟨g1, g2⟩, g3⟩ := g
        refine OpR.w op_repR ⟨a, k, vs, rfl, rfl, r1, by omega, by omega, ?_, fun p np => Wn.newL (pk := false) s h (t1.replicate _) np⟩
        rw [t1.length]
        have h1 : k.toNat ≤ 1000 := by omega
        exact Nat.le_trans (Nat.mul_le_mul g3 h1) (by decide)
      | _ => exact h.elim
    | _ => cases y <;> exact h.elim
  | mod =>
    cases x with
    | int i =>
      cases y with
      | int j =>
        obtain rfl := hx.int
        obtain rfl := hy.int
        obtain ⟨g, h⟩ := Wn.guard (o := .ok _) h
        exact OpR.w op_mod ⟨i, j, rfl, rfl, of_decide_eq_true g, Wn.here (pk := false) s h (.int _)⟩
      | _ => exact h.elim
    | _ => cases y <;> exact h.elim
  | fdiv =>
    cases x with
    | int i =>
      cases y with
      | int j =>
        obtain rfl := hx.int
        obtain rfl := hy.int
        obtain ⟨g, h⟩ := Wn.guard (o := .ok _) h
        exact OpR.w op_fdiv ⟨i, j, rfl, rfl, (by have g' := of_decide_eq_true g; exact ⟨g'.1, by omega⟩), Wn.here (pk := false) s h (.int _)⟩
      | _ => exact h.elim
    | _ => cases y <;> exact h.elim
  | pow =>
    cases x with
    | int i =>
      cases y with
      | int j =>
        obtain rfl := hx.int
        obtain rfl := hy.int
        obtain ⟨g, h⟩ := Wn.guard (o := .ok _) h
        exact OpR.w op_pow ⟨i, j, rfl, rfl, (by have g' := of_decide_eq_true g; exact ⟨g'.1, by omega⟩), Wn.here (pk := false) s h (.int _)⟩
      | _ => exact h.elim
    | _ => cases y <;> exact h.elim
end
end FL

set_option Elab.async false
set_option maxRecDepth 100000
set_option maxHeartbeats 4000000
/-! FLd1: what is done with dicts whose keys are tuples, by values. -/
namespace FL
open PySem PySem.Spec PyProof.Rows L2

mutual
theorem nk_eqv : ∀ {a b : D} {j k : NestedKey}, nk a = some j → nk b = some k → PyData.eqv a b = decide (j = k)
  | .int i, b, j, k, h, g => by
    have h : some (NestedKey.num i) = some j := by simpa [nk] using h
    cases h
    cases b with
    | int i' =>
      have g : some (NestedKey.num i') = some k := by simpa [nk] using g
      cases g
      simp [PyData.eqv, Bool.beq_eq_decide_eq]
    | tuple ds =>
      have g : (nks ds).map NestedKey.tup = some k := by simpa [nk] using g
      cases q : nks ds with
      | none =>
        rw [q] at g
        cases g
      | some ks =>
        rw [q] at g
        cases g
        simp [PyData.eqv]
    | _ => simp [nk] at g
  | .tuple xs, b, j, k, h, g => by
    have h : (nks xs).map NestedKey.tup = some j := by simpa [nk] using h
    cases q : nks xs with
    | none =>
      rw [q] at h
      cases h
    | some js =>
      rw [q] at h
      cases h
      cases b with
      | int i' =>
        have g : some (NestedKey.num i') = some k := by simpa [nk] using g
        cases g
        simp [PyData.eqv]
      | tuple ys =>
        have g : (nks ys).map NestedKey.tup = some k := by simpa [nk] using g
        cases q2 : nks ys with
        | none =>
          rw [q2] at g
          cases g
        | some ks =>
          rw [q2] at g
          cases g
          rw [PyData.eqv, nks_eqv q q2]
          simp
      | _ => simp [nk] at g
  | .none, b, j, k, h, g => by simp [nk] at h
  | .bool _, b, j, k, h, g => by simp [nk] at h
  | .str _, b, j, k, h, g => by simp [nk] at h
  | .list _, b, j, k, h, g => by simp [nk] at h
  | .dict _, b, j, k, h, g => by simp [nk] at h
theorem nks_eqv : ∀ {a b : List D} {j k : List NestedKey}, nks a = some j → nks b = some k → PyData.eqvAll a b = decide (j = k)
  | [], b, j, k, h, g => by
    have h : some ([] : List NestedKey) = some j := by simpa [nks] using h
    cases h
    cases b with
    | nil =>
      have g : some ([] : List NestedKey) = some k := by simpa [nks] using g
      cases g
      simp [PyData.eqvAll]
    | cons y ys =>
      obtain ⟨k', ks, _, _, rfl⟩ := nks_cons g
      simp [PyData.eqvAll]
  | x :: xs, b, j, k, h, g => by
    obtain ⟨j', js, h1, h2, rfl⟩ := nks_cons h
    cases b with
    | nil =>
      have g : some ([] : List NestedKey) = some k := by simpa [nks] using g
      cases g
      simp [PyData.eqvAll]
    | cons y ys =>
      obtain ⟨k', ks, g1, g2, rfl⟩ := nks_cons g
      rw [PyData.eqvAll, nk_eqv h1 g1, nks_eqv h2 g2]
      simp
end

section
variable {X : Cx} {pins : List (Addr × Obj)} {σ : L2.St} {F H : Hp} {s : Shared}
mutual
/-- data that are a key are one in the heap -/
theorem nk_is (I : Inv X pins σ H s) (sm : Same F H) : ∀ {d : D} {v : V} {k : NestedKey} {u : Value}, DD X.K F v d → nk d = some k → RelV v u → NestedIs s.heap k u
  | .int i, v, k, u, h, e, r => by
    have e : some (NestedKey.num i) = some k := by simpa [nk] using e
    cases e
    cases h
    obtain ⟨t, rfl⟩ := r
    exact .int _ _
  | .tuple ds, v, k, u, h, e, r => by
    have e : (nks ds).map NestedKey.tup = some k := by simpa [nk] using e
    cases q : nks ds with
    | none =>
      rw [q] at e
      cases e
    | some ks =>
      rw [q] at e
      cases e
      cases h with
      | @tup a vs _ sq t =>
        obtain rfl : u = Value.ref a := r
        obtain ⟨its, rv, ⟨o, e1, e2, n, e3⟩, _⟩ := I.tuple (Same.sqt sm sq)
        exact .tup e1 e2 e3 (by simpa using nks_is I sm t q rv)
  | .none, v, k, u, h, e, r => by simp [nk] at e
  | .bool _, v, k, u, h, e, r => by simp [nk] at e
  | .str _, v, k, u, h, e, r => by simp [nk] at e
  | .list _, v, k, u, h, e, r => by simp [nk] at e
  | .dict _, v, k, u, h, e, r => by simp [nk] at e
theorem nks_is (I : Inv X pins σ H s) (sm : Same F H) : ∀ {ds : List D} {vs : List V} {ks : List NestedKey} {us : List Value}, DDs X.K F vs ds → nks ds = some ks → Vals vs us → NestedAll s.heap ks us
  | [], _, ks, us, .nil, e, r => by
    have e : some ([] : List NestedKey) = some ks := by simpa [nks] using e
    cases e
    cases r
    exact .nil
  | d :: ds, _, ks, us, .cons h t, e, r => by
    obtain ⟨j, js, h1, h2, rfl⟩ := nks_cons e
    cases r with
    | cons r1 r2 => exact .cons (nk_is I sm h h1 r1) (nks_is I sm t h2 r2)
end
theorem tk_is (I : Inv X pins σ H s) (sm : Same F H) {d : D} {b : Addr} {k : NestedKey} (h : DD X.K F (.ref b) d) (t : tkD d = true) (e : nk d = some k) : (nestedKind X.prog X.w).is s.heap k b := by
  obtain ⟨ds, ks, rfl, _, e2, dp⟩ := tkD_of t
  rw [e] at e2
  cases e2
  exact ⟨nk_is I sm h e rfl, dp⟩
theorem ddx_is (I : Inv X pins σ H s) (sm : Same F H) : ∀ {xs : NX} {es : List (D × D)}, DDx X.K F xs es → ∀ x ∈ xs, (nestedKind X.prog X.w).is s.heap x.1 x.2.1
  | _, _, .nil, x, hx => by cases hx
  | _, _, .cons a b h g t, x, hx => by
    rcases List.mem_cons.mp hx with e | hx
    · subst e
      exact tk_is I sm h b a
    · exact ddx_is I sm t x hx
end
section
variable {K : PySem.W.Frag} {F : Hp}
theorem ddx_look {d : D} {k : NestedKey} (e : nk d = some k) : ∀ {xs : NX} {es : List (D × D)}, DDx K F xs es →
    match lookD d es with
    | some x => ∃ v, lookN xs k = some v ∧ DD K F v x
    | none => lookN xs k = none
  | _, _, .nil => rfl
  | _, _, .cons (k := j) (d := a) (ds := es) h1 h2 h g t => by
    have ih := ddx_look e t
    have q := nk_eqv h1 e
    unfold lookD lookN
    by_cases z : j = k
    · rw [decide_eq_true z] at q
      rw [if_pos q, List.find?_cons_of_pos (by simp [z])]
      exact ⟨_, rfl, g⟩
    · rw [decide_eq_false z] at q
      rw [if_neg (by rw [q]; exact Bool.false_ne_true), List.find?_cons_of_neg (by simp [z])]
      exact ih
theorem ddx_any {d : D} {k : NestedKey} (e : nk d = some k) : ∀ {xs : NX} {es : List (D × D)}, DDx K F xs es → (xs.any fun x => decide (x.1 = k)) = (lookD d es).isSome
  | _, _, .nil => rfl
  | _, _, .cons (k := j) (d := a) (ds := es) h1 h2 h g t => by
    have ih := ddx_any e t
    have q := nk_eqv h1 e
    unfold lookD
    rw [List.any_cons]
    by_cases z : j = k
    · rw [decide_eq_true z] at q
      rw [if_pos q]
      simp [z]
    · rw [decide_eq_false z] at q
      rw [if_neg (by rw [q]; exact Bool.false_ne_true), ← ih]
      simp [z]
theorem ddx_put {d x : D} {k : NestedKey} {b : Addr} {v : V} (e : nk d = some k) (tk : tkD d = true) (hb : DD K F (.ref b) d) (hv : DD K F v x) {xs : NX} {es : List (D × D)} (t : DDx K F xs es) (nd : (xs.map (·.1)).Nodup) : DDx K F (putN xs k b v) (putD d x es) := by
  have main : ∀ {xs : NX} {es : List (D × D)}, DDx K F xs es → (xs.map (·.1)).Nodup →
      ((xs.any fun x => decide (x.1 = k)) = true → DDx K F (xs.map fun x => if x.1 = k then (x.1, x.2.1, v) else x) (putD d x es)) ∧ ((xs.any fun x => decide (x.1 = k)) = false → DDx K F (xs ++ [(k, b, v)]) (putD d x es)) := by
    intro xs
    induction xs with
    | nil =>
      intro es t _
      cases t
      exact ⟨fun z => (by cases z), fun _ => .cons e tk hb hv .nil⟩
    | cons p xs ih =>
      intro es t nd
      cases t with
      | @cons j c w _ a y es' h1 h2 h g t =>
        have q := nk_eqv h1 e
        rw [List.map_cons, List.nodup_cons] at nd
        obtain ⟨ih1, ih2⟩ := ih t nd.2
        by_cases z : j = k
        · rw [decide_eq_true z] at q
          have un : ∀ p ∈ xs, p.1 ≠ k := fun p hp ep => nd.1 (by
            show j ∈ xs.map (·.1)
            rw [z, ← ep]
            exact List.mem_map_of_mem (f := fun x : NestedKey × Addr × V => x.1) hp)
          have same : (xs.map fun x => if x.1 = k then (x.1, x.2.1, v) else x) = xs := by
            have : (xs.map fun x => if x.1 = k then (x.1, x.2.1, v) else x) = xs.map id := List.map_congr_left fun p hp => by
              rw [if_neg (un p hp)]
              rfl
            rw [this, List.map_id]
          refine ⟨fun _ => ?_, fun c => ?_⟩
          · rw [List.map_cons, if_pos z, same]
            unfold putD
            rw [if_pos q]
            exact .cons h1 h2 h hv t
          · rw [List.any_cons, decide_eq_true z] at c
            cases c
        · rw [decide_eq_false z] at q
          refine ⟨fun c => ?_, fun c => ?_⟩
          · rw [List.any_cons, decide_eq_false z, Bool.false_or] at c
            rw [List.map_cons, if_neg z]
            unfold putD
            rw [if_neg (by rw [q]; exact Bool.false_ne_true)]
            exact .cons h1 h2 h g (ih1 c)
          · rw [List.any_cons, decide_eq_false z, Bool.false_or] at c
            unfold putD
            rw [if_neg (by rw [q]; exact Bool.false_ne_true)]
            exact .cons h1 h2 h g (ih2 c)
  obtain ⟨h1, h2⟩ := main t nd
  unfold putN
  by_cases c : (xs.any fun x => decide (x.1 = k)) = true
  · rw [if_pos c]
    exact h1 c
  · rw [if_neg c]
    exact h2 (Bool.eq_false_iff.mpr c)
theorem DDx.keysD : ∀ {xs : NX} {es : List (D × D)}, DDx K F xs es → DDs K F (xs.map fun x => V.ref x.2.1) (es.map (·.1))
  | _, _, .nil => .nil
  | _, _, .cons _ _ h _ t => .cons h (DDx.keysD t)
theorem DDx.valsD : ∀ {xs : NX} {es : List (D × D)}, DDx K F xs es → DDs K F (xs.map fun x => x.2.2) (es.map (·.2))
  | _, _, .nil => .nil
  | _, _, .cons _ _ _ g t => .cons g (DDx.valsD t)
theorem DDx.length : ∀ {xs : NX} {es : List (D × D)}, DDx K F xs es → xs.length = es.length
  | _, _, .nil => rfl
  | _, _, .cons _ _ _ _ t => by rw [List.length_cons, List.length_cons, DDx.length t]
theorem DDx.num : ∀ {xs : NX} {es : List (D × D)}, DDx K F xs es → ∀ x ∈ xs, numK x.1 = true
  | _, _, .nil, x, hx => by cases hx
  | _, _, .cons a _ _ _ t, x, hx => by
    rcases List.mem_cons.mp hx with e | hx
    · subst e
      exact nk_num a
    · exact DDx.num t x hx
end

/-! ### the operations -/
section
variable {X : Cx} {pins : List (Addr × Obj)} {σ : L2.St} {F H : Hp} {s : Shared} {a b : Addr} {xs : NX} {ep : Nat} {es : List (D × D)} {d : D} {k : NestedKey} {A : Around} {E : Value → Shared → Prop}
theorem dN_at (I : Inv X pins σ H s) (h : H a = some (dN a xs ep)) : dNφ a xs ep s.heap := (show ObjOk X.prog X.w H s.heap a (dN a xs ep) from I.hok a _ h).1
theorem dN_dict (I : Inv X pins σ H s) (sm : Same F H) (h : H a = some (dN a xs ep)) (t : DDx X.K F xs es) : ∃ ys, NR xs ys ∧ s.heap.DictOfH (nestedKind X.prog X.w) a ys ∧ ∃ zs : Array DictEntry, (∃ o, s.heap.get? a = some o ∧ o.ExactDict ∧ o.data = .dict zs ep) ∧ zs.toList = ys.map (entN X.w) :=
  dN_of (dN_at I h) (ddx_is I sm t)
theorem dn_in {Q : Value → Shared → Prop} (hu : A.units + 10 < cLine) (I : Inv X pins σ H s) (sm : Same F H) (h : H a = some (dN a xs ep)) (t : DDx X.K F xs es) (tk : tkD d = true) (hb : DD X.K F (.ref b) d) (q : ∀ s', Inv X pins σ H s' → Q (.bool (lookD d es).isSome) s') :
    wpAny (model X.prog X.w) A (compareOp .In (.ref b) (.ref a)) Q E s := by
  obtain ⟨ys, r, dd, _⟩ := dN_dict I sm h t
  obtain ⟨_, ks, _, _, e, _⟩ := tkD_of tk
  refine wpAny_in_heap (knd := nestedKind X.prog X.w) (by show A.units + 1 + 8 < cLine; omega) (tk_is I sm hb tk e) (dN_at I h).1 dd ?_
  rw [← r.any, ddx_any e t]
  exact q _ (I.tok _)
theorem dn_notIn {Q : Value → Shared → Prop} (hu : A.units + 10 < cLine) (I : Inv X pins σ H s) (sm : Same F H) (h : H a = some (dN a xs ep)) (t : DDx X.K F xs es) (tk : tkD d = true) (hb : DD X.K F (.ref b) d) (q : ∀ s', Inv X pins σ H s' → Q (.bool (!(lookD d es).isSome)) s') :
    wpAny (model X.prog X.w) A (compareOp .NotIn (.ref b) (.ref a)) Q E s := by
  obtain ⟨ys, r, dd, _⟩ := dN_dict I sm h t
  obtain ⟨_, ks, _, _, e, _⟩ := tkD_of tk
  refine wpAny_notIn_heap (knd := nestedKind X.prog X.w) (by show A.units + 1 + 8 < cLine; omega) (tk_is I sm hb tk e) (dN_at I h).1 dd ?_
  rw [← r.any, ddx_any e t]
  exact q _ (I.tok _)
theorem dn_get {Q : Value → Shared → Prop} {x : D} (hu : A.units + 10 < cLine) (I : Inv X pins σ H s) (sm : Same F H) (h : H a = some (dN a xs ep)) (t : DDx X.K F xs es) (tk : tkD d = true) (hb : DD X.K F (.ref b) d) (hx : lookD d es = some x)
    (q : ∀ v u s', Inv X pins σ H s' → RelV v u → DD X.K F v x → Q u s') : s.TypeIs (.ref a) "dict" ∧ wpAny (model X.prog X.w) A (getItem (.ref a) (.ref b)) Q E s := by
  obtain ⟨ys, r, dd, _⟩ := dN_dict I sm h t
  obtain ⟨_, ks, _, _, e, _⟩ := tkD_of tk
  have z := ddx_look e t
  rw [hx] at z
  obtain ⟨v, z1, z2⟩ := z
  have rr := r.look (.tup ks)
  rw [z1] at rr
  cases q2 : atKey ys (.tup ks) with
  | none =>
    rw [q2] at rr
    exact rr.elim
  | some p =>
    rw [q2] at rr
    exact ⟨dd.typeIs, wpAny_getItem_heap (knd := nestedKind X.prog X.w) (by show A.units + 1 + 8 < cLine; omega) (tk_is I sm hb tk e) dd q2 (q v p.2 _ (I.tok _) rr z2)⟩
/-- d.get(k, x): x is what is told of a key that isn't there -/
theorem dn_getD {Q : Value → Shared → Prop} {dv : V} {du : Value} {more : List Value} (hm : (more = [] ∧ du = .none) ∨ more = [du]) (hu : A.units + 10 < cLine) (I : Inv X pins σ H s) (sm : Same F H) (h : H a = some (dN a xs ep)) (t : DDx X.K F xs es) (tk : tkD d = true) (hb : DD X.K F (.ref b) d)
    (rd : RelV dv du) {dx : D} (hd : DD X.K F dv dx) (q : ∀ v u s', Inv X pins σ H s' → RelV v u → DD X.K F v ((lookD d es).getD dx) → Q u s') : wpAny (model X.prog X.w) A (PySem.call (.builtin "dict.get") (.ref a :: .ref b :: more)) Q E s := by
  obtain ⟨ys, r, dd, _⟩ := dN_dict I sm h t
  obtain ⟨_, ks, _, _, e, _⟩ := tkD_of tk
  have z := ddx_look e t
  have rr := r.look (.tup ks)
  have fin : ∀ s', Inv X pins σ H s' → Q (((atKey ys (.tup ks)).map (·.2)).getD du) s' := fun s' I' => by
    cases lx : lookD d es with
    | none =>
      rw [lx] at z q
      have z : lookN xs (.tup ks) = none := z
      rw [z] at rr
      cases q2 : (atKey ys (.tup ks)).map (·.2) with
      | none => exact q dv du s' I' rd hd
      | some p =>
        rw [q2] at rr
        exact rr.elim
    | some y =>
      rw [lx] at z q
      obtain ⟨v, z1, z2⟩ := z
      rw [z1] at rr
      cases q2 : (atKey ys (.tup ks)).map (·.2) with
      | none =>
        rw [q2] at rr
        exact rr.elim
      | some p =>
        rw [q2] at rr
        exact q v p s' I' rr z2
  rcases hm with ⟨rfl, rfl⟩ | rfl
  · exact call_meetsIn PySem.F.slot_dict_get dd.typeIs PySem.F.entry_dict_get (PySem.F.args_dict_get_2 _ _) (meetsH_dict_get (nestedKind X.prog X.w) a b (dN_at I h).1) ⟨by show A.units + 1 + 8 < cLine; omega, _, ys, tk_is I sm hb tk e, dd, fin _ (I.tok _)⟩
  · exact call_meetsIn PySem.F.slot_dict_get dd.typeIs PySem.F.entry_dict_get (PySem.F.args_dict_get_3 _ _ _) (meetsH_dict_get_default (nestedKind X.prog X.w) a b (dN_at I h).1 du) ⟨by show A.units + 1 + 8 < cLine; omega, _, ys, tk_is I sm hb tk e, dd, fin _ (I.tok _)⟩
/-- what is written back -/
theorem dn_back {h' : Heap} {t' : Nat} {ys : NY} {v : V} {u : Value} (I : Inv X pins σ H s) (h : H a = some (dN a xs ep)) (t : DDx X.K F xs es) (hl : xs.length < sizeLine) (e : nk d = some k) (r : NR xs ys) (rv : RelV v u)
    (dd : h'.DictOfH (nestedKind X.prog X.w) a (storedH ys k b u)) (hs : Heap.SameBut a s.heap h') : ∃ ep', Inv X pins σ (upd H a (dN a (putN xs k b v) ep')) { s with heap := h', toks := t' } := by
  have hz := putN_len xs k b v
  obtain ⟨ep', x⟩ := dN_is (dN_at I h).1 (by omega) (putN_num t.num (nk_num e)) (r.put k b rv) dd
  refine ⟨ep', d_write I (by rw [h]; exact trivial) hs ?_ (dN_new x)⟩
  obtain ⟨o, _, _, ho, _⟩ := dd
  exact ⟨o, ho⟩
theorem dn_put {Q : Unit → Shared → Prop} {x : D} {v : V} {u : Value} (hu : A.units + 10 < cLine) (I : Inv X pins σ H s) (sm : Same F H) (h : H a = some (dN a xs ep)) (t : DDx X.K F xs es) (hl : xs.length < sizeLine) (tk : tkD d = true) (hb : DD X.K F (.ref b) d) (rv : RelV v u) (hv : DD X.K F v x)
    (q : ∀ xs' ep' s', Inv X pins σ (upd H a (dN a xs' ep')) s' → DDx X.K F xs' (putD d x es) → Q () s') : wpAny (model X.prog X.w) A (setItem (.ref a) (.ref b) u) Q E s := by
  obtain ⟨ys, r, dd, _⟩ := dN_dict I sm h t
  obtain ⟨_, ks, _, _, e, _⟩ := tkD_of tk
  refine wpAny_setItem_heap (knd := nestedKind X.prog X.w) (hsz := by rw [← Paired.length r]; exact Nat.le_of_lt hl) (by show A.units + 1 + 8 < cLine; omega) (tk_is I sm hb tk e) dd fun h' dd' hs => ?_
  obtain ⟨ep', I'⟩ := dn_back (t' := s.toks + (nestedKind X.prog X.w).draws (.tup ks)) I h t hl e r rv dd' hs
  exact q _ ep' _ I' (ddx_put e tk hb hv t (dN_at I h).2.2.1)
theorem dn_sdf {Q : Value → Shared → Prop} {x : D} {v : V} {u : Value} (hu : A.units + 10 < cLine) (I : Inv X pins σ H s) (sm : Same F H) (h : H a = some (dN a xs ep)) (t : DDx X.K F xs es) (hl : xs.length < sizeLine) (tk : tkD d = true) (hb : DD X.K F (.ref b) d) (rv : RelV v u) (hv : DD X.K F v x)
    (q : ∀ xs' ep' v' u' s', Inv X pins σ (upd H a (dN a xs' ep')) s' → RelV v' u' → DDx X.K F xs' (if (lookD d es).isSome = true then es else putD d x es) → Q u' s') : wpAny (model X.prog X.w) A (PySem.call (.builtin "dict.setdefault") [.ref a, .ref b, u]) Q E s := by
  obtain ⟨ys, r, dd, _⟩ := dN_dict I sm h t
  obtain ⟨_, ks, _, _, e, _⟩ := tkD_of tk
  have an := (r.any (.tup ks)).symm.trans (ddx_any e t)
  have hsame : upd H a (dN a xs ep) = H := by
    funext c
    by_cases hc : c = a
    · subst hc
      rw [upd_same, h]
    · rw [upd_ne hc]
  refine call_setdefault_heap (knd := nestedKind X.prog X.w) (hsz := by rw [← Paired.length r]; exact Nat.le_of_lt hl) (by show A.units + 1 + 8 < cLine; omega) (tk_is I sm hb tk e) (dN_at I h).1 dd (fun p hp => ?_) fun hn h' dd' hs => ?_
  · have is : (lookD d es).isSome = true := by rw [← an, hp]; rfl
    rw [is] at q
    have rr := r.look (.tup ks)
    rw [hp] at rr
    cases q2 : lookN xs (.tup ks) with
    | none =>
      rw [q2] at rr
      exact rr.elim
    | some v' =>
      rw [q2] at rr
      exact q xs ep v' p.2 _ (by rw [hsame]; exact I.tok _) rr (by rw [if_pos rfl]; exact t)
  · have is : (lookD d es).isSome = false := by rw [← an, hn]; rfl
    rw [is] at q
    obtain ⟨ep', I'⟩ := dn_back (t' := s.toks + (nestedKind X.prog X.w).draws (.tup ks)) I h t hl e r rv dd' hs
    exact q _ ep' v u _ I' rv (by rw [if_neg Bool.false_ne_true]; exact ddx_put e tk hb hv t (dN_at I h).2.2.1)
end
end FL

set_option Elab.async false
set_option maxRecDepth 100000
set_option maxHeartbeats 4000000
/-! FLd2: dicts whose keys are tuples, gone through. -/
namespace FL
open PySem PySem.Spec PyProof.Rows L2

theorem NR.at {xs : NX} {ys : NY} (r : NR xs ys) : ∀ {i : Nat} {z : NestedKey × Addr × V}, xs[i]? = some z → ∃ y, ys[i]? = some y ∧ z.1 = y.1 ∧ z.2.1 = y.2.1 ∧ RelV z.2.2 y.2.2 := by
  induction r with
  | nil => exact fun {i z} h => by simp at h
  | @cons x y xs ys h t ih =>
    intro i z hz
    cases i with
    | zero =>
      simp at hz
      subst hz
      exact ⟨y, rfl, h⟩
    | succ i => exact ih (by simpa using hz)
theorem dN_ent {a : Addr} {xs : NX} {ep : Nat} {h : Heap} (x : dNφ a xs ep h) : ∃ es : Array DictEntry, h.DictRaw a es ep ∧ es.size = xs.length ∧ ∀ (i : Nat) (z : NestedKey × Addr × V), xs[i]? = some z → ∃ en, es[i]? = some en ∧ en.key = .ref z.2.1 ∧ RelV z.2.2 en.val := by
  obtain ⟨_, _, _, _, w, ys, o, es, r, e, c, d, l⟩ := x
  refine ⟨es, ⟨o, e, c, d⟩, ?_, fun i z hz => ?_⟩
  · rw [← Array.length_toList, l, List.length_map]
    exact (Paired.length r).symm
  · obtain ⟨y, h1, h2, h3, h4⟩ := r.at hz
    refine ⟨entN w y, ?_, ?_, h4⟩
    · rw [← Array.getElem?_toList, l, List.getElem?_map, h1]
      rfl
    · show Value.ref y.2.1 = _
      rw [h3]
/-- the things of a walk through such a dict: keys, or values -/
def pickN (b : Bool) (z : NestedKey × Addr × V) : V := if b = true then .ref z.2.1 else z.2.2
def ItN (b : Bool) (a : Addr) (xs : NX) (ep : Nat) : It :=
  ⟨fun i H => H a = some (dN a xs ep) ∧ i < xs.length, fun i H x H' => H' = H ∧ (xs.map (pickN b))[i]? = some x, fun i H => H a = some (dN a xs ep) ∧ xs.length ≤ i⟩
section
variable {P : Program} {w : World} {K : PySem.W.Frag} {tg : Expr} {a it : Addr} {xs : NX} {ep : Nat}
theorem turnN_keys : Turn P w K tg (ItN true a xs ep) [it] it (fun i h => h.IsKeyIter it a i xs.length ep) where
  mem := List.mem_singleton.mpr rfl
  obj := fun i h st c hc => by
    obtain rfl := List.mem_singleton.mp hc
    obtain ⟨p, e, _, g⟩ := st
    exact ⟨p, e, fun v z => by rw [g] at z; cases z⟩
  keep := fun i h h' st k => st.at fun p e => k it (List.mem_singleton.mpr rfl) p e
  item := by
    intro X eP ew eK hcalm i pins s σ H E J fpok st go
    subst eP ew eK
    obtain ⟨n0, n1, _, n3, n4, n5⟩ := fpok it (List.mem_singleton.mpr rfl)
    obtain ⟨es, raw, sz, ent⟩ := dN_ent (dN_at J go.1)
    have hz := List.getElem?_eq_getElem go.2
    obtain ⟨en, g1, g2, g3⟩ := ent i _ hz
    have lt : i < es.size := by rw [sz]; exact go.2
    have e1 : en = es[i] := by
      rw [Array.getElem?_eq_getElem lt] at g1
      exact (Option.some.inj g1).symm
    rw [← sz] at st
    refine wpAny_pyNext_keys_item_raw st raw lt fun h' st' same => ?_
    have J1 : Inv X pins σ H { s with heap := h' } := J.turned (t' := s.toks) (fun c p hc e => (same.2 c hc).trans e) n0 n1 n3 n4 n5
    rw [sz] at st'
    obtain ⟨p, e, cl, da⟩ := id st'
    refine ⟨_, rfl, go_of (s := { s with heap := h' }) e cl da (by decide) ⟨.ref xs[i].2.1, H, J1, ?_, ⟨rfl, ?_⟩, st', fun c hc => (fpok c hc).1⟩⟩
    · rw [← e1, g2]
      rfl
    · rw [List.getElem?_map, hz]
      rfl
  done := by
    intro X eP ew eK hcalm i pins s σ H E J fpok st go
    subst eP ew eK
    obtain ⟨n0, n1, _, n3, n4, n5⟩ := fpok it (List.mem_singleton.mpr rfl)
    obtain ⟨es, raw, sz, ent⟩ := dN_ent (dN_at J go.1)
    rw [← sz] at st
    exact wpAny_pyNext_keys_end_raw (J.ok.hd hcalm) st raw (by rw [sz]; exact go.2) fun h' ext => ⟨rfl, J.turned (t' := s.toks) (fun c p hc e => ext c p hc e) n0 n1 n3 n4 n5⟩
  self := fun A i s Q E st q => wpAny_pyIter_keyiter st q
theorem turnN_vals : Turn P w K tg (ItN false a xs ep) [it] it (fun i h => h.IsValIter it a i xs.length ep) where
  mem := List.mem_singleton.mpr rfl
  obj := fun i h st c hc => by
    obtain rfl := List.mem_singleton.mp hc
    obtain ⟨p, e, _, g⟩ := st
    exact ⟨p, e, fun v z => by rw [g] at z; cases z⟩
  keep := fun i h h' st k => st.at fun p e => k it (List.mem_singleton.mpr rfl) p e
  item := by
    intro X eP ew eK hcalm i pins s σ H E J fpok st go
    subst eP ew eK
    obtain ⟨n0, n1, _, n3, n4, n5⟩ := fpok it (List.mem_singleton.mpr rfl)
    obtain ⟨es, raw, sz, ent⟩ := dN_ent (dN_at J go.1)
    have hz := List.getElem?_eq_getElem go.2
    obtain ⟨en, g1, g2, g3⟩ := ent i _ hz
    have lt : i < es.size := by rw [sz]; exact go.2
    have e1 : en = es[i] := by
      rw [Array.getElem?_eq_getElem lt] at g1
      exact (Option.some.inj g1).symm
    rw [← sz] at st
    refine wpAny_pyNext_values_item_raw st raw lt fun h' st' same => ?_
    have J1 : Inv X pins σ H { s with heap := h' } := J.turned (t' := s.toks) (fun c p hc e => (same.2 c hc).trans e) n0 n1 n3 n4 n5
    rw [sz] at st'
    obtain ⟨p, e, cl, da⟩ := id st'
    refine ⟨_, rfl, go_of (s := { s with heap := h' }) e cl da (by decide) ⟨xs[i].2.2, H, J1, ?_, ⟨rfl, ?_⟩, st', fun c hc => (fpok c hc).1⟩⟩
    · rw [← e1]
      exact g3
    · rw [List.getElem?_map, hz]
      rfl
  done := by
    intro X eP ew eK hcalm i pins s σ H E J fpok st go
    subst eP ew eK
    obtain ⟨n0, n1, _, n3, n4, n5⟩ := fpok it (List.mem_singleton.mpr rfl)
    obtain ⟨es, raw, sz, ent⟩ := dN_ent (dN_at J go.1)
    rw [← sz] at st
    exact wpAny_pyNext_values_end_raw (J.ok.hd hcalm) st raw (by rw [sz]; exact go.2) fun h' ext => ⟨rfl, J.turned (t' := s.toks) (fun c p hc e => ext c p hc e) n0 n1 n3 n4 n5⟩
  self := fun A i s Q E st q => wpAny_pyIter_valiter st q
theorem walkN {b : Bool} : Walk (ItN b a xs ep) (xs.map (pickN b)).length (fun H => H a = some (dN a xs ep)) (YAt (xs.map (pickN b))) where
  goes := fun i H hi h => ⟨h, by simpa using hi⟩
  stops := fun H h => ⟨h, by simp⟩
  yields := fun i H x H' hi h y => y
end
section
variable {X : Cx} {tg e : Expr} {td : TE} {apos cpos : Pos}
/-- for k in d -/
def iKeyN (td : TE) : TI := fun σ H R => td σ H fun x H1 => ∃ a xs ep, x = .ref a ∧ H1 a = some (dN a xs ep) ∧ R (ItN true a xs ep) H1
def iValN (td : TE) : TI := fun σ H R => td σ H fun x H1 => ∃ a xs ep, x = .ref a ∧ H1 a = some (dN a xs ep) ∧ R (ItN false a xs ep) H1
theorem pi_keyN (he : PE X e td) : PI X tg e (iKeyN td) := by
  refine ⟨fun pins s σ H R I h => ?_⟩
  refine thn (he.run pins s σ H _ I h) fun u s1 ⟨x, H1, I1, rx, a, xs, ep, ex, hd, q⟩ => ?_
  subst ex
  obtain rfl : u = Value.ref a := rx
  obtain ⟨es, raw, sz, ent⟩ := dN_ent (dN_at I1 hd)
  refine wpAny_pyIter_dict_raw (dN_at I1 hd).1 raw (pi_one (tk := s1.toks) I1 _ turnN_keys ⟨_, Heap.get?_push_size _ rfl, rfl, ?_⟩ q)
  rw [← sz] <;> rfl
theorem dN_noDict {pins : List (Addr × Obj)} {σ : L2.St} {H : Hp} {s : Shared} {a : Addr} {xs : NX} {ep : Nat} (I : Inv X pins σ H s) (h : H a = some (dN a xs ep)) : s.TypeIs (.ref a) "dict" ∧ ∀ b, Value.ref a = .ref b → ∃ ob, s.heap.get? b = some ob ∧ ob.dict = none := by
  obtain ⟨es, ⟨o, e, c, d⟩, _⟩ := dN_ent (dN_at I h)
  refine ⟨⟨o, e, c.1⟩, fun b hb => ?_⟩
  cases hb
  exact ⟨o, e, c.2.1⟩
/-- for v in d.values() -/
theorem pi_valN (he : PE X e td) (hbase : attributeBase e "values" X.env (eval e X.env) = eval e X.env) (hline : (apos.endLine == cpos.line) = true) : PI X tg (.Call (.Attribute e "values" apos) [] [] cpos) (iValN td) := by
  refine ⟨fun pins s σ H R I h => ?_⟩
  refine wpAny_Call_method (T := "dict") (id := "dict.values") hbase rfl hline PySem.F.plainAttrs_dict PySem.F.slot_dict_values PySem.F.type_dict_values (thn (he.run pins s σ H _ I h) fun u s1 ⟨x, H1, I1, rx, a, xs, ep, ex, hd, q⟩ => ?_)
  subst ex
  obtain rfl : u = Value.ref a := rx
  obtain ⟨es, raw, sz, ent⟩ := dN_ent (dN_at I1 hd)
  obtain ⟨ty, nd⟩ := dN_noDict I1 hd
  refine ⟨ty, nd, ?_⟩
  have I2 : Inv X pins σ H1 { s1 with heap := s1.heap.push { cls := .type "dict_values", data := .fields #[.ref a] } } := I1.kept (t' := s1.toks) fun c p z => Heap.get?_push_of_some _ z
  have fin : wpAny (model X.prog X.w) X.A (pyIter (.ref s1.heap.objs.size)) (PIE X pins σ tg R) X.xe { s1 with heap := s1.heap.push { cls := .type "dict_values", data := .fields #[.ref a] } } := by
    refine wpAny_pyIter_values_raw (d := a) ⟨_, Heap.get?_push_size _ rfl, rfl, rfl⟩ (raw.at fun p z => Heap.get?_push_of_some _ z) (pi_one (tk := s1.toks) I2 _ turnN_vals ⟨_, Heap.get?_push_size _ rfl, rfl, ?_⟩ q)
    rw [← sz] <;> rfl
  show wpAny _ _ (callWith cpos (.builtin "dict.values") [.ref a] [] []) _ X.xe s1
  exact method_meetsIn PySem.F.slot_dict_values PySem.F.entry_dict_values rfl (PySem.evalArgs_none ⟨rfl, ty, PySem.F.args_dict_values_1 _, _, meets_dict_values_raw a (dN_at I1 hd).1, ⟨es, ep, raw⟩, fin⟩)
end
end FL

set_option Elab.async false
set_option maxRecDepth 100000
set_option maxHeartbeats 4000000
/-! FLd3: sorted, list, of lists of data, of dicts whose keys are tuples, of their values. -/
namespace FL
open PySem PySem.Spec PyProof.Rows L2

section
variable {K : PySem.W.Frag} {F H : Hp}
/-- a value that stands for data -/
def IsD1 (K : PySem.W.Frag) (F : Hp) (u : Value) (d : D) : Prop := ∃ v : V, RelV v u ∧ DD K F v d
theorem each_of : ∀ {vs : List V} {us : List Value} {ds : List D}, Vals vs us → DDs K F vs ds → PySem.W.EachIs (IsD1 K F) us ds
  | _, _, _, .nil, .nil => .nil
  | _, _, _, .cons r rs, .cons h t => .cons ⟨_, r, h⟩ (each_of rs t)
theorem of_each : ∀ {us : List Value} {ds : List D}, PySem.W.EachIs (IsD1 K F) us ds → ∃ vs, Vals vs us ∧ DDs K F vs ds
  | _, _, .nil => ⟨[], .nil, .nil⟩
  | _, _, .cons ⟨v, r, h⟩ t => by
    obtain ⟨vs, rs, ts⟩ := of_each t
    exact ⟨v :: vs, .cons r rs, .cons h ts⟩
theorem srt_alike {xs : List D} (g : srtOk xs = true) : PySem.W.AllAlike (xs.map id) := by
  unfold srtOk at g
  simp only [Bool.and_eq_true, List.all_eq_true] at g
  rw [List.map_id]
  exact fun d hd d' hd' => g.1 d hd d' hd'
theorem srt_able {xs : List D} (g : srtOk xs = true) : PySem.W.Sortable (xs.map id) := by
  unfold srtOk at g
  simp only [Bool.and_eq_true, Bool.or_eq_true, List.all_eq_true] at g
  rw [List.map_id]
  rcases g.2.1 with h | h
  · refine .inl fun d hd => ?_
    have := h d hd
    unfold tup1 at this
    split at this
    · exact ⟨_, _, rfl⟩
    · cases this
  · refine .inr fun d hd => ?_
    have := h d hd
    unfold noTN at this
    split at this
    · cases this
    · cases this
    · rename_i n1 n2
      exact ⟨fun z => n2 z, fun xs z => n1 xs z⟩
theorem srt_shp {xs : List D} (g : srtOk xs = true) : ∀ d ∈ xs, shp d = true := by
  unfold srtOk at g
  simp only [Bool.and_eq_true, List.all_eq_true] at g
  exact g.2.2
end
section
variable {X : Cx} {pins : List (Addr × Obj)} {σ : L2.St} {F H : Hp} {s : Shared}
theorem reads_of (I : Inv X pins σ H s) (sm : Same F H) : ∀ {us : List Value} {ds : List D}, PySem.W.EachIs (IsD1 X.K F) us ds → (∀ d ∈ ds, shp d = true) → PySem.W.EachIs (fun v d => ∃ as, PySem.Reads s.heap v (id d) as) us ds
  | _, _, .nil, _ => .nil
  | _, _, .cons ⟨v, r, h⟩ t, g => by
    refine .cons ?_ (reads_of I sm t fun d hd => g d (List.mem_cons_of_mem _ hd))
    have sh := g _ List.mem_cons_self
    obtain ⟨as, ra⟩ := Dp.reads I _ _ _ ((h.mono sm).dp (shp_lay sh)) r
    exact ⟨as, ra⟩
theorem shp_dep {d : D} (h : shp d = true) : d.depth ≤ 64 := by
  have h' : (d.canLay0 && decide (d.depth ≤ 64)) = true := h
  simp at h'
  exact h'.2
/-- sorted(xs) of a list of data -/
theorem srt_list {Q : VK} {a : Addr} {vs : List V} {xs : List D} (hu : X.A.units + 66 < cLine) (I : Inv X pins σ H s) (sm : Same F H) (hr : Rd H a (.lst vs)) (t : DDs X.K F vs xs) (g : srtOk xs = true)
    (q : ∀ p ws, H p = none → DDs X.K F ws (xs.mergeSort (PySem.W.dataLe false id)) → Q (.ref p) (upd H p (.lst ws))) : wpAny (model X.prog X.w) X.A (PySem.call (.builtin "sorted") [.ref a]) (EP X pins σ Q) X.xe s := by
  obtain ⟨hz, its, n, rv, hl, e⟩ := rdL I hr
  have ea := each_of rv t
  have tl := t.length
  refine PySem.W.sorted_data (enc := id) (s := s) ⟨_, e, rfl, n, rfl⟩ ea (reads_of I sm ea (srt_shp g)) (srt_alike g) (srt_able g) (by omega) (fun d hd => ?_) fun out lo eo => ?_
  · have := shp_dep (srt_shp g d hd)
    show X.A.units + 2 + d.depth < cLine
    omega
  · obtain ⟨ws, rw', tw⟩ := of_each eo
    obtain ⟨ep, he⟩ := PyProof.Rows.sortedAll_at s.heap its out.toArray
    have lw := rw'.length
    refine ⟨.ref _, upd H (s.heap.objs.size + 1) (.lst ws), I.laid (t' := s.toks) (fun _ _ => PyProof.Rows.sortedAll_old) (Nat.le_succ _) ⟨by omega, out, ep, rw', he⟩, rfl, q _ ws (I.hok.fresh (Nat.le_succ _)) tw⟩
theorem each_reads : ∀ {us : List Value} {ds : List D} {h : Heap}, PySem.W.EachIs (fun v d => ∃ as, PySem.Reads h v (id d) as) us ds → ∃ as, PySem.ReadsAll h us ds as
  | _, _, _, .nil => ⟨[], .nil⟩
  | _, _, _, .cons ⟨as, r⟩ t => by
    obtain ⟨bs, rs⟩ := each_reads t
    exact ⟨as ++ bs, .cons r rs⟩
theorem each_at {α β : Type} {P : α → β → Prop} : ∀ {us : List α} {ds : List β}, PySem.W.EachIs P us ds → ∀ (i : Nat) (u : α), us[i]? = some u → ∃ d, d ∈ ds ∧ P u d
  | _, _, .nil, i, u, e => by simp at e
  | _, _, .cons p t, 0, u, e => by
    simp at e
    subst e
    exact ⟨_, List.mem_cons_self, p⟩
  | _, _, .cons p t, i + 1, u, e => by
    obtain ⟨d, hd, q⟩ := each_at t i u (by simpa using e)
    exact ⟨d, List.mem_cons_of_mem _ hd, q⟩
/-- min(xs) of a list of data that are alike -/
theorem mn_list {Q : VK} {a : Addr} {vs : List V} {x : D} {xs : List D} (hc : X.calm = true) (hu : X.A.units + 66 < cLine) (I : Inv X pins σ H s) (sm : Same F H) (hr : Rd H a (.lst vs)) (t : DDs X.K F vs (x :: xs)) (g : mnOk (x :: xs) = true)
    (q : ∀ v, DD X.K F v (PySem.W.minD x xs) → Q v H) : wpAny (model X.prog X.w) X.A (PySem.call (.builtin "min") [.ref a]) (EP X pins σ Q) X.xe s := by
  obtain ⟨hz, its, n, rv, hl, e⟩ := rdL I hr
  have ea := each_of rv t
  unfold mnOk at g
  simp only [Bool.and_eq_true, List.all_eq_true] at g
  obtain ⟨g1, g2⟩ := g
  have er := reads_of I sm ea fun d hd => (g2 d hd).1
  obtain ⟨as, ra⟩ := each_reads er
  have hdep : PyData.depthAll (x :: xs) ≤ 64 := by
    have : ∀ ds : List D, (∀ d ∈ ds, d.depth ≤ 64) → PyData.depthAll ds ≤ 64 := by
      intro ds
      induction ds with
      | nil => intro _; exact Nat.zero_le _
      | cons d ds ih =>
        intro h
        show max d.depth (PyData.depthAll ds) ≤ 64
        exact Nat.max_le.mpr ⟨h d List.mem_cons_self, ih fun d hd => h d (List.mem_cons_of_mem _ hd)⟩
    exact this _ fun d hd => shp_dep (g2 d hd).1
  refine PySem.W.min_list_data (I.ok.hd hc) (vs := its.toArray) ⟨_, e, rfl, n, rfl⟩ ra ⟨fun x hx y hy => g1 x hx y hy, fun d hd z => ?_⟩ (by omega) fun i v h' tk bs hv rd hk => ?_
  · have := (g2 d hd).2
    subst z
    simp [isNo] at this
  · obtain ⟨d, hd, w, rw', dw⟩ := each_at ea i v (by simpa using hv)
    have sh := (g2 d hd).1
    obtain ⟨as', ra'⟩ := Dp.reads I _ _ _ ((dw.mono sm).dp (shp_lay sh)) rw'
    have ed := (PyProof.Rows.reads_det (h := s.heap) (h' := h') (fun b o eo _ => hk b o eo) ra' rd).1
    exact ⟨w, H, I.kept hk, rw', q w (by rw [ed]; exact dw)⟩
mutual
theorem reads_lt {h : Heap} : ∀ {v : Value} {d : PyData} {as : List Addr}, PySem.Reads h v d as → ∀ a ∈ as, a < h.objs.size
  | _, _, _, .none, a, ha => by cases ha
  | _, _, _, .bool _, a, ha => by cases ha
  | _, _, _, .int _ _, a, ha => by cases ha
  | _, _, _, .str _ _, a, ha => by cases ha
  | _, _, _, .list e _ _ t, a, ha => by
    rcases List.mem_cons.mp ha with z | z
    · rw [z]
      exact Heap.lt_size e
    · exact readsAll_lt t a z
  | _, _, _, .tuple e _ _ t, a, ha => readsAll_lt t a ha
  | _, _, _, .dict e _ _ t u, a, ha => by
    rcases List.mem_append.mp ha with z | z
    · rcases List.mem_cons.mp z with z | z
      · rw [z]
        exact Heap.lt_size e
      · exact readsAll_lt t a z
    · exact readsAll_lt u a z
theorem readsAll_lt {h : Heap} : ∀ {vs : List Value} {ds : List PyData} {as : List Addr}, PySem.ReadsAll h vs ds as → ∀ a ∈ as, a < h.objs.size
  | _, _, _, .nil, a, ha => by cases ha
  | _, _, _, .cons r t, a, ha => by
    rcases List.mem_append.mp ha with z | z
    · exact reads_lt r a z
    · exact readsAll_lt t a z
end
/-- a source of values, sorted -/
theorem srt_src {Q : VK} {T : String} {r d : Addr} {n : Nat} {P : Nat → Value → Prop} {OK : Heap → Prop} {vs : List V} {xs : List D} (hc : X.calm = true) (hu : X.A.units + 66 < cLine) (I : Inv X pins σ H s) (sm : Same F H) (K : PySem.W.KdlSrc X.prog X.w T r d n P OK) (hok : OK s.heap) (hn : n ≤ sizeLine)
    (hP : ∀ acc : Array Value, ItemsOf P acc n → Vals vs acc.toList) (t : DDs X.K F vs xs) (g : srtOk xs = true)
    (q : ∀ p ws, H p = none → DDs X.K F ws (xs.mergeSort (PySem.W.dataLe false id)) → Q (.ref p) (upd H p (.lst ws))) : wpAny (model X.prog X.w) X.A (PySem.call (.builtin "sorted") [.ref r]) (EP X pins σ Q) X.xe s := by
  refine Calls.call_function_entry PyProof.Rows.kind_sorted PyProof.Rows.plain_sorted PyProof.Rows.entry_sorted (PyProof.Rows.args_sorted1 _) ?_
  unfold Builtin.«sorted»
  refine wpAny_bind (m := checkCount "sorted" 1 1 _) (wpAny_pure ?_)
  refine wpAny_bind (PySem.W.kdu_collect (A := X.A.in1) K (I.ok.hd hc) hok hn fun h' t' acc kept items => ?_)
  have rv := hP acc items
  have vl := rv.length
  have tl := t.length
  have al : acc.toList.length = n := by rw [Array.length_toList]; exact items.1
  have I1 : Inv X pins σ H { s with heap := h', toks := t' } := I.kept kept
  refine wpAny_bind (wpAny_newList ?_ (by rw [al]; exact hn))
  have ho : (h'.push (seqObj "list" acc.toList.toArray 0)).get? h'.objs.size = some (seqObj "list" acc.toList.toArray 0) := Heap.get?_push_size _ rfl
  have I2 : Inv X pins σ H { s with heap := h'.push (seqObj "list" acc.toList.toArray 0), toks := t' } := I1.kept (t' := t') fun b o z => Heap.get?_push_of_some _ z
  have np : H h'.objs.size = none := I1.hok.fresh (Nat.le_refl _)
  have ea := each_of rv t
  have er := reads_of I1 sm ea (srt_shp g)
  show wpAny _ _ _ _ _ { s with heap := h'.push (seqObj "list" acc.toList.toArray 0), toks := t' }
  refine wpAny_bind (wpAny_holding (PySem.W.list_sort_data (enc := id) (s := { s with heap := h'.push (seqObj "list" acc.toList.toArray 0), toks := t' }) ho ea ?_ (srt_alike g) (srt_able g) (by omega) (fun d hd => ?_) fun out lo eo => ?_))
  · refine er.mono fun v d ⟨as, ra⟩ => ⟨as, PyProof.Rows.Reads.keeps (fun b o z => Heap.get?_push_of_some _ z) ra, fun hm => ?_⟩
    exact absurd (reads_lt ra _ hm) (Nat.lt_irrefl _)
  · have := shp_dep (srt_shp g d hd)
    show X.A.in1.units + 1 + d.depth < cLine
    rw [Around.in1_units]
    omega
  · obtain ⟨ws, rw', tw⟩ := of_each eo
    obtain ⟨ep, he⟩ := PyProof.Rows.sortedHeap_at (vs := acc.toList) (out := out.toArray) ho
    have lw := rw'.length
    refine wpAny_pure ⟨_, rfl, .ref h'.objs.size, upd H h'.objs.size (.lst ws), I1.laid (t' := t') (fun b o z => ?_) (Nat.le_refl _) ⟨by omega, out, ep, rw', he⟩, rfl, q _ ws np tw⟩
    have lt : b < h'.objs.size := Heap.lt_size z
    rw [PyProof.Rows.sortedHeap_old (Nat.ne_of_lt lt) (by rw [Heap.size_push]; exact Nat.lt_succ_of_lt lt)]
    exact Heap.get?_push_of_some _ z
end
section
variable {P : Program} {w : World} {a r : Addr} {es : Array DictEntry} {ep : Nat}
theorem raw_lt {h : Heap} (x : h.DictRaw a es ep) : a < h.objs.size := let ⟨_, e, _⟩ := x; Heap.lt_size e
theorem src_keys (lo : (a == sysModules) = false) : PySem.W.KdlSrc P w "dict" a a es.size (fun i v => ∃ hi : i < es.size, v = es[i].key) (fun h => h.DictRaw a es ep) where
  type := fun _ x => x.typeIs
  there := fun _ x => ⟨raw_lt x, raw_lt x⟩
  keep := fun _ _ x k => x.at fun o e => k a (.inl rfl) o e
  notList := by decide
  notTuple := by decide
  hint := fun _ _ _ _ x q => PySem.W.kdl_hint_dict x.typeIs q
  iter := fun _ s hh x => ⟨_, _, fun _ _ q => wpAny_pyIter_dict_raw lo x q, Walks.rawKeys hh _ a (Nat.ne_of_lt (raw_lt x)) es ep, ⟨⟨_, Heap.get?_push_size _ rfl, rfl, rfl⟩, x.at fun o e => Heap.get?_push_of_some _ e⟩⟩
theorem src_vals : PySem.W.KdlSrc P w "dict_values" r a es.size (fun i v => ∃ hi : i < es.size, v = es[i].val) (fun h => h.IsValuesView r a ∧ h.DictRaw a es ep) where
  type := fun _ x => x.1.typeIs
  there := fun _ x => ⟨let ⟨_, e, _⟩ := x.1; Heap.lt_size e, raw_lt x.2⟩
  keep := fun _ _ x k => ⟨let ⟨o, e, z⟩ := x.1; ⟨o, k r (.inl rfl) o e, z⟩, x.2.at fun o e => k a (.inr rfl) o e⟩
  notList := by decide
  notTuple := by decide
  hint := fun _ _ _ _ x q => PySem.W.kdl_hint_values x.1.typeIs q
  iter := fun _ s hh x => ⟨_, _, fun _ _ q => wpAny_pyIter_values_raw x.1 x.2 q, Walks.rawValues hh _ a (Nat.ne_of_lt (raw_lt x.2)) es ep, ⟨⟨_, Heap.get?_push_size _ rfl, rfl, rfl⟩, x.2.at fun o e => Heap.get?_push_of_some _ e⟩⟩
end
theorem vals_at : ∀ {vs : List V} {us : List Value}, us.length = vs.length → (∀ (i : Nat) (v : V), vs[i]? = some v → ∀ u, us[i]? = some u → RelV v u) → Vals vs us
  | [], [], _, _ => .nil
  | v :: vs, u :: us, hl, h => .cons (h 0 v rfl u rfl) (vals_at (by simpa using hl) fun i x hx y hy => h (i + 1) x (by simpa using hx) y (by simpa using hy))
  | [], _ :: _, hl, _ => by simp at hl
  | _ :: _, [], hl, _ => by simp at hl
theorem items_vals {es : Array DictEntry} {xs : NX} {b : Bool} (sz : es.size = xs.length) (ent : ∀ (i : Nat) (z : NestedKey × Addr × V), xs[i]? = some z → ∃ en, es[i]? = some en ∧ en.key = .ref z.2.1 ∧ RelV z.2.2 en.val) (acc : Array Value)
    (h : ItemsOf (fun i v => ∃ hi : i < es.size, v = if b = true then es[i].key else es[i].val) acc es.size) : Vals (xs.map (pickN b)) acc.toList := by
  refine vals_at (by rw [Array.length_toList, h.1, List.length_map, sz]) fun i v hv u hu => ?_
  rw [List.getElem?_map] at hv
  cases q : xs[i]? with
  | none =>
    rw [q] at hv
    cases hv
  | some z =>
    rw [q] at hv
    cases hv
    obtain ⟨en, g1, g2, g3⟩ := ent i z q
    obtain ⟨hi, e⟩ := h.2 i u (by rw [← Array.getElem?_toList]; exact hu)
    rw [Array.getElem?_eq_getElem hi] at g1
    have e1 : es[i] = en := Option.some.inj g1
    rw [e, e1]
    cases b with
    | true =>
      rw [if_pos rfl, g2]
      rfl
    | false =>
      rw [if_neg Bool.false_ne_true]
      exact g3
/-- the view of a dict's values -/
def valO (p a : Addr) : HO := .ext fun h => h.IsValuesView p a
theorem valO_new {P : Program} {w : World} {H : Hp} {h : Heap} {p a : Addr} (x : h.IsValuesView p a) : ObjOk P w H h p (valO p a) := by
  refine ⟨x, ?_, fun h1 h2 y k => ?_⟩
  · obtain ⟨o, e, _⟩ := x
    exact ⟨o, e⟩
  · obtain ⟨o, e, z⟩ := y
    exact ⟨o, k o e, z⟩
section
variable {X : Cx} {e : Expr} {td : TE} {apos cpos : Pos}
def tVals (td : TE) : TE := fun σ H Q => td σ H fun x H1 => ∃ a xs ep, x = .ref a ∧ H1 a = some (dN a xs ep) ∧ ∀ p, H1 p = none → Q (.ref p) (upd H1 p (valO p a))
theorem pe_vals (he : PE X e td) (hbase : attributeBase e "values" X.env (eval e X.env) = eval e X.env) (hline : (apos.endLine == cpos.line) = true) : PE X (.Call (.Attribute e "values" apos) [] [] cpos) (tVals td) := by
  refine ⟨fun pins s σ H Q J h => ?_⟩
  refine wpAny_Call_method (T := "dict") (id := "dict.values") hbase rfl hline PySem.F.plainAttrs_dict PySem.F.slot_dict_values PySem.F.type_dict_values (thn (he.run pins s σ H _ J h) fun u s1 ⟨x, H1, J1, rx, a, xs, ep, ex, hd, q⟩ => ?_)
  subst ex
  obtain rfl : u = Value.ref a := rx
  obtain ⟨es, raw, sz, ent⟩ := dN_ent (dN_at J1 hd)
  obtain ⟨ty, nd⟩ := dN_noDict J1 hd
  refine ⟨ty, nd, ?_⟩
  show wpAny _ _ (callWith cpos (.builtin "dict.values") [.ref a] [] []) _ X.xe s1
  refine method_meetsIn PySem.F.slot_dict_values PySem.F.entry_dict_values rfl (PySem.evalArgs_none ⟨rfl, ty, PySem.F.args_dict_values_1 _, _, meets_dict_values_raw a (dN_at J1 hd).1, ⟨es, ep, raw⟩, ?_⟩)
  refine ⟨.ref s1.heap.objs.size, _, J1.laid (a := s1.heap.objs.size) (o := valO _ a) (t' := s1.toks) (fun c o z => Heap.get?_push_of_some _ z) (Nat.le_refl _) (valO_new ⟨_, Heap.get?_push_size _ rfl, rfl, rfl⟩), rfl, q _ (J1.hok.fresh (Nat.le_refl _))⟩
/-- sorted(d), sorted(d.values()), list(d.values()) -/
theorem cr_srtK {pins : List (Addr × Obj)} {σ : L2.St} {F H : Hp} {s : Shared} {a : Addr} {xs : NX} {ep : Nat} {ds : List (D × D)} {Q : VK} (hc : X.calm = true) (hu : X.A.units + 66 < cLine) (J : Inv X pins σ H s) (sm : Same F H) (hN : H a = some (dN a xs ep)) (t : DDx X.K F xs ds) (g : srtOk (ds.map (·.1)) = true)
    (q : ∀ p ws, H p = none → DDs X.K F ws ((ds.map (·.1)).mergeSort (PySem.W.dataLe false id)) → Q (.ref p) (upd H p (.lst ws))) : wpAny (model X.prog X.w) X.A (PySem.call (.builtin "sorted") [.ref a]) (EP X pins σ Q) X.xe s := by
  obtain ⟨es, raw, sz, ent⟩ := dN_ent (dN_at J hN)
  refine srt_src (vs := xs.map (pickN true)) hc hu J sm (src_keys (dN_at J hN).1) raw (by rw [sz]; exact (dN_at J hN).2.1) (fun acc ha => items_vals (b := true) sz ent acc ?_) t.keysD g q
  exact ⟨ha.1, fun i v hv => ha.2 i v hv⟩
theorem cr_srtV {pins : List (Addr × Obj)} {σ : L2.St} {F H : Hp} {s : Shared} {a p : Addr} {xs : NX} {ep : Nat} {ds : List (D × D)} {Q : VK} (hc : X.calm = true) (hu : X.A.units + 66 < cLine) (J : Inv X pins σ H s) (sm : Same F H) (hN : H a = some (dN a xs ep)) (hv : H p = some (valO p a)) (t : DDx X.K F xs ds) (g : srtOk (ds.map (·.2)) = true)
    (q : ∀ p ws, H p = none → DDs X.K F ws ((ds.map (·.2)).mergeSort (PySem.W.dataLe false id)) → Q (.ref p) (upd H p (.lst ws))) : wpAny (model X.prog X.w) X.A (PySem.call (.builtin "sorted") [.ref p]) (EP X pins σ Q) X.xe s := by
  obtain ⟨es, raw, sz, ent⟩ := dN_ent (dN_at J hN)
  have view : s.heap.IsValuesView p a := (show ObjOk X.prog X.w H s.heap p (valO p a) from J.hok p _ hv).1
  refine srt_src (vs := xs.map (pickN false)) hc hu J sm src_vals ⟨view, raw⟩ (by rw [sz]; exact (dN_at J hN).2.1) (fun acc ha => items_vals (b := false) sz ent acc ?_) t.valsD g q
  exact ⟨ha.1, fun i v hv => ha.2 i v hv⟩
theorem cr_lstV {pins : List (Addr × Obj)} {σ : L2.St} {F H : Hp} {s : Shared} {a p : Addr} {xs : NX} {ep : Nat} {ds : List (D × D)} {Q : VK} (hc : X.calm = true) (J : Inv X pins σ H s) (sm : Same F H) (hN : H a = some (dN a xs ep)) (hv : H p = some (valO p a)) (t : DDx X.K F xs ds)
    (q : ∀ p ws, H p = none → DDs X.K F ws (ds.map (·.2)) → Q (.ref p) (upd H p (.lst ws))) : wpAny (model X.prog X.w) X.A (PySem.call (.type "list") [.ref p]) (EP X pins σ Q) X.xe s := by
  obtain ⟨es, raw, sz, ent⟩ := dN_ent (dN_at J hN)
  have view : s.heap.IsValuesView p a := (show ObjOk X.prog X.w H s.heap p (valO p a) from J.hok p _ hv).1
  have zl := (dN_at J hN).2.1
  refine PySem.W.kdl_call src_vals (J.ok.hd hc) ⟨view, raw⟩ (by rw [sz]; exact zl) fun h' t' acc c kept ho ha => ?_
  have rv : Vals (xs.map (pickN false)) acc.toList := items_vals (b := false) sz ent acc ⟨ha.1, fun i v hv => ha.2 i v hv⟩
  have J1 : Inv X pins σ H { s with heap := h', toks := t' } := J.kept kept
  refine ⟨.ref s.heap.objs.size, upd H s.heap.objs.size (.lst (xs.map (pickN false))), J.laid (t' := t') kept (Nat.le_refl _) ⟨by rw [List.length_map]; exact zl, acc.toList, c, rv, by simpa using ho⟩, rfl, q _ _ (J.hok.fresh (Nat.le_refl _)) t.valsD⟩
end
end FL

set_option Elab.async false
set_option maxRecDepth 100000
set_option maxHeartbeats 4000000
/-! FLs3: truth, comparisons, subscripts, slices, built-ins, by values. -/
namespace FL
open PySem PySem.Spec PyProof.Rows L2

/-! ### truth -/
section
variable {K : PySem.W.Frag} {F H : Hp}
theorem tru_ok' {d : D} {v : V} {b : Bool} (s : Same F H) (h : TD K F H v d) (e : tru d = .ok b) : TruV K v H b := by
  cases d with
  | none =>
    obtain rfl := h.non
    cases e
    exact rfl
  | bool c =>
    obtain rfl := h.bl
    cases e
    exact rfl
  | int i =>
    obtain rfl := h.int
    cases e
    exact rfl
  | str x =>
    obtain rfl := h.str
    have e : Out.guard (fits x.length) (.ok (x.length != 0)) = .ok b := e
    cases g : fits x.length with
    | false =>
      rw [g] at e
      cases e
    | true =>
      rw [g] at e
      cases e
      refine ⟨fits_le g, ?_⟩
      cases x.length with
      | zero => rfl
      | succ n =>
        show true = (((n + 1 : Nat) : Int) != 0)
        symm
        simp
        omega
  | list xs =>
    obtain ⟨a, vs, rfl, r, t⟩ := h.lst s
    cases e
    exact .inl ⟨vs, .inl r, by rw [t.isEmpty]⟩
  | tuple xs =>
    obtain ⟨a, vs, rfl, r, t⟩ := h.tup
    cases e
    exact .inr (.inl ⟨vs, Same.sqt s r, by rw [t.isEmpty]⟩)
  | dict es =>
    have e : Out.guard (nscr es) (.ok (!es.isEmpty)) = .ok b := e
    cases g : nscr es with
    | false =>
      rw [g] at e
      cases e
    | true =>
    rw [g] at e
    obtain ⟨a, l, rfl, r, t⟩ := h.dic s g
    cases e
    refine .inr (.inr ⟨l, r, ?_⟩)
    have := t.length
    rw [List.length_map] at this
    cases l <;> cases es <;> first | rfl | (simp at this)
end

/-! ### flat things -/
section
variable {K : PySem.W.Frag} {F : Hp}
theorem flat_V {d : D} {v : V} (h : DD K F v d) (f : flat d = true) : flatV v = true := by
  cases h <;> first | rfl | cases f
theorem flat_all : ∀ {vs : List V} {ds : List D}, DDs K F vs ds → ds.all flat = true → vs.all flatV = true
  | _, _, .nil, _ => rfl
  | _, _, .cons h t, f => by
    rw [List.all_cons, Bool.and_eq_true] at f
    rw [List.all_cons, flat_V h f.1, flat_all t f.2]
    rfl
theorem flat_eq {d e : D} {v u : V} (h : DD K F v d) (g : DD K F u e) (f : flat d = true) (f' : flat e = true) : eqV v u = PyData.eqv d e := by
  cases h <;> first | cases f; done | skip
  all_goals (cases g <;> first | cases f'; done | (simp [eqV, PyData.eqv]))
theorem any_eq {d : D} {v : V} (h : DD K F v d) (f : flat d = true) : ∀ {vs : List V} {ds : List D}, DDs K F vs ds → ds.all flat = true → inV v vs = anyEq d ds
  | _, _, .nil, _ => rfl
  | _, _, .cons (v := u) (vs := us) (d := e) (ds := es) g t, f' => by
    rw [List.all_cons, Bool.and_eq_true] at f'
    have ih := any_eq h f t f'.2
    show (eqV u v || inV v us) = (PyData.eqv e d || anyEq d es)
    rw [flat_eq g h f'.1 f, ih]
theorem signOf_eq {x : Str} {c : Nat} (h : signOf x = some c) : x = ⟨#[c]⟩ := by
  obtain ⟨cps⟩ := x
  unfold signOf at h
  dsimp only at h
  cases e : cps.toList with
  | nil =>
    rw [e] at h
    cases h
  | cons a r =>
    cases r with
    | nil =>
      rw [e] at h
      cases h
      have e2 : cps = #[c] := by
        apply Array.toList_inj.mp
        rw [e]
      rw [e2]
    | cons b r =>
      rw [e] at h
      cases h
/-- a key of a dict -/
def keyOf : D → Option Key
  | .int i => some (.inl i)
  | .str x => some (.inr x)
  | _ => none
theorem keyD_of {d : D} (h : keyD d = true) : ∃ k, keyOf d = some k := by
  cases d <;> first | cases h; done | exact ⟨_, rfl⟩
theorem keyOf_V {d : D} {k : Key} {v : V} (h : DD K F v d) (e : keyOf d = some k) : v = kV k := by
  cases h <;> first | cases e; rfl | cases e
theorem keyOf_DD {d : D} {k : Key} (e : keyOf d = some k) : DD K F (kV k) d := by
  cases d <;> first | (cases e; exact .int _) | (cases e; exact .str _) | cases e
theorem kV_key {d : D} {k : Key} (h : DD K F (kV k) d) : keyOf d = some k := by
  cases k with
  | inl i =>
    have h : DD K F (.int i) d := h
    cases h
    rfl
  | inr x =>
    have h : DD K F (.str x) d := h
    cases h
    rfl
theorem keyOf_eqv {d e : D} {k j : Key} (h : keyOf d = some k) (g : keyOf e = some j) : PyData.eqv d e = decide (k = j) := by
  cases d <;> first | cases h; done | skip
  all_goals (cases e <;> first | cases g; done | skip)
  all_goals (cases h; cases g)
  · rw [key_ll]
    simp [PyData.eqv]
  · rw [key_lr]
    simp [PyData.eqv]
  · rw [key_rl]
    simp [PyData.eqv]
  · rw [key_rr]
    simp only [PyData.eqv]
    exact Bool.beq_eq_decide_eq _ _
theorem lookD_val {d : D} {k : Key} (e : keyOf d = some k) : ∀ {l : List (Key × V)} {es : List (D × D)}, DDk K F (l.map fun p => (kV p.1, p.2)) es →
    match lookD d es with
    | some x => ∃ v, valV l k = some v ∧ DD K F v x
    | none => valV l k = none
  | [], _, .nil => by
    show valV [] k = none
    rfl
  | (j, v) :: l, _, .cons (d := a) (e := b) (ds := es) h g t => by
    have ih := lookD_val e t
    have hj := kV_key h
    have q := keyOf_eqv hj e
    unfold lookD
    by_cases z : j = k
    · rw [decide_eq_true z] at q
      rw [if_pos q]
      exact ⟨v, valV_pos z, g⟩
    · rw [decide_eq_false z] at q
      rw [if_neg (by rw [q]; exact Bool.false_ne_true), valV_neg z]
      exact ih
end

/-! ### comparisons -/
def cmOf : COp → CmpOp
  | .eq => .Eq
  | .ne => .NotEq
  | .lt => .Lt
  | .le => .LtE
  | .gt => .Gt
  | .ge => .GtE
  | .inn => .In
  | .nin => .NotIn
  | .is => .Is
  | .isn => .IsNot
theorem cmOf_eq {o : COp} {op : CmpOp} (h : copIs o op = true) : op = cmOf o := by
  cases o <;> cases op <;> first | rfl | cases h
theorem Wn.map {α β : Type} {F H : Hp} {W : Nat → Hp → Prop} {R : β → Hp → Hp → Prop} {o : Out α} {f : α → β} (h : Wn F H W R (o.map f)) : Wn F H W (fun a F' H' => R (f a) F' H') o := by
  cases o with
  | ok a => exact h
  | exc k => exact h
  | bad => exact h
section
variable {X : Cx} {F H : Hp} {W : Nat → Hp → Prop} {Q : VK}
theorem shp_depth {d : D} (h : shp d = true) : d.depth ≤ 64 := by
  have h' : (d.canLay0 && decide (d.depth ≤ 64)) = true := h
  simp at h'
  exact h'.2
theorem inK_old {x : D} {es : List (D × D)} (hm : ¬ ∃ es', es = mkD :: es') : inK x es = Out.guard (keyD x && nscr es) (.ok (lookD x es).isSome) := by
  unfold inK
  split
  · exact absurd ⟨_, rfl⟩ hm
  · rfl
theorem inn_ok {neg : Bool} {x y : D} {v u : V} (hu : X.A.units + 65 < cLine) (s : Same F H) (hx : TD X.K F H v x) (hy : TD X.K F H u y)
    (h : Wn F H W (fun r F' H' => RV1 X.K false Q (.bool (if neg = true then !r else r)) F' H') (inD x y)) : wOp X (compareOp (if neg = true then .NotIn else .In)) v u H Q := by
  have fin : ∀ {b : Bool}, Wn F H W (fun r F' H' => RV1 X.K false Q (.bool (if neg = true then !r else r)) F' H') (.ok b) → Q (.bl (if neg = true then !b else b)) H := fun {b} h => h F H (Ext.refl s) _ (.inl (.bl _)) fun _ => .bl _
  cases y with
  | list ys =>
    obtain ⟨g, h⟩ := Wn.guard (o := .ok _) h
    rw [Bool.and_eq_true] at g
    have d1 := (hx.dd s).dp (shp_lay g.1)
    have d2 := (hy.dd s).dp (shp_lay g.2)
    have q := fin h
    cases neg with
    | true => exact OpR.w (op_notInD hu) ⟨x, ys, d1, d2, g.1, g.2, q⟩
    | false => exact OpR.w (op_inD hu) ⟨x, ys, d1, d2, g.1, g.2, q⟩
  | tuple ys =>
    have h' : Wn F H W (fun r F' H' => RV1 X.K false Q (.bool (if neg = true then !r else r)) F' H') (Out.guard (flat x && ys.all flat) (.ok (anyEq x ys))) := by
      cases x <;> exact h
    obtain ⟨g, h⟩ := Wn.guard (o := .ok _) h'
    rw [Bool.and_eq_true] at g
    obtain ⟨a, vs, rfl, r, t⟩ := hy.tup
    have hv : DD X.K F v x := hx.fz (fun ds e => by subst e; exact absurd g.1 Bool.false_ne_true) (fun es e => by subst e; exact absurd g.1 Bool.false_ne_true)
    have q := fin h
    rw [← any_eq hv g.1 t g.2] at q
    cases neg with
    | true => exact OpR.w op_notIn_seq ⟨a, vs, rfl, .inr (Same.sqt s r), flat_V hv g.1, flat_all t g.2, q⟩
    | false => exact OpR.w op_in_seq ⟨a, vs, rfl, .inr (Same.sqt s r), flat_V hv g.1, flat_all t g.2, q⟩
  | str z =>
    cases x with
    | str y =>
      obtain rfl := hx.str
      obtain rfl := hy.str
      have h : Wn F H W _ (match signOf y with
        | some c => Out.ok (decide (c ∈ z.cps.toList))
        | none => Out.bad) := h
      cases e : signOf y with
      | none =>
        rw [e] at h
        exact h.elim
      | some c =>
        rw [e] at h
        have q := fin h
        rw [signOf_eq e]
        cases neg with
        | true => exact OpR.w op_notIn_sign ⟨c, z, rfl, rfl, q⟩
        | false => exact OpR.w op_in_sign ⟨c, z, rfl, rfl, q⟩
    | _ => exact h.elim
  | dict es =>
    have h0 : Wn F H W (fun r F' H' => RV1 X.K false Q (.bool (if neg = true then !r else r)) F' H') (inK x es) := by
      cases x <;> exact h
    by_cases hm : ∃ es', es = mkD :: es'
    · obtain ⟨es', rfl⟩ := hm
      obtain ⟨g, h⟩ := Wn.guard (o := .ok _) h0
      obtain ⟨a, xs, ep, rfl, r, t⟩ := hy.dnn s
      have hv : DD X.K F v x := hx.fz (fun ds e => by subst e; cases g) (fun es e => by subst e; cases g)
      have q := fin h
      obtain ⟨ds, _, rfl, _⟩ := tkD_of g
      obtain ⟨b, _, rfl, _⟩ := hx.tup
      intro pins s' σ v' u' I r1 r2
      obtain rfl : v' = Value.ref b := r1
      obtain rfl : u' = Value.ref a := r2
      cases neg with
      | true => exact dn_notIn (by omega) I s r t g hv fun s'' I' => ⟨.bl _, H, I', rfl, q⟩
      | false => exact dn_in (by omega) I s r t g hv fun s'' I' => ⟨.bl _, H, I', rfl, q⟩
    have h' : Wn F H W (fun r F' H' => RV1 X.K false Q (.bool (if neg = true then !r else r)) F' H') (Out.guard (keyD x && nscr es) (.ok (lookD x es).isSome)) := by
      rw [inK_old hm] at h0
      exact h0
    obtain ⟨g, h⟩ := Wn.guard (o := .ok _) h'
    rw [Bool.and_eq_true] at g
    obtain ⟨g, gs⟩ := g
    obtain ⟨k, hk⟩ := keyD_of g
    obtain ⟨a, l, rfl, r, t⟩ := hy.dic s gs
    have hv : DD X.K F v x := hx.fz (fun ds e => by subst e; cases g) (fun es e => by subst e; cases g)
    obtain rfl := keyOf_V hv hk
    have q := fin h
    have e : (lookD x es).isSome = (valV l k).isSome := by
      have z := lookD_val hk t
      cases lx : lookD x es with
      | none =>
        rw [lx] at z
        have z : valV l k = none := z
        rw [z]
        rfl
      | some y =>
        rw [lx] at z
        obtain ⟨v', z, _⟩ := z
        rw [z]
        rfl
    rw [e] at q
    intro pins s' σ v u I r1 r2
    obtain rfl : u = Value.ref a := r2
    cases neg with
    | true => exact d_notIn (by omega) I (DGet.k r) r1 fun s'' I' => ⟨.bl _, H, I', rfl, q⟩
    | false => exact d_in (by omega) I (DGet.k r) r1 fun s'' I' => ⟨.bl _, H, I', rfl, q⟩
  | _ => cases x <;> exact h.elim
theorem cop_ok {o : COp} {x y : D} {v u : V} (hu : X.A.units + 66 < cLine) (s : Same F H) (hx : TD X.K F H v x) (hy : TD X.K F H u y) (h : Wn F H W (RV1 X.K false Q) (cop o x y)) : wOp X (compareOp (cmOf o)) v u H Q := by
  cases o with
  | eq =>
    obtain ⟨g, h⟩ := Wn.guard (F := F) (H := H) (W := W) (R := RV1 X.K false Q) (o := Out.ok (PyData.bool (PyData.eqv x y))) (b := shp x && shp y) (by cases x <;> cases y <;> exact h)
    rw [Bool.and_eq_true] at g
    exact OpR.w (op_eqD (by omega)) ⟨x, y, (hx.dd s).dp (shp_lay g.1), (hy.dd s).dp (shp_lay g.2), g.1, g.2, Wn.here (pk := false) s h (.bl _)⟩
  | ne =>
    obtain ⟨g, h⟩ := Wn.guard (F := F) (H := H) (W := W) (R := RV1 X.K false Q) (o := Out.ok (PyData.bool (!PyData.eqv x y))) (b := shp x && shp y) (by cases x <;> cases y <;> exact h)
    rw [Bool.and_eq_true] at g
    exact OpR.w (op_neD (by omega)) ⟨x, y, (hx.dd s).dp (shp_lay g.1), (hy.dd s).dp (shp_lay g.2), g.1, g.2, Wn.here (pk := false) s h (.bl _)⟩
  | lt =>
    cases x with
    | int i =>
      cases y with
      | int j =>
        obtain rfl := hx.int
        obtain rfl := hy.int
        exact OpR.w op_lt ⟨i, j, rfl, rfl, h.here s (.bl _)⟩
      | _ => exact h.elim
    | _ => cases y <;> exact h.elim
  | le =>
    cases x with
    | int i =>
      cases y with
      | int j =>
        obtain rfl := hx.int
        obtain rfl := hy.int
        exact OpR.w op_le ⟨i, j, rfl, rfl, h.here s (.bl _)⟩
      | _ => exact h.elim
    | _ => cases y <;> exact h.elim
  | gt =>
    cases x with
    | int i =>
      cases y with
      | int j =>
        obtain rfl := hx.int
        obtain rfl := hy.int
        exact OpR.w op_gt ⟨i, j, rfl, rfl, h.here s (.bl _)⟩
      | _ => exact h.elim
    | _ => cases y <;> exact h.elim
  | is =>
    cases x with
    | bool i =>
      cases y with
      | bool j =>
        obtain rfl := hx.bl
        obtain rfl := hy.bl
        intro pins s' σ v' u' I r1 r2
        cases r1
        cases r2
        exact is_bool ⟨.bl _, H, I, rfl, Wn.here (pk := false) s h (.bl _)⟩
      | _ => exact h.elim
    | _ => cases y <;> exact h.elim
  | isn =>
    cases x with
    | bool i =>
      cases y with
      | bool j =>
        obtain rfl := hx.bl
        obtain rfl := hy.bl
        intro pins s' σ v' u' I r1 r2
        cases r1
        cases r2
        exact isnot_bool ⟨.bl _, H, I, rfl, Wn.here (pk := false) s h (.bl _)⟩
      | _ => exact h.elim
    | _ => cases y <;> exact h.elim
  | ge =>
    cases x with
    | int i =>
      cases y with
      | int j =>
        obtain rfl := hx.int
        obtain rfl := hy.int
        exact OpR.w op_ge ⟨i, j, rfl, rfl, h.here s (.bl _)⟩
      | _ => exact h.elim
    | tuple xs =>
      cases y with
      | tuple ys =>
        obtain ⟨g, h⟩ := Wn.guard (o := .ok _) h
        unfold ordOk at g
        simp only [Bool.and_eq_true] at g
        obtain ⟨g1, g2, g3⟩ := g
        intro pins s' σ v' u' I r1 r2
        obtain ⟨as, ra⟩ := Dp.reads I _ _ _ ((hx.dd s).dp (shp_lay g2)) r1
        obtain ⟨bs, rb⟩ := Dp.reads I _ _ _ ((hy.dd s).dp (shp_lay g3)) r2
        refine PySem.W.ge_data ra rb g1 (by intro z; cases z) ?_ ⟨.bl _, H, I, rfl, Wn.here (pk := false) s h (.bl _)⟩
        have := shp_depth g2
        omega
      | _ => exact h.elim
    | _ => cases y <;> exact h.elim
  | inn =>
    have h : Wn F H W (RV1 X.K false Q) ((inD x y).map .bool) := by cases x <;> cases y <;> exact h
    exact inn_ok (neg := false) (by omega) s hx hy (Wn.map h)
  | nin =>
    have h : Wn F H W (RV1 X.K false Q) ((inD x y).map fun r => .bool (!r)) := by cases x <;> cases y <;> exact h
    exact inn_ok (neg := true) (by omega) s hx hy (Wn.map h)
end

/-! ### subscripts -/
section
variable {X : Cx} {F H : Hp} {W : Nat → Hp → Prop} {Q : VK}
def wIx (X : Cx) : R2 := fun x y H Q => ∀ (value slice : Expr) (pins : List (Addr × Obj)) (s : Shared) (σ : L2.St) (v u : Value), Inv X pins σ H s → RelV x v → RelV y u →
  subscripted slice false v u = operate [v, u] (getItem v u) → wpAny (model X.prog X.w) X.A (subscriptTail value slice v u) (EP X pins σ Q) X.xe s
theorem ix_w : IxR X (wIx X) := fun value slice pins s σ _ _ _ v u _ I r1 r2 h hs => h value slice pins s σ v u I r1 r2 hs
theorem IxR.w {r : R2} {x y : V} (p : IxR X r) (h : r x y H Q) : wIx X x y H Q := fun value slice pins s σ v u I r1 r2 hs => p value slice pins s σ H x y v u Q I r1 r2 h hs
theorem atD_V {K : PySem.W.Frag} {vs : List V} {ds : List D} (t : DDs K F vs ds) {i : Int} {d : D} (e : atD ds i = some d) : ∃ v, atI vs i = some v ∧ DD K F v d := by
  unfold atD at e
  cases q : ixD ds.length i with
  | none =>
    rw [q] at e
    cases e
  | some j =>
    rw [q] at e
    obtain ⟨v, h1, h2⟩ := t.get j d e
    refine ⟨v, ?_, h2⟩
    unfold atI
    rw [t.length, show ixN ds.length i = ixD ds.length i from rfl, q]
    exact h1
theorem scr_of {K : PySem.W.Frag} {F H : Hp} {v : V} {xs : List D} (hx : TD K F H v (.dict [(.none, .list xs)])) : ∃ ns : List Int, xs = ns.map .int := by
  rcases hx with hx | ⟨a, e1, ⟨l, hx, t⟩ | ⟨ys, ep, es', q, hx, t⟩⟩
  · generalize q : PyData.dict [(PyData.none, PyData.list xs)] = d at hx
    cases hx with
    | dic r t =>
      obtain ⟨l, e, rfl⟩ := r
      cases q
      cases l with
      | nil => cases t
      | cons p l =>
        cases t with
        | cons a b t => exact (kV_none a).elim
    | @scr a ms r =>
      unfold FL.scr at q
      cases q
      exact ⟨ms, rfl⟩
    | _ => cases q
  · cases l with
    | nil => cases t
    | cons p l =>
      cases t with
      | cons a b t => exact (kV_none a).elim
  · cases q
theorem idx_ok {x y : D} {v u : V} (hu : X.A.units + 66 < cLine) (s : Same F H) (hx : TD X.K F H v x) (hy : TD X.K F H u y) (h : Wn F H W (RV1 X.K false Q) (idx x y)) : wIx X v u H Q := by
  cases x with
  | list xs =>
    cases y with
    | int i =>
      obtain rfl := hy.int
      obtain ⟨a, vs, rfl, r, t⟩ := hx.lst s
      have h : Wn F H W (RV1 X.K false Q) (Out.ofOpt (atD xs i)) := h
      cases e : atD xs i with
      | none =>
        rw [e] at h
        exact h.elim
      | some d =>
        rw [e] at h
        obtain ⟨w, e1, e2⟩ := atD_V t e
        exact IxR.w ix_list ⟨a, vs, i, w, rfl, rfl, .inl r, e1, h.here s e2⟩
    | _ => exact h.elim
  | tuple xs =>
    cases y with
    | int i =>
      obtain rfl := hy.int
      obtain ⟨a, vs, rfl, r, t⟩ := hx.tup
      have h : Wn F H W (RV1 X.K false Q) (Out.ofOpt (atD xs i)) := h
      cases e : atD xs i with
      | none =>
        rw [e] at h
        exact h.elim
      | some d =>
        rw [e] at h
        obtain ⟨w, e1, e2⟩ := atD_V t e
        exact IxR.w ix_tup ⟨a, vs, i, w, rfl, rfl, Same.sqt s r, e1, h.here s e2⟩
    | _ => exact h.elim
  | str z =>
    cases y with
    | int i =>
      obtain rfl := hy.int
      obtain rfl := hx.str
      obtain ⟨g, h⟩ := Wn.guard h
      cases e : atD z.cps.toList i with
      | none =>
        rw [e] at h
        exact h.elim
      | some c =>
        rw [e] at h
        exact IxR.w ix_str ⟨z, i, c, rfl, rfl, fits_le g, e, h.here s (.str _)⟩
    | _ => exact h.elim
  | dict es =>
    have h0 : Wn F H W (RV1 X.K false Q) (idxK es y) := by cases y <;> exact h
    by_cases hs : ∃ xs, es = [(.none, .list xs)]
    · obtain ⟨xs, rfl⟩ := hs
      obtain ⟨ns, e⟩ := scr_of hx
      subst e
      obtain ⟨a, rfl, sq⟩ := TD.scr s hx
      cases y with
      | int i =>
        obtain rfl := hy.int
        have h0 : Wn F H W (RV1 X.K false Q) (Out.ofOpt (atD (ns.map .int) i)) := h0
        cases e : atD (ns.map PyData.int) i with
        | none =>
          rw [e] at h0
          exact h0.elim
        | some d =>
          rw [e] at h0
          obtain ⟨w, e1, e2⟩ := atD_V (DDs.ints (K := X.K) (F := F) ns) e
          exact IxR.w ix_list ⟨a, _, i, w, rfl, rfl, sq, e1, h0.here s e2⟩
      | _ => exact h0.elim
    by_cases hm : ∃ es', es = mkD :: es'
    · obtain ⟨es', rfl⟩ := hm
      obtain ⟨g, h⟩ := Wn.guard (show Wn F H W (RV1 X.K false Q) (Out.guard (tkD y) (Out.ofOpt (lookD y es'))) from h0)
      obtain ⟨a, xs, ep, rfl, r, t⟩ := hx.dnn s
      have hv : DD X.K F u y := hy.fz (fun ds e => by subst e; cases g) (fun es e => by subst e; cases g)
      obtain ⟨ds, _, rfl, _⟩ := tkD_of g
      obtain ⟨b, _, rfl, _⟩ := hy.tup
      cases lx : lookD (.tuple ds) es' with
      | none =>
        rw [lx] at h
        exact h.elim
      | some d =>
        rw [lx] at h
        intro value slice pins s' σ v' u' I r1 r2 hs
        obtain rfl : v' = Value.ref a := r1
        obtain rfl : u' = Value.ref b := r2
        obtain ⟨ty, go⟩ := dn_get (E := X.xe) (A := X.A) (by omega) I s r t g hv lx fun w w' s'' I' rw' dw => (⟨w, H, I', rw', h.here s dw⟩ : EP X pins σ Q w' s'')
        exact tail_any ty slot_dict_getitem.lookup go hs
    have h' : Wn F H W (RV1 X.K false Q) (Out.guard (keyD y && nscr es) (Out.ofOpt (lookD y es))) := by
      unfold idxK at h0
      split at h0
      · exact absurd ⟨_, rfl⟩ hs
      · exact absurd ⟨_, rfl⟩ hm
      · exact h0
    obtain ⟨g, h⟩ := Wn.guard h'
    rw [Bool.and_eq_true] at g
    obtain ⟨g, gs⟩ := g
    obtain ⟨k, hk⟩ := keyD_of g
    obtain ⟨a, l, rfl, r, t⟩ := hx.dic s gs
    have hv : DD X.K F u y := hy.fz (fun ds e => by subst e; cases g) (fun es e => by subst e; cases g)
    obtain rfl := keyOf_V hv hk
    have z := lookD_val hk t
    cases lx : lookD y es with
    | none =>
      rw [lx] at h
      exact h.elim
    | some d =>
      rw [lx] at z h
      obtain ⟨w, z1, z2⟩ := z
      have q := h.here s z2
      intro value slice pins s' σ v' u' I r1 r2 hs
      obtain rfl : v' = Value.ref a := r1
      have gg : DGet H a (kV k) (some w) := z1 ▸ DGet.k r
      exact tail_any (dict_typeIs I gg) slot_dict_getitem.lookup (d_getItem (by omega) I gg r2 fun w' s'' I' rw' => ⟨w, H, I', rw', q⟩) hs
  | _ => cases y <;> exact h.elim

/-! ### slices -/
def wSl (X : Cx) : V → Option Int → Option Int → Hp → VK → Prop := fun x lo hi H Q => ∀ (pins : List (Addr × Obj)) (s : Shared) (σ : L2.St) (v vl vu : Value) (sl : Addr), Inv X pins σ H s → RelV x v → s.heap.IsSliceOf sl vl vu .none → IsPart vl lo → IsPart vu hi →
    ∃ T id, typeLookup (.type T) "__getitem__" = pure (some (.builtin id)) ∧ s.TypeIs v T ∧ wpAny (model X.prog X.w) X.A (getItem v (.ref sl)) (EP X pins σ Q) X.xe s
theorem sl_w : SlR X (wSl X) := fun pins s σ _ _ v vl vu _ _ sl _ I r hs pl pu h => h pins s σ v vl vu sl I r hs pl pu
theorem SlR.w {r : V → Option Int → Option Int → Hp → VK → Prop} {x : V} {lo hi : Option Int} (p : SlR X r) (h : r x lo hi H Q) : wSl X x lo hi H Q := fun pins s σ v vl vu sl I r1 hs pl pu => p pins s σ H x v vl vu lo hi sl Q I r1 hs pl pu h
theorem cut_V {K : PySem.W.Frag} {vs : List V} {ds : List D} (t : DDs K F vs ds) (lo hi : Option Int) : DDs K F (cutV vs lo hi) (cut ds lo hi) := by
  unfold cutV cut
  rw [t.length]
  exact (t.drop _).take _
theorem cut_whole {α : Type} (xs : List α) (lo hi : Option Int) (h : sIx xs.length 0 lo = 0 ∧ sIx xs.length xs.length hi = xs.length) : cut xs lo hi = xs := by
  unfold cut
  rw [h.1, h.2]
  simp
theorem sIx_eq (n d : Nat) (o : Option Int) : HT.sIx n d o = sIx n d o := rfl
theorem slc_ok {x : D} {v : V} {lo hi : Option Int} (s : Same F H) (hx : TD X.K F H v x) (h : Wn F H W (RV1 X.K false Q) (slc lo hi x)) : wSl X v lo hi H Q := by
  cases x with
  | list xs =>
    obtain ⟨a, vs, rfl, r, t⟩ := hx.lst s
    exact SlR.w sl_list ⟨a, vs, rfl, .inl r, fun p np => Wn.newL (pk := false) s h (cut_V t lo hi) np⟩
  | tuple xs =>
    obtain ⟨a, vs, rfl, r, t⟩ := hx.tup
    refine SlR.w sl_tupA ⟨a, vs, rfl, Same.sqt s r, fun e => ?_, fun _ p np => Wn.newT (pk := false) s h (cut_V t lo hi) np⟩
    refine Wn.here (pk := false) s h (.tup r ?_)
    rw [t.length] at e
    rw [cut_whole xs lo hi e]
    exact t
  | str z =>
    obtain rfl := hx.str
    obtain ⟨g, h⟩ := Wn.guard (o := .ok _) h
    refine SlR.w sl_str ⟨z, rfl, fits_le g, Wn.here (pk := false) s h ?_⟩
    have e : cutS z lo hi = ⟨(cut z.cps.toList lo hi).toArray⟩ := by
      unfold cutS cut
      rw [Array.length_toList]
      rfl
    rw [e]
    exact .str _
  | _ => exact h.elim
end
end FL

set_option Elab.async false
set_option maxRecDepth 100000
set_option maxHeartbeats 4000000
/-! FLs4: built-ins and iterables, by values. -/
namespace FL
open PySem PySem.Spec PyProof.Rows L2

/-! ### ints -/
section
variable {K : PySem.W.Frag} {F : Hp}
theorem intsD_V : ∀ {ds : List D} {ns : List Int} {vs : List V}, intsD ds = some ns → DDs K F vs ds → vs = ns.map V.int
  | [], _, _, e, .nil => by
    cases e
    rfl
  | .int i :: r, ns, _, e, .cons h t => by
    have e : (intsD r).map (i :: ·) = some ns := e
    cases q : intsD r with
    | none =>
      rw [q] at e
      cases e
    | some ms =>
      rw [q] at e
      cases e
      cases h
      rw [intsD_V q t]
      rfl
theorem maxI_spec : ∀ {ns : List Int} {m : Int}, maxI ns = some m → m ∈ ns ∧ ∀ y ∈ ns, y ≤ m
  | x :: r, m, e => by
    unfold maxI at e
    cases q : maxI r with
    | none =>
      rw [q] at e
      cases e
      cases r with
      | nil => exact ⟨List.mem_cons_self, fun y hy => by simp at hy; omega⟩
      | cons a b =>
        unfold maxI at q
        split at q <;> cases q
    | some k =>
      rw [q] at e
      obtain ⟨h1, h2⟩ := maxI_spec q
      have e : some (if k ≤ x then x else k) = some m := e
      by_cases hk : k ≤ x
      · rw [if_pos hk] at e
        cases e
        exact ⟨List.mem_cons_self, fun y hy => by
          rcases List.mem_cons.mp hy with z | z
          · omega
          · have := h2 y z
            omega⟩
      · rw [if_neg hk] at e
        cases e
        exact ⟨List.mem_cons_of_mem _ h1, fun y hy => by
          rcases List.mem_cons.mp hy with z | z
          · omega
          · exact h2 y z⟩
theorem minI_spec : ∀ {ns : List Int} {m : Int}, minI ns = some m → m ∈ ns ∧ ∀ y ∈ ns, m ≤ y
  | x :: r, m, e => by
    unfold minI at e
    cases q : minI r with
    | none =>
      rw [q] at e
      cases e
      cases r with
      | nil => exact ⟨List.mem_cons_self, fun y hy => by simp at hy; omega⟩
      | cons a b =>
        unfold minI at q
        split at q <;> cases q
    | some k =>
      rw [q] at e
      obtain ⟨h1, h2⟩ := minI_spec q
      have e : some (if x ≤ k then x else k) = some m := e
      by_cases hk : x ≤ k
      · rw [if_pos hk] at e
        cases e
        exact ⟨List.mem_cons_self, fun y hy => by
          rcases List.mem_cons.mp hy with z | z
          · omega
          · have := h2 y z
            omega⟩
      · rw [if_neg hk] at e
        cases e
        exact ⟨List.mem_cons_of_mem _ h1, fun y hy => by
          rcases List.mem_cons.mp hy with z | z
          · omega
          · exact h2 y z⟩
theorem mem_pos {α : Type} {x : α} : ∀ {l : List α}, x ∈ l → 0 < l.length
  | _ :: _, _ => Nat.succ_pos _

/-! ### pairs -/
theorem putD_V {k : Key} {d : D} (e : keyOf d = some k) {v : V} {x : D} (hv : DD K F v x) : ∀ {l : List (Key × V)} {es : List (D × D)}, DDk K F (l.map fun p => (kV p.1, p.2)) es → (l.map (·.1)).Nodup →
    DDk K F ((putK l k v).map fun p => (kV p.1, p.2)) (putD d x es) := by
  intro l es t nd
  have main : ∀ {l : List (Key × V)} {es : List (D × D)}, DDk K F (l.map fun p => (kV p.1, p.2)) es → (l.map (·.1)).Nodup →
      (((l.any fun kv => decide (kv.1 = k)) = true → DDk K F ((l.map (fun kv => if kv.1 = k then (kv.1, v) else kv)).map fun p => (kV p.1, p.2)) (putD d x es)) ∧
       ((l.any fun kv => decide (kv.1 = k)) = false → DDk K F ((l ++ [(k, v)]).map fun p => (kV p.1, p.2)) (putD d x es))) := by
    intro l
    induction l with
    | nil =>
      intro es t _
      cases t
      refine ⟨fun z => (by cases z), fun _ => ?_⟩
      exact .cons (keyOf_DD e) hv .nil
    | cons p l ih =>
      intro es t nd
      obtain ⟨j, w⟩ := p
      cases t with
      | @cons _ _ _ a b es' h g t =>
        have hj := kV_key h
        have q := keyOf_eqv hj e
        rw [List.map_cons, List.nodup_cons] at nd
        obtain ⟨ih1, ih2⟩ := ih t nd.2
        by_cases z : j = k
        · rw [decide_eq_true z] at q
          have un : ∀ p ∈ l, p.1 ≠ k := fun p hp ep => nd.1 (by
            show j ∈ l.map (·.1)
            rw [z, ← ep]
            exact List.mem_map_of_mem (f := fun x : Key × V => x.1) hp)
          have same : l.map (fun kv => if kv.1 = k then (kv.1, v) else kv) = l := by
            have : l.map (fun kv => if kv.1 = k then (kv.1, v) else kv) = l.map id := List.map_congr_left fun p hp => by
              rw [if_neg (un p hp)]
              rfl
            rw [this, List.map_id]
          refine ⟨fun _ => ?_, fun c => ?_⟩
          · rw [List.map_cons, if_pos z, same]
            unfold putD
            rw [if_pos q]
            exact .cons h hv t
          · rw [List.any_cons, decide_eq_true z] at c
            cases c
        · rw [decide_eq_false z] at q
          refine ⟨fun c => ?_, fun c => ?_⟩
          · rw [List.any_cons, decide_eq_false z, Bool.false_or] at c
            rw [List.map_cons, if_neg z]
            unfold putD
            rw [if_neg (by rw [q]; exact Bool.false_ne_true)]
            exact .cons h g (ih1 c)
          · rw [List.any_cons, decide_eq_false z, Bool.false_or] at c
            unfold putD
            rw [if_neg (by rw [q]; exact Bool.false_ne_true)]
            exact .cons h g (ih2 c)
  obtain ⟨h1, h2⟩ := main t nd
  unfold putK
  by_cases c : (l.any fun kv => decide (kv.1 = k)) = true
  · rw [if_pos c]
    exact h1 c
  · rw [if_neg c]
    exact h2 (Bool.eq_false_iff.mpr c)
theorem putK_nodup {l : List (Key × V)} {k : Key} {v : V} (nd : (l.map (·.1)).Nodup) : ((putK l k v).map (·.1)).Nodup := by
  unfold putK
  by_cases c : (l.any fun kv => decide (kv.1 = k)) = true
  · rw [if_pos c, List.map_map]
    have : ((fun x : Key × V => x.1) ∘ fun kv : Key × V => if kv.1 = k then (kv.1, v) else kv) = fun x => x.1 := by
      funext p
      show (if p.1 = k then (p.1, v) else p).1 = p.1
      split <;> rfl
    rw [this]
    exact nd
  · rw [if_neg c, List.map_append, List.nodup_append]
    refine ⟨nd, by simp, fun a ha b hb => ?_⟩
    simp at hb
    subst hb
    intro z
    subst z
    apply c
    rw [List.any_eq_true]
    obtain ⟨p, hp, ep⟩ := List.mem_map.mp ha
    exact ⟨p, hp, decide_eq_true ep⟩
theorem putAll_V : ∀ {kvs : List (D × D)} {m : List (Key × V)}, DDk K F (m.map fun p => (kV p.1, p.2)) kvs → ∀ {l : List (Key × V)} {es : List (D × D)}, DDk K F (l.map fun p => (kV p.1, p.2)) es → (l.map (·.1)).Nodup →
    DDk K F ((mergeK l m).map fun p => (kV p.1, p.2)) (putAllD es kvs)
  | _, [], .nil, l, es, t, _ => t
  | _, (k, v) :: m, .cons (d := a) (e := b) (ds := kvs) h g r, l, es, t, nd => by
    show DDk K F ((mergeK (putK l k v) m).map fun p => (kV p.1, p.2)) (putAllD (putD a b es) kvs)
    exact putAll_V r (putD_V (kV_key h) g t nd) (putK_nodup nd)
theorem pairs_V {H : Hp} (s : Same F H) : ∀ {xs : List D} {kvs : List (D × D)} {vs : List V}, pairs xs = some kvs → (kvs.all fun p => keyD p.1) = true → DDs K F vs xs →
    ∃ (ps : List Addr) (m : List (Key × V)), vs = ps.map V.ref ∧ Paired (fun p kv => SqT K H p [kV kv.1, kv.2]) ps m ∧ DDk K F (m.map fun p => (kV p.1, p.2)) kvs
  | [], _, _, e, _, .nil => by
    cases e
    exact ⟨[], [], rfl, .nil, .nil⟩
  | .tuple [a, b] :: r, kvs, _, e, ka, .cons h t => by
    have e : (pairs r).map ((a, b) :: ·) = some kvs := e
    cases q : pairs r with
    | none =>
      rw [q] at e
      cases e
    | some ms =>
      rw [q] at e
      cases e
      rw [List.all_cons, Bool.and_eq_true] at ka
      obtain ⟨ps, m, e1, e2, e3⟩ := pairs_V s q ka.2 t
      obtain ⟨k, hk⟩ := keyD_of ka.1
      cases h with
      | @tup p _ _ sq tt =>
        cases tt with
        | cons ha tt =>
          cases tt with
          | cons hb tt =>
            cases tt
            obtain rfl := keyOf_V ha hk
            exact ⟨p :: ps, (k, _) :: m, by rw [e1]; rfl, .cons (Same.sqt s sq) e2, .cons ha hb e3⟩
end

/-! ### built-ins of one argument -/
def bvOf : B1 → Value
  | .len => .builtin "len"
  | .max => .builtin "max"
  | .min => .builtin "min"
  | .sum => .builtin "sum"
  | .sorted => .builtin "sorted"
  | .tuple => .type "tuple"
  | .list => .type "list"
  | .int => .type "int"
  | .dict => .type "dict"
  | _ => .none
section
variable {X : Cx} {F H : Hp} {W : Nat → Hp → Prop} {Q : VK}
theorem b1_ok {f : B1} {x : D} {v : V} {y : Str} (hc : X.calm = true) (hu : X.A.units + 66 < cLine) (s : Same F H) (hf : b1Name f = some y) (hx : TD X.K F H v x) (h : Wn F H W (RV1 X.K false Q) (b1 f x)) : wCall X (bvOf f) [v] H Q := by
  cases f with
  | len =>
    cases x with
    | list xs =>
      obtain ⟨a, vs, rfl, r, t⟩ := hx.lst s
      refine CallR.w call_len_seq ⟨a, vs, rfl, .inl (.inl r), ?_⟩
      rw [t.length]
      exact h.here s (.int _)
    | tuple xs =>
      obtain ⟨a, vs, rfl, r, t⟩ := hx.tup
      refine CallR.w call_len_seq ⟨a, vs, rfl, .inr (Same.sqt s r), ?_⟩
      rw [t.length]
      exact h.here s (.int _)
    | str z =>
      obtain rfl := hx.str
      obtain ⟨g, h⟩ := Wn.guard (o := .ok _) h
      exact CallR.w call_len_str ⟨z, rfl, fits_le g, Wn.here (pk := false) s h (.int _)⟩
    | dict es =>
      by_cases hs : ∃ xs, es = [(.none, .list xs)]
      · obtain ⟨xs, rfl⟩ := hs
        obtain ⟨ns, e⟩ := scr_of hx
        subst e
        obtain ⟨a, rfl, sq⟩ := TD.scr s hx
        refine CallR.w call_len_seq ⟨a, _, rfl, .inl sq, ?_⟩
        have q := h.here s (.int _)
        rw [List.length_map] at q ⊢
        exact q
      · have h : Wn F H W (RV1 X.K false Q) (lenK es) := h
        unfold lenK at h
        split at h
        · exact absurd ⟨_, rfl⟩ hs
        · exact h.elim
    | _ => exact h.elim
  | tuple =>
    cases x with
    | list xs =>
      obtain ⟨a, vs, rfl, r, t⟩ := hx.lst s
      exact CallR.w call_tuple_of ⟨a, vs, rfl, .inl ⟨.inl r, fun p np => Wn.newT (pk := false) s h t np⟩⟩
    | tuple xs =>
      obtain ⟨a, vs, rfl, r, t⟩ := hx.tup
      exact CallR.w call_tuple_of ⟨a, vs, rfl, .inr ⟨Same.sqt s r, h.here s (.tup r t)⟩⟩
    | _ => exact h.elim
  | list =>
    cases x with
    | list xs =>
      obtain ⟨a, vs, rfl, r, t⟩ := hx.lst s
      exact CallR.w call_list_of ⟨a, vs, rfl, .inl (.inl r), fun p np => Wn.newL (pk := false) s h t np⟩
    | tuple xs =>
      obtain ⟨a, vs, rfl, r, t⟩ := hx.tup
      exact CallR.w call_list_of ⟨a, vs, rfl, .inr (Same.sqt s r), fun p np => Wn.newL (pk := false) s h t np⟩
    | _ => exact h.elim
  | int =>
    cases x with
    | int i =>
      obtain rfl := hx.int
      exact CallR.w call_int1 (.inl ⟨i, rfl, h.here s (.int _)⟩)
    | bool b =>
      obtain rfl := hx.bl
      exact CallR.w call_int1 (.inr ⟨b, rfl, h.here s (.int _)⟩)
    | _ => exact h.elim
  | max =>
    cases x with
    | list xs =>
      obtain ⟨a, vs, rfl, r, t⟩ := hx.lst s
      have h := Wn.map (show Wn F H W (RV1 X.K false Q) ((Out.ofOpt ((intsD xs).bind maxI)).map PyData.int) from h)
      cases q : intsD xs with
      | none =>
        rw [q] at h
        exact h.elim
      | some ns =>
        rw [q] at h
        have h : Wn F H W _ (Out.ofOpt (maxI ns)) := h
        cases q2 : maxI ns with
        | none =>
          rw [q2] at h
          exact h.elim
        | some m =>
          rw [q2] at h
          obtain ⟨h1, h2⟩ := maxI_spec q2
          have ev := intsD_V q t
          subst ev
          refine CallR.w (cr_max hc) ⟨a, ns, rfl, .inl r, mem_pos h1, fun k k1 k2 => ?_⟩
          have e : k = m := Int.le_antisymm (h2 k k1) (k2 m h1)
          subst e
          exact h F H (Ext.refl s) _ (.inl (.int _)) fun _ => .int _
    | _ => exact h.elim
  | min =>
    cases x with
    | list xs =>
      obtain ⟨a, vs, rfl, r, t⟩ := hx.lst s
      have h : Wn F H W (RV1 X.K false Q) (match intsD xs with
        | some ns => (Out.ofOpt (minI ns)).map PyData.int
        | none => mnD xs) := h
      cases q : intsD xs with
      | none =>
        rw [q] at h
        cases xs with
        | nil => exact h.elim
        | cons y ys =>
          obtain ⟨g, h⟩ := Wn.guard (o := .ok _) (show Wn F H W (RV1 X.K false Q) (Out.guard (mnOk (y :: ys)) (.ok (PySem.W.minD y ys))) from h)
          intro pins s' σ us J ru
          obtain rfl := Vals.ref1 ru
          exact mn_list hc hu J s r t g fun v tv => h F H (Ext.refl s) _ (.inl tv) fun _ => tv
      | some ns =>
        rw [q] at h
        have h := Wn.map (show Wn F H W (RV1 X.K false Q) ((Out.ofOpt (minI ns)).map PyData.int) from h)
        have h : Wn F H W _ (Out.ofOpt (minI ns)) := h
        cases q2 : minI ns with
        | none =>
          rw [q2] at h
          exact h.elim
        | some m =>
          rw [q2] at h
          obtain ⟨h1, h2⟩ := minI_spec q2
          have ev := intsD_V q t
          subst ev
          refine CallR.w (cr_min hc) ⟨a, ns, rfl, .inl r, mem_pos h1, fun k k1 k2 => ?_⟩
          have e : k = m := Int.le_antisymm (k2 m h1) (h2 k k1)
          subst e
          exact h F H (Ext.refl s) _ (.inl (.int _)) fun _ => .int _
    | _ => exact h.elim
  | sum =>
    cases x with
    | list xs =>
      obtain ⟨a, vs, rfl, r, t⟩ := hx.lst s
      have h := Wn.map (show Wn F H W (RV1 X.K false Q) ((Out.ofOpt (intsD xs)).map fun ns => PyData.int ns.sum) from h)
      cases q : intsD xs with
      | none =>
        rw [q] at h
        exact h.elim
      | some ns =>
        rw [q] at h
        have ev := intsD_V q t
        subst ev
        exact CallR.w (cr_sum hc) ⟨a, ns, rfl, .inl r, h F H (Ext.refl s) _ (.inl (.int _)) fun _ => .int _⟩
    | _ => exact h.elim
  | sorted =>
    cases x with
    | list xs =>
      obtain ⟨a, vs, rfl, r, t⟩ := hx.lst s
      have h : Wn F H W (RV1 X.K false Q) (match intsD xs with
        | some ns => Out.ok (.list ((ns.mergeSort fun a b => decide (a ≤ b)).map .int))
        | none => srtD xs) := h
      cases q : intsD xs with
      | none =>
        rw [q] at h
        obtain ⟨g, h⟩ := Wn.guard (o := .ok _) (show Wn F H W (RV1 X.K false Q) (Out.guard (srtOk xs) (.ok (.list (xs.mergeSort (PySem.W.dataLe false id))))) from h)
        intro pins s' σ us J ru
        obtain rfl := Vals.ref1 ru
        exact srt_list hu J s r t g fun p ws np tw => Wn.newL (pk := false) s h tw np
      | some ns =>
        rw [q] at h
        have ev := intsD_V q t
        subst ev
        refine CallR.w cr_sortedI ⟨a, ns, rfl, .inl r, fun ns' p pm pw np => ?_⟩
        have e : ns' = ns.mergeSort fun a b => decide (a ≤ b) := by
          refine PySem.W.ksm_same (pm.trans (List.mergeSort_perm ns _).symm) pw ?_
          have := List.pairwise_mergeSort (le := fun a b : Int => decide (a ≤ b)) (fun a b c h1 h2 => by simp at *; omega) (fun a b => by simp; omega) ns
          exact this.imp fun h => by simpa using h
        subst e
        exact Wn.newL (pk := false) s h (DDs.ints _) np
    | dict es =>
      have h0 : Wn F H W (RV1 X.K false Q) (srtK es) := h
      clear h
      by_cases hm : ∃ es', es = mkD :: es'
      · obtain ⟨es', rfl⟩ := hm
        have h := h0
        obtain ⟨g, h⟩ := Wn.guard (o := .ok _) (show Wn F H W (RV1 X.K false Q) (Out.guard (srtOk (es'.map (·.1))) (.ok (.list ((es'.map (·.1)).mergeSort (PySem.W.dataLe false id))))) from h)
        obtain ⟨a, xs, ep, rfl, r, t⟩ := TD.dnn s hx
        intro pins s' σ us J ru
        obtain rfl := Vals.ref1 ru
        exact cr_srtK hc hu J s r t g fun p ws np tw => Wn.newL (pk := false) s h tw np
      · unfold srtK at h0
        split at h0
        · exact absurd ⟨_, rfl⟩ hm
        · exact h0.elim
    | _ => exact h.elim
  | dict =>
    cases x with
    | list xs =>
      obtain ⟨a, vs, rfl, r, t⟩ := hx.lst s
      have h : Wn F H W (RV1 X.K false Q) (match pairs xs with
        | some kvs => Out.guard (kvs.all fun p => keyD p.1) (Out.ok (.dict (putAllD [] kvs)))
        | none => Out.bad) := h
      cases q : pairs xs with
      | none =>
        rw [q] at h
        exact h.elim
      | some kvs =>
        rw [q] at h
        obtain ⟨g, h⟩ := Wn.guard (o := .ok _) h
        obtain ⟨ps, m, e1, e2, e3⟩ := pairs_V s q g t
        subst e1
        refine CallR.w (call_dictP hc) ⟨a, ps, m, rfl, .inl r, e2, fun p np => ?_⟩
        have e : Ext F H (upd F p (.dK (mergeK [] m))) (upd H p (.dK (mergeK [] m))) := Ext.new s np
        have hd : DD X.K (upd F p (.dK (mergeK [] m))) (.ref p) (.dict (putAllD [] kvs)) := .dic ⟨_, upd_same, rfl⟩ ((putAll_V (l := []) e3 .nil List.nodup_nil).mono e.ff)
        exact h _ _ e _ (.inl hd) fun _ => hd
    | _ => exact h.elim
  | _ => cases hf
end

/-! ### isinstance -/
def tyOfD : D → String
  | .none => "NoneType"
  | .bool _ => "bool"
  | .int _ => "int"
  | .str _ => "str"
  | .list _ => "list"
  | .tuple _ => "tuple"
  | .dict _ => "dict"
def isiTy : B1 → String
  | .isInt => "int"
  | .isBool => "bool"
  | .isTuple => "tuple"
  | .isStr => "str"
  | .isList => "list"
  | _ => ""
section
variable {X : Cx} {F H : Hp} {W : Nat → Hp → Prop} {Q : VK}
theorem ty_ok {x : D} {v : V} (s : Same F H) (hd : ∀ es, x = .dict es → nscr es = true) (hx : TD X.K F H v x) : TyX X.K H v (.type (tyOfD x)) := by
  cases x with
  | none =>
    obtain rfl := hx.non
    exact .base .non
  | bool b =>
    obtain rfl := hx.bl
    exact .base (.bl _)
  | int b =>
    obtain rfl := hx.int
    exact .base (.int _)
  | str b =>
    obtain rfl := hx.str
    exact .base (.str _)
  | list xs =>
    obtain ⟨a, vs, rfl, r, t⟩ := hx.lst s
    rcases r with r | ⟨o, r⟩
    · exact .base (.lst r)
    · exact .base (.frz r)
  | tuple xs =>
    obtain ⟨a, vs, rfl, r, t⟩ := hx.tup
    rcases Same.sqt s r with (r | ⟨o, r⟩) | ⟨o, its, n, r, c, _⟩
    · exact .base (.tup r)
    · exact .fTuple r
    · exact .kTuple r c
  | dict es =>
    obtain ⟨a, l, rfl, r, t⟩ := hx.dic s (hd es rfl)
    exact .base (.dK r)
theorem isi_ok {f : B1} {x : D} {v : V} {y : Str} (s : Same F H) (hf : b1Isi f = some y) (hx : TD X.K F H v x) (h : Wn F H W (RV1 X.K false Q) (b1 f x)) : wCall X (.builtin "isinstance") [v, .ty (isiTy f)] H Q := by
  have go : ∀ b, kitB (tyOfD x) (isiTy f) = some b → b1 f x = .ok (.bool b) → (∀ es, x = .dict es → nscr es = true) → wCall X (.builtin "isinstance") [v, .ty (isiTy f)] H Q := fun b e1 e2 hd => by
    rw [e2] at h
    exact CallR.w call_isi ⟨v, .ty (isiTy f), .type (tyOfD x), .type (isiTy f), b, rfl, .ty _, ty_ok s hd hx, kit_ty e1, h.here s (.bl _)⟩
  have nd : ∀ es, x = .dict es → nscr es = true := fun es e => by
    subst e
    cases f <;> first | (cases hf; done) | exact (Wn.guard (o := .ok _) h).1
  have gd : ∀ es, x = .dict es → b1 f x = .ok (.bool false) := fun es e => by
    have g := nd es e
    subst e
    cases f <;> first | (cases hf; done) | (show Out.guard (nscr es) (Out.ok (PyData.bool false)) = _; rw [g]; rfl)
  cases f with
  | isInt => cases x <;> first | exact go true (by dsimp only [tyOfD, isiTy]; decide +kernel) rfl nd | exact go false (by dsimp only [tyOfD, isiTy]; decide +kernel) rfl nd | exact go false (by dsimp only [tyOfD, isiTy]; decide +kernel) (gd _ rfl) nd
  | isBool => cases x <;> first | exact go true (by dsimp only [tyOfD, isiTy]; decide +kernel) rfl nd | exact go false (by dsimp only [tyOfD, isiTy]; decide +kernel) rfl nd | exact go false (by dsimp only [tyOfD, isiTy]; decide +kernel) (gd _ rfl) nd
  | isTuple => cases x <;> first | exact go true (by dsimp only [tyOfD, isiTy]; decide +kernel) rfl nd | exact go false (by dsimp only [tyOfD, isiTy]; decide +kernel) rfl nd | exact go false (by dsimp only [tyOfD, isiTy]; decide +kernel) (gd _ rfl) nd
  | isStr => cases x <;> first | exact go true (by dsimp only [tyOfD, isiTy]; decide +kernel) rfl nd | exact go false (by dsimp only [tyOfD, isiTy]; decide +kernel) rfl nd | exact go false (by dsimp only [tyOfD, isiTy]; decide +kernel) (gd _ rfl) nd
  | isList => cases x <;> first | exact go true (by dsimp only [tyOfD, isiTy]; decide +kernel) rfl nd | exact go false (by dsimp only [tyOfD, isiTy]; decide +kernel) rfl nd | exact go false (by dsimp only [tyOfD, isiTy]; decide +kernel) (gd _ rfl) nd
  | _ => cases hf
end
end FL

set_option Elab.async false
set_option maxRecDepth 100000
set_option maxHeartbeats 4000000
/-! FLs5: contexts; the lemmas of the expressions. -/
namespace FL
open PySem PySem.Spec PyProof.Rows L2

def bltN : List Str := ["len", "tuple", "list", "int", "max", "min", "sum", "sorted", "dict", "range", "zip", "enumerate", "isinstance", "bool", "str", "set"]

/-- what the class of an exception is -/
def exv (Γ : Gm) (mg : Str → Option Value) (k : Nat) : Option Value := (Γ.ex k).bind mg
/-- the wish about exceptions, by classes -/
def EW (Γ : Gm) (mg : Str → Option Value) (W : Nat → Hp → Prop) : XK := fun cls d H => d = none ∧ ∃ k, exv Γ mg k = some cls ∧ W k H
/-- a def's promise by its meaning -/
def spF (Γ : Gm) (K : PySem.W.Frag) (mg : Str → Option Value) (φ : List D → Out D) : Sp := fun vs H Q E => ∃ ds F, DDs K F vs ds ∧ Same F H ∧
  Wn F H (fun k H' => ∀ cls, exv Γ mg k = some cls → E cls none H') (fun d F' H' => ∀ v, DD K F' v d → Q v H') (φ ds)
def FnsOk (Γ : Gm) (Φ : Nat → List D → Out D) (n : Nat) (X : Cx) : Prop := ∀ f x, Γ.fn f = some x → ∃ (a : Addr) (fd : FuncData) (ps : List Str), X.mg x = some (.ref a) ∧ PySem.W.keepIn X.K (.ref a) = true ∧ Binds X.K fd ps [] ∧
  FnOk X.prog X.w X.K X.mg X.base (L2.CX X.prog X.w) n a fd ps (spF Γ X.K X.mg (Φ f))

structure Cok (Γ : Gm) (Φ : Nat → List D → Out D) (n : Nat) (W : L2.St → Nat → Hp → Prop) (N : List Str) (sc : Scope) (X : Cx) : Prop where
  nm : X.N = N
  nd : N.Nodup
  sc : X.env.scope = sc
  calm : X.calm = true
  room : Room n X.A
  fns : FnsOk Γ Φ n X
  free : ∀ x, x ∈ bltN → X.mg x = none
  glo : ∀ g x d, Γ.gl g = some (x, d) → ∃ u v, X.mg x = some u ∧ RelV v u ∧ ∀ F, DD X.K F v d
  pass : ∀ σ, PassesAt (L2.CX X.prog X.w) X σ (EW Γ X.mg (W σ))

/-- the items of a walk -/
def WalkD (K : PySem.W.Frag) (F : Hp) (J : It) (ds : List D) : Prop := Walk J ds.length (fun H => Same F H) (fun i H x H' => ∀ F1, Same F F1 → Same F1 H → ∃ d F2, ds[i]? = some d ∧ Ext F1 H F2 H' ∧ DD K F2 x d)

section
variable (Φ : Nat → List D → Out D) (W : L2.St → Nat → Hp → Prop) (X : Cx)
def SE (c : CE) (e : Expr) : Prop := ∀ (H0 : Hp) (S : St) (σ : L2.St) (F H : Hp) (Q : VK), Rp X.K H0 S σ F H → Wn F H (W σ) (RV1 X.K (isPk c) Q) (ev Φ c S) → wE X e σ H Q
def ST (c : CE) (e : Expr) : Prop := ∀ (H0 : Hp) (S : St) (σ : L2.St) (F H : Hp) (Q : Bool → Hp → Prop), Rp X.K H0 S σ F H → Wn F H (W σ) (fun b _ H' => Q b H') ((ev Φ c S).bind tru) → wT X e σ H Q
def SA (as : CEs) (es : List Expr) : Prop := ∀ (H0 : Hp) (S : St) (σ : L2.St) (F H : Hp) (Q : List V → Hp → Prop), Rp X.K H0 S σ F H → Wn F H (W σ) (fun ds F' H' => ∀ vs, DDs X.K F' vs ds → Q vs H') (evs Φ as S) → wA X es σ H Q
def SI (it : CI) (iter tg : Expr) : Prop := ∀ (H0 : Hp) (S : St) (σ : L2.St) (F H : Hp) (R : It → Hp → Prop), Rp X.K H0 S σ F H → Wn F H (W σ) (fun ds F' H' => ds.length ≤ sizeLine → ∀ J, WalkD X.K F' J ds → R J H') (evi Φ it S) → wI X tg iter σ H R
end

section
variable {Γ : Gm} {Φ : Nat → List D → Out D} {n : Nat} {W : L2.St → Nat → Hp → Prop} {N : List Str} {sc : Scope} {X : Cx} {pos : Pos}
theorem Cok.u (k : Cok Γ Φ n W N sc X) : X.A.units + 66 < cLine := by
  have := k.room.un
  omega
theorem Cok.gl (k : Cok Γ Φ n W N sc X) {x : Str} (h : glB sc x = true) : Gl X x ∧ (x == ("__debug__" : Str)) = false ∧ x ≠ "__name__" := by
  unfold glB at h
  simp only [Bool.and_eq_true, decide_eq_true_eq, Bool.not_eq_true'] at h
  refine ⟨?_, h.2.1, h.2.2⟩
  show X.env.scope.names.lookup x = some .globalImplicit
  rw [k.sc]
  exact h.1
theorem Cok.vis (k : Cok Γ Φ n W N sc X) {x : Str} (h : visB sc x = true) : Vis X.env.scope x := by
  unfold visB at h
  unfold Vis
  rw [k.sc]
  split at h <;> rename_i q
  · exact .inl q
  · exact .inr (.inl q)
  · exact .inr (.inr q)
  · cases h
theorem Cok.loc (k : Cok Γ Φ n W N sc X) {x : Str} (h : locB sc x = true) : L2.Loc X.env.scope x := by
  unfold locB at h
  unfold L2.Loc
  rw [k.sc]
  split at h <;> rename_i q
  · exact .inl q
  · exact .inr q
  · cases h
/-- two expressions, one behind the other -/
theorem two {β : Type} {ca cb : CE} {a b : Expr} (ha : SE Φ W X ca a) (hb : SE Φ W X cb b) {H0 : Hp} {S : St} {σ : L2.St} {F H : Hp} {R : β → Hp → Hp → Prop} {f : D → D → Out β} (r : Rp X.K H0 S σ F H)
    (h : Wn F H (W σ) R ((ev Φ ca S).bind fun x => (ev Φ cb S).bind fun y => f x y)) {Z : V → V → Hp → Prop}
    (hz : ∀ x y v u F2 H2, Ext F H F2 H2 → Same F2 H2 → TD X.K F2 H2 v x → TD X.K F2 H2 u y → (isPk ca = false → DD X.K F2 v x) → (isPk cb = false → DD X.K F2 u y) → Wn F2 H2 (W σ) R (f x y) → Z v u H2) :
    wE X a σ H fun v H1 => wE X b σ H1 fun u H2 => Z v u H2 := by
  refine ha H0 S σ F H _ r (h.bind.imp fun x F1 H1 _ e1 h1 v tv dv => ?_)
  refine hb H0 S σ F1 H1 _ (r.ext e1) (h1.bind.imp fun y F2 H2 _ e2 h2 u tu du => ?_)
  exact hz x y v u F2 H2 (e1.trans e2) e2.fh (tv.ext e2) tu (fun z => (dv z).mono e2.ff) du h2
theorem one {β : Type} {ca : CE} {a : Expr} (ha : SE Φ W X ca a) {H0 : Hp} {S : St} {σ : L2.St} {F H : Hp} {R : β → Hp → Hp → Prop} {f : D → Out β} (r : Rp X.K H0 S σ F H)
    (h : Wn F H (W σ) R ((ev Φ ca S).bind f)) {Z : V → Hp → Prop} (hz : ∀ x v F1 H1, Ext F H F1 H1 → Same F1 H1 → TD X.K F1 H1 v x → (isPk ca = false → DD X.K F1 v x) → Wn F1 H1 (W σ) R (f x) → Z v H1) : wE X a σ H Z :=
  ha H0 S σ F H _ r (h.bind.imp fun x F1 H1 _ e1 h1 v tv dv => hz x v F1 H1 e1 e1.fh tv dv h1)

theorem tru_exc {x : D} {k : Nat} (h : tru x = .exc k) : False := by
  have gd : ∀ {b z : Bool}, Out.guard b (.ok z) = .exc k → False := fun {b z} h => by cases b <;> cases h
  cases x <;> first | (cases h; done) | exact gd h

/-! ### tests -/
/-- a test whose text is its value's truth -/
def plnB : Expr → Bool
  | .UnaryOp .Not _ _ => false
  | .BoolOp _ _ _ => false
  | .IfExp _ _ _ _ => false
  | .Compare _ _ _ _ => false
  | _ => true
theorem pln_eq {e : Expr} (h : plnB e = true) (env : Env) (whole : Sem Value) : isTrue e env whole = (do let v ← whole; standAt e.pos; holding [v] (truthy v)) := by
  cases e with
  | UnaryOp op x p => cases op <;> first | rfl | cases h
  | BoolOp op xs p => cases h
  | IfExp a b c p => cases h
  | Compare a b c p => cases h
  | _ => rfl
theorem st_plain {c : CE} {e : Expr} (h : SE Φ W X c e) (p : plnB e = true) : ST Φ W X c e := fun H0 S σ F H Q r hw => by
  refine PT.w (pt_truth pe_w (pln_eq p X.env)) ?_
  refine one h r hw fun x v F1 H1 e1 s1 tv _ h1 => ?_
  cases q : tru x with
  | ok b =>
    rw [q] at h1
    exact ⟨b, tru_ok' s1 tv q, h1 F1 H1 (Ext.refl s1)⟩
  | exc k => exact (tru_exc q).elim
  | bad =>
    rw [q] at h1
    exact h1.elim
theorem cop_bool {o : COp} {x y d : D} (h : cop o x y = .ok d) : ∃ b, d = .bool b := by
  have gd : ∀ {b : Bool} {z : Bool}, Out.guard b (.ok (PyData.bool z)) = .ok d → ∃ b, d = PyData.bool b := fun {b z} h => by
    cases b
    · cases h
    · cases h
      exact ⟨_, rfl⟩
  cases o with
  | eq => exact gd (show Out.guard (shp x && shp y) (.ok (PyData.bool (PyData.eqv x y))) = .ok d by cases x <;> cases y <;> exact h)
  | ne => exact gd (show Out.guard (shp x && shp y) (.ok (PyData.bool (!PyData.eqv x y))) = .ok d by cases x <;> cases y <;> exact h)
  | lt => cases x <;> cases y <;> first | (cases h; exact ⟨_, rfl⟩) | cases h
  | le => cases x <;> cases y <;> first | (cases h; exact ⟨_, rfl⟩) | cases h
  | gt => cases x <;> cases y <;> first | (cases h; exact ⟨_, rfl⟩) | cases h
  | ge =>
    cases x <;> cases y <;> first | (cases h; exact ⟨_, rfl⟩) | cases h; done | exact gd h
  | is => cases x <;> cases y <;> first | (cases h; exact ⟨_, rfl⟩) | cases h
  | isn => cases x <;> cases y <;> first | (cases h; exact ⟨_, rfl⟩) | cases h
  | inn =>
    have h : (inD x y).map PyData.bool = .ok d := by cases x <;> cases y <;> exact h
    cases q : inD x y <;> rw [q] at h <;> cases h
    exact ⟨_, rfl⟩
  | nin =>
    have h : ((inD x y).map fun r => PyData.bool (!r)) = .ok d := by cases x <;> cases y <;> exact h
    cases q : inD x y <;> rw [q] at h <;> cases h
    exact ⟨_, rfl⟩
/-- an outcome that is a truth value, as a test -/
theorem tru_bool {σ : L2.St} {F H : Hp} {o : Out D} {Q : Bool → Hp → Prop} (h : Wn F H (W σ) (fun b _ H' => Q b H') (o.bind tru)) (hb : ∀ d, o = .ok d → ∃ b, d = .bool b) : Wn F H (W σ) (RV1 X.K false fun v H' => ∃ b, v = .bl b ∧ Q b H') o := by
  refine h.bind.imp fun d F' H' eo e hw v tv _ => ?_
  obtain ⟨b, rfl⟩ := hb d eo
  obtain rfl := tv.bl
  exact ⟨b, rfl, hw F' H' (Ext.refl e.fh)⟩

/-! ### single expressions -/
theorem se_con {d : D} {c : Const} {k : Nat} (h : constIs c d = true) : SE Φ W X (.con d) (.Constant c k pos) := fun H0 S σ F H Q r hw => by
  cases c <;> cases d <;> first | cases h; done | skip
  · exact PE.w pe_non (hw.here r.fh .non)
  · simp [constIs] at h
    subst h
    exact PE.w pe_bl (hw.here r.fh (.bl _))
  · simp [constIs] at h
    subst h
    exact PE.w pe_int (hw.here r.fh (.int _))
  · simp [constIs] at h
    subst h
    exact PE.w pe_str (hw.here r.fh (.str _))
theorem nd_of {x : Str} (h : ndB x = true) : (x == ("__debug__" : Str)) = false ∧ (x == ("__classdict__" : Str)) = false := by
  unfold ndB at h
  simpa only [Bool.and_eq_true, Bool.not_eq_true'] using h
theorem se_var {i : Nat} {x : Str} (k : Cok Γ Φ n W N sc X) (hi : N[i]? = some x) (hv : visB sc x = true) (hd : ndB x = true) : SE Φ W X (.var i) (.Name x pos) := fun H0 S σ F H Q r hw => by
  obtain ⟨d1, d2⟩ := nd_of hd
  refine PE.w (pe_var (i := i) (by rw [k.nm]; exact hi) (k.vis hv) d1 d2) ?_
  have hw : Wn F H (W σ) (RV1 X.K false Q) (getF S i) := hw
  unfold getF at hw
  split at hw
  · rename_i d q
    obtain ⟨v, e1, e2⟩ := r.fz i d q
    exact ⟨v, e1, hw.here r.fh e2⟩
  · exact hw.elim
theorem se_pk {i : Nat} {x : Str} (k : Cok Γ Φ n W N sc X) (hi : N[i]? = some x) (hv : visB sc x = true) (hd : ndB x = true) : SE Φ W X (.pk i) (.Name x pos) := fun H0 S σ F H Q r hw => by
  obtain ⟨d1, d2⟩ := nd_of hd
  refine PE.w (pe_var (i := i) (by rw [k.nm]; exact hi) (k.vis hv) d1 d2) ?_
  have hw : Wn F H (W σ) (RV1 X.K true Q) (getP S i) := hw
  unfold getP at hw
  split at hw
  · rename_i d q
    obtain ⟨v, e1, e2⟩ := r.fz i d q
    exact ⟨v, e1, hw F H (Ext.refl r.fh) v (.inl e2) fun z => by cases z⟩
  · rename_i d q
    obtain ⟨a, e1, _, _, e2⟩ := r.ow i d q
    exact ⟨.ref a, e1, hw F H (Ext.refl r.fh) _ (.inr ⟨a, rfl, e2⟩) fun z => by cases z⟩
  · exact hw.elim
theorem se_glo {g : Nat} {d : D} {x : Str} (k : Cok Γ Φ n W N sc X) (hg : Γ.gl g = some (x, d)) (hx : glB sc x = true) : SE Φ W X (.glo g d) (.Name x pos) := fun H0 S σ F H Q r hw => by
  obtain ⟨g1, g2, g3⟩ := k.gl hx
  obtain ⟨u, v, e1, e2, e3⟩ := k.glo g x d hg
  exact PE.w (pe_glob g1 e1 e2 g2) (hw.here r.fh (e3 F))
theorem se_bin {o : BOp} {ca cb : CE} {a b : Expr} (ha : SE Φ W X ca a) (hb : SE Φ W X cb b) : SE Φ W X (.bin o ca cb) (.BinOp a (opOf o) b pos) := fun H0 S σ F H Q r hw => by
  refine PE.w (pe_op op_w pe_w pe_w) ?_
  exact two ha hb r hw fun x y v u F2 H2 _ s2 tv tu _ _ h2 => op_ok s2 tv tu h2
theorem se_neg {ca : CE} {a : Expr} (ha : SE Φ W X ca a) : SE Φ W X (.neg ca) (.UnaryOp .USub a pos) := fun H0 S σ F H Q r hw => by
  refine PE.w (pe_un un_neg pe_w) ?_
  refine one ha r hw fun x v F1 H1 _ s1 tv _ h1 => ?_
  cases x with
  | int i =>
    obtain rfl := tv.int
    exact ⟨i, rfl, Wn.here (pk := false) s1 h1 (.int _)⟩
  | _ => exact h1.elim
/-- the truth of a value -/
theorem tru_w {σ : L2.St} {β : Type} {F H : Hp} {R : β → Hp → Hp → Prop} {x : D} {v : V} {f : Bool → Out β} (s : Same F H) (t : TD X.K F H v x) (h : Wn F H (W σ) R ((tru x).bind f)) : ∃ b, TruV X.K v H b ∧ Wn F H (W σ) R (f b) := by
  cases q : tru x with
  | ok b =>
    rw [q] at h
    exact ⟨b, tru_ok' s t q, h⟩
  | exc k => exact (tru_exc q).elim
  | bad =>
    rw [q] at h
    exact h.elim
theorem se_not {ca : CE} {a : Expr} (ha : SE Φ W X ca a) : SE Φ W X (.not ca) (.UnaryOp .Not a pos) := fun H0 S σ F H Q r hw => by
  refine PE.w (pe_notT pe_w) ?_
  refine one ha r hw fun x v F1 H1 _ s1 tv _ h1 => ?_
  obtain ⟨b, h2, h3⟩ := tru_w s1 tv h1
  exact ⟨b, h2, Wn.here (pk := false) s1 h3 (.bl _)⟩
theorem st_not {ca : CE} {a : Expr} (ha : ST Φ W X ca a) : ST Φ W X (.not ca) (.UnaryOp .Not a pos) := fun H0 S σ F H Q r hw => by
  refine PT.w (pt_not pt_w) ?_
  refine ha H0 S σ F H _ r ?_
  have e : (ev Φ (.not ca) S).bind tru = ((ev Φ ca S).bind tru).bind fun b => .ok (!b) := by
    show ((ev Φ ca S).bind fun x => (tru x).bind fun b => .ok (.bool (!b))).bind tru = _
    cases ev Φ ca S with
    | ok x =>
      show ((tru x).bind fun b => .ok (.bool (!b))).bind tru = (tru x).bind fun b => .ok (!b)
      cases tru x <;> rfl
    | exc k => rfl
    | bad => rfl
  rw [e] at hw
  exact hw.bind.imp fun b F1 H1 _ e1 h1 => h1 F1 H1 (Ext.refl e1.fh)
theorem se_cmp {o : COp} {ca cb : CE} {a b : Expr} (k : Cok Γ Φ n W N sc X) (ha : SE Φ W X ca a) (hb : SE Φ W X cb b) (hm : behindInMarks (cmOf o) b = false) : SE Φ W X (.cmp o ca cb) (.Compare a [cmOf o] [b] pos) := fun H0 S σ F H Q r hw => by
  refine PE.w (pe_cmpR op_w pe_w pe_w hm) ?_
  exact two ha hb r hw fun x y v u F2 H2 _ s2 tv tu _ _ h2 => cop_ok k.u s2 tv tu h2
theorem st_cmp {o : COp} {ca cb : CE} {a b : Expr} (k : Cok Γ Φ n W N sc X) (ha : SE Φ W X ca a) (hb : SE Φ W X cb b) (hm : behindInMarks (cmOf o) b = false) : ST Φ W X (.cmp o ca cb) (.Compare a [cmOf o] [b] pos) := fun H0 S σ F H Q r hw => by
  refine PT.w (pt_cmpR op_w pe_w pe_w hm) ?_
  have hw : Wn F H (W σ) (fun b _ H' => Q b H') (((ev Φ ca S).bind fun x => (ev Φ cb S).bind fun y => cop o x y).bind tru) := hw
  have hb2 : ∀ d, ((ev Φ ca S).bind fun x => (ev Φ cb S).bind fun y => cop o x y) = .ok d → ∃ b, d = .bool b := fun d h => by
    cases q : ev Φ ca S <;> rw [q] at h <;> first | cases h; done | skip
    cases q2 : ev Φ cb S <;> rw [q2] at h <;> first | cases h; done | skip
    exact cop_bool h
  exact two ha hb r (tru_bool (X := X) hw hb2) fun x y v u F2 H2 _ s2 tv tu _ _ h2 => cop_ok k.u s2 tv tu h2
theorem isN_V {K : PySem.W.Frag} {F H : Hp} {x : D} {v : V} (t : TD K F H v x) : decide (v = .non) = (match x with
    | .none => true
    | _ => false) := by
  cases x with
  | none =>
    obtain rfl := t.non
    rfl
  | bool b =>
    obtain rfl := t.bl
    rfl
  | int b =>
    obtain rfl := t.int
    rfl
  | str b =>
    obtain rfl := t.str
    rfl
  | list b =>
    rcases t with t | ⟨a, rfl, _⟩
    · cases t
      rfl
    · rfl
  | tuple b =>
    obtain ⟨a, _, rfl, _⟩ := t.tup
    rfl
  | dict b =>
    rcases t with t | ⟨a, rfl, _⟩
    · cases t <;> rfl
    · rfl
theorem se_isN {yes : Bool} {ca : CE} {a : Expr} {j : Nat} {p : Pos} (ha : SE Φ W X ca a) : SE Φ W X (.isN yes ca) (.Compare a [if yes = true then .Is else .IsNot] [.Constant .none j p] pos) := fun H0 S σ F H Q r hw => by
  cases yes with
  | true =>
    refine PE.w (pe_cmp (pc_isN pe_w)) ?_
    refine one ha r hw fun x v F1 H1 _ s1 tv _ h1 => ?_
    rw [isN_V tv]
    have q := Wn.here (pk := false) s1 h1 (.bl _)
    cases x <;> exact q
  | false =>
    refine PE.w (pe_cmp (pc_notN pe_w)) ?_
    refine one ha r hw fun x v F1 H1 _ s1 tv _ h1 => ?_
    rw [isN_V tv]
    have q := Wn.here (pk := false) s1 h1 (.bl _)
    cases x <;> exact q
theorem st_isN {yes : Bool} {ca : CE} {a : Expr} {j : Nat} {p : Pos} (ha : SE Φ W X ca a) : ST Φ W X (.isN yes ca) (.Compare a [if yes = true then .Is else .IsNot] [.Constant .none j p] pos) := fun H0 S σ F H Q r hw => by
  have hw : Wn F H (W σ) (fun b _ H' => Q b H') (((ev Φ ca S).bind fun x => .ok (.bool (match x with
      | .none => yes
      | _ => !yes))).bind tru) := hw
  have hb2 : ∀ d, ((ev Φ ca S).bind fun x => .ok (.bool (match x with
      | .none => yes
      | _ => !yes))) = .ok d → ∃ b, d = PyData.bool b := fun d h => by
    cases q : ev Φ ca S <;> rw [q] at h <;> cases h
    exact ⟨_, rfl⟩
  cases yes with
  | true =>
    refine PT.w (pt_cmp (pc_isN pe_w)) ?_
    refine one ha r (tru_bool (X := X) hw hb2) fun x v F1 H1 _ s1 tv _ h1 => ?_
    rw [isN_V tv]
    have q := Wn.here (pk := false) s1 h1 (.bl _)
    cases x <;> exact q
  | false =>
    refine PT.w (pt_cmp (pc_notN pe_w)) ?_
    refine one ha r (tru_bool (X := X) hw hb2) fun x v F1 H1 _ s1 tv _ h1 => ?_
    rw [isN_V tv]
    have q := Wn.here (pk := false) s1 h1 (.bl _)
    cases x <;> exact q
theorem se_chn {o p : COp} {ca cb cc : CE} {a b c : Expr} (k : Cok Γ Φ n W N sc X) (ha : SE Φ W X ca a) (hb : SE Φ W X cb b) (hc : SE Φ W X cc c) (hm : lastMarks [cmOf o, cmOf p] [b, c] = false) :
    SE Φ W X (.chn o p ca cb cc) (.Compare a [cmOf o, cmOf p] [b, c] pos) := fun H0 S σ F H Q r hw => by
  refine PE.w (pe_chain op_w op_w pe_w pe_w pe_w hm) ?_
  refine two ha hb r hw fun x y v u F2 H2 e2 s2 tv tu _ _ h2 => ?_
  refine cop_ok (W := W σ) k.u s2 tv tu (h2.bind.imp fun d F3 H3 ed e3 h3 z tz _ => ?_)
  obtain ⟨t, rfl⟩ := cop_bool ed
  obtain rfl := tz.bl
  refine ⟨t, rfl, ?_⟩
  cases t with
  | false => exact Wn.here (pk := false) e3.fh h3 (.bl _)
  | true =>
    rw [if_pos rfl]
    exact one hc ((r.ext e2).ext e3) h3 fun z w F4 H4 e4 s4 tw _ h4 => cop_ok k.u s4 (tu.ext (e3.trans e4)) tw h4
theorem st_chn {o p : COp} {ca cb cc : CE} {a b c : Expr} (k : Cok Γ Φ n W N sc X) (ha : SE Φ W X ca a) (hb : SE Φ W X cb b) (hc : SE Φ W X cc c) (hm : lastMarks [cmOf o, cmOf p] [b, c] = false) :
    ST Φ W X (.chn o p ca cb cc) (.Compare a [cmOf o, cmOf p] [b, c] pos) := fun H0 S σ F H Q r hw => by
  refine PT.w (pt_chain op_w op_w pe_w pe_w pe_w hm) ?_
  have hb2 : ∀ d, ev Φ (.chn o p ca cb cc) S = .ok d → ∃ b, d = .bool b := fun d h => by
    have h : ((ev Φ ca S).bind fun x => (ev Φ cb S).bind fun y => (cop o x y).bind fun r => (match r with
      | .bool true => (ev Φ cc S).bind fun z => cop p y z
      | .bool false => .ok (.bool false)
      | _ => .bad)) = .ok d := h
    cases q : ev Φ ca S <;> rw [q] at h <;> first | cases h; done | skip
    cases q2 : ev Φ cb S <;> rw [q2] at h <;> first | cases h; done | skip
    rename_i x y
    have h : ((cop o x y).bind fun r => (match r with
      | .bool true => (ev Φ cc S).bind fun z => cop p y z
      | .bool false => .ok (.bool false)
      | _ => .bad)) = .ok d := h
    cases q3 : cop o x y with
    | ok t =>
      rw [q3] at h
      obtain ⟨b, rfl⟩ := cop_bool q3
      cases b with
      | false =>
        cases h
        exact ⟨_, rfl⟩
      | true =>
        have h : ((ev Φ cc S).bind fun z => cop p y z) = .ok d := h
        cases q4 : ev Φ cc S <;> rw [q4] at h <;> first | cases h; done | skip
        exact cop_bool h
    | exc k =>
      rw [q3] at h
      cases h
    | bad =>
      rw [q3] at h
      cases h
  refine two ha hb r (tru_bool (X := X) hw hb2) fun x y v u F2 H2 e2 s2 tv tu _ _ h2 => ?_
  refine cop_ok (W := W σ) k.u s2 tv tu (h2.bind.imp fun d F3 H3 ed e3 h3 z tz _ => ?_)
  obtain ⟨t, rfl⟩ := cop_bool ed
  obtain rfl := tz.bl
  refine ⟨t, rfl, ?_⟩
  cases t with
  | false => exact Wn.here (pk := false) e3.fh h3 (.bl _)
  | true =>
    rw [if_pos rfl]
    exact one hc ((r.ext e2).ext e3) h3 fun z w F4 H4 e4 s4 tw _ h4 => cop_ok k.u s4 (tu.ext (e3.trans e4)) tw h4
theorem se_ite {cc ca cb : CE} {c a b : Expr} (hc : ST Φ W X cc c) (ha : SE Φ W X ca a) (hb : SE Φ W X cb b) (pa : isPk ca = false) (pb : isPk cb = false) : SE Φ W X (.ite cc ca cb) (.IfExp c a b pos) := fun H0 S σ F H Q r hw => by
  refine PE.w (pe_ifExp pt_w pe_w pe_w) ?_
  refine hc H0 S σ F H _ r ?_
  have e : ev Φ (.ite cc ca cb) S = ((ev Φ cc S).bind tru).bind fun t => if t = true then ev Φ ca S else ev Φ cb S := by
    show ((ev Φ cc S).bind fun x => (tru x).bind fun t => if t = true then ev Φ ca S else ev Φ cb S) = _
    cases ev Φ cc S <;> rfl
  rw [e] at hw
  refine hw.bind.imp fun t F1 H1 _ e1 h1 => ?_
  cases t with
  | true =>
    rw [if_pos rfl] at h1 ⊢
    refine ha H0 S σ F1 H1 _ (r.ext e1) ?_
    rw [pa]
    exact h1
  | false =>
    rw [if_neg Bool.false_ne_true] at h1 ⊢
    refine hb H0 S σ F1 H1 _ (r.ext e1) ?_
    rw [pb]
    exact h1
theorem st_ite {cc ca cb : CE} {c a b : Expr} (hc : ST Φ W X cc c) (ha : ST Φ W X ca a) (hb : ST Φ W X cb b) : ST Φ W X (.ite cc ca cb) (.IfExp c a b pos) := fun H0 S σ F H Q r hw => by
  have e : (ev Φ (.ite cc ca cb) S).bind tru = ((ev Φ cc S).bind tru).bind fun t => if t = true then (ev Φ ca S).bind tru else (ev Φ cb S).bind tru := by
    show ((ev Φ cc S).bind fun x => (tru x).bind fun t => if t = true then ev Φ ca S else ev Φ cb S).bind tru = _
    cases ev Φ cc S with
    | ok x =>
      show ((tru x).bind fun t => if t = true then ev Φ ca S else ev Φ cb S).bind tru = (tru x).bind _
      cases tru x with
      | ok t => cases t <;> rfl
      | exc k => rfl
      | bad => rfl
    | exc k => rfl
    | bad => rfl
  rw [e] at hw
  have hi : wT X c σ H fun t H1 => if t = true then wT X a σ H1 Q else wT X b σ H1 Q := by
    refine hc H0 S σ F H _ r (hw.bind.imp fun t F1 H1 _ e1 h1 => ?_)
    cases t with
    | true =>
      rw [if_pos rfl] at h1 ⊢
      exact ha H0 S σ F1 H1 _ (r.ext e1) h1
    | false =>
      rw [if_neg Bool.false_ne_true] at h1 ⊢
      exact hb H0 S σ F1 H1 _ (r.ext e1) h1
  intro pins s I
  show wpAny (model X.prog X.w) X.A (isTrue c X.env (eval c X.env) >>= fun t => if t = true then isTrue a X.env (eval a X.env) else isTrue b X.env (eval b X.env)) _ _ _
  refine wpAny_bind (thn (hi pins s I) fun t s1 ⟨H1, I1, q1⟩ => ?_)
  cases t with
  | true =>
    rw [if_pos rfl] at q1 ⊢
    exact q1 pins s1 I1
  | false =>
    rw [if_neg Bool.false_ne_true] at q1 ⊢
    exact q1 pins s1 I1
end
end FL

set_option Elab.async false
set_option maxRecDepth 100000
set_option maxHeartbeats 4000000
/-! FLd5: tuples backwards, sorted(set(..)), count, the place in a tuple. -/
namespace FL
open PySem PySem.Spec PyProof.Rows L2

/-! ### each once, rising -/
section
variable {α : Type} {f : α → Int}
theorem insK_mem {x y : α} (hf : ∀ a, f a = f x → a = x) : ∀ {l : List α}, y ∈ insK f x l ↔ y = x ∨ y ∈ l := by
  intro l
  induction l with
  | nil => simp [insK]
  | cons z r ih =>
    unfold insK
    split
    · simp
    · split
      · rename_i _ e
        have : z = x := hf z e.symm
        subst this
        simp
      · simp only [List.mem_cons, ih]
        constructor
        · rintro (h | h | h) <;> simp [h]
        · rintro (h | h | h) <;> simp [h]
theorem insK_sub {x y : α} : ∀ {l : List α}, y ∈ insK f x l → y = x ∨ y ∈ l := by
  intro l
  induction l with
  | nil => simp [insK]
  | cons z r ih =>
    unfold insK
    split
    · simp
    · split
      · exact fun h => .inr h
      · intro h
        rcases List.mem_cons.mp h with h | h
        · simp [h]
        · rcases ih h with h | h <;> simp [h]
theorem insK_up {x : α} : ∀ {l : List α}, l.Pairwise (fun a b => f a < f b) → (insK f x l).Pairwise (fun a b => f a < f b) := by
  intro l
  induction l with
  | nil => intro _; simp [insK]
  | cons z r ih =>
    intro h
    obtain ⟨h1, h2⟩ := List.pairwise_cons.mp h
    unfold insK
    split
    · rename_i g
      refine List.pairwise_cons.mpr ⟨fun y hy => ?_, h⟩
      rcases List.mem_cons.mp hy with rfl | hy
      · exact g
      · exact Int.lt_trans g (h1 y hy)
    · split
      · exact h
      · rename_i g1 g2
        refine List.pairwise_cons.mpr ⟨fun y hy => ?_, ih h2⟩
        rcases insK_sub hy with rfl | hy
        · omega
        · exact h1 y hy
theorem usort_up (l : List α) : (usort f l).Pairwise (fun a b => f a < f b) := by
  induction l with
  | nil => exact List.Pairwise.nil
  | cons x l ih => exact insK_up ih
theorem usort_mem {P : α → Prop} (hf : ∀ a b, P a → P b → f a = f b → a = b) {l : List α} (hl : ∀ x ∈ l, P x) {y : α} : y ∈ usort f l ↔ y ∈ l := by
  have key : ∀ l : List α, (∀ x ∈ l, P x) → (∀ x ∈ usort f l, P x) ∧ ∀ y, y ∈ usort f l ↔ y ∈ l := by
    intro l
    induction l with
    | nil => intro _; exact ⟨fun x hx => (by cases hx), fun y => Iff.rfl⟩
    | cons x l ih =>
      intro hl
      obtain ⟨i1, i2⟩ := ih fun z hz => hl z (List.mem_cons_of_mem _ hz)
      have hx : P x := hl x (List.mem_cons_self ..)
      have e : ∀ y, y ∈ insK f x (usort f l) ↔ y = x ∨ y ∈ usort f l := by
        intro y
        have gen : ∀ r : List α, (∀ z ∈ r, P z) → (y ∈ insK f x r ↔ y = x ∨ y ∈ r) := by
          intro r
          induction r with
          | nil => intro _; simp [insK]
          | cons z r ih2 =>
            intro hr
            unfold insK
            split
            · simp
            · split
              · rename_i _ e
                have : x = z := hf x z hx (hr z (List.mem_cons_self ..)) e
                subst this
                simp
              · rw [List.mem_cons, ih2 fun q hq => hr q (List.mem_cons_of_mem _ hq)]
                simp only [List.mem_cons]
                constructor
                · rintro (h | h | h) <;> simp [h]
                · rintro (h | h | h) <;> simp [h]
        exact gen _ i1
      refine ⟨fun y hy => ?_, fun y => ?_⟩
      · rcases (e y).mp hy with rfl | h
        · exact hx
        · exact i1 y h
      · rw [show y ∈ usort f (x :: l) ↔ y ∈ insK f x (usort f l) from Iff.rfl, e y, i2 y, List.mem_cons]
  exact (key l hl).2 y
/-- two rising lists of the same things are one -/
theorem up_one : ∀ {l r : List α}, l.Pairwise (fun a b => f a < f b) → r.Pairwise (fun a b => f a < f b) → (∀ x, x ∈ l ↔ x ∈ r) → l = r
  | [], [], _, _, _ => rfl
  | [], y :: r, _, _, h => by
    have := (h y).mpr (List.mem_cons_self ..)
    cases this
  | x :: l, [], _, _, h => by
    have := (h x).mp (List.mem_cons_self ..)
    cases this
  | x :: l, y :: r, hl, hr, h => by
    obtain ⟨l1, l2⟩ := List.pairwise_cons.mp hl
    obtain ⟨r1, r2⟩ := List.pairwise_cons.mp hr
    have exy : x = y := by
      rcases List.mem_cons.mp ((h x).mp (List.mem_cons_self ..)) with e | e
      · exact e
      · rcases List.mem_cons.mp ((h y).mpr (List.mem_cons_self ..)) with e2 | e2
        · exact e2.symm
        · have a1 := r1 x e
          have a2 := l1 y e2
          omega
    subst exy
    rw [up_one l2 r2 fun z => ?_]
    constructor
    · intro hz
      rcases List.mem_cons.mp ((h z).mp (List.mem_cons_of_mem _ hz)) with e | e
      · subst e
        have := l1 z hz
        omega
      · exact e
    · intro hz
      rcases List.mem_cons.mp ((h z).mpr (List.mem_cons_of_mem _ hz)) with e | e
      · subst e
        have := r1 z hz
        omega
      · exact e
end
/-! ### xs[::-1] of a tuple -/
section
variable {prog : Program} {w : World} {A : Around} {E : Value → Shared → Prop} {s : Shared}
theorem sa_rev (n : Nat) : Builtin.Slice.sliceAdjust none none (-1) (n : Int) = ((n : Int) - 1, -1) := by
  unfold Builtin.Slice.sliceAdjust
  simp
theorem sp_rev (n : Nat) : Builtin.Slice.slicePlaces ((n : Int) - 1) (-1) (-1) = n := by
  unfold Builtin.Slice.slicePlaces
  simp
  split <;> omega
theorem app_rev {q : Addr} {vl vu vs : Value} {n : Nat} {Q : Int × Int × Nat → Shared → Prop} (hq : s.heap.IsSliceOf q vl vu vs) (pl : IsPart vl none) (pu : IsPart vu none) (ps : IsPart vs (some (-1)))
    (h : Q ((n : Int) - 1, -1, n) s) : wpAny (model prog w) A (Builtin.Slice.sliceApplied (.ref q) (pure (n : Int))) Q E s := by
  obtain ⟨so, hso, hcl, hfl⟩ := id hq
  unfold Builtin.Slice.sliceApplied
  unfold Builtin.Slice.sliceFields
  refine wpAny_bind ?_
  refine wpAny_bind (wpAny_field hso hfl (x := vl) rfl ?_)
  refine wpAny_bind (wpAny_field hso hfl (x := vu) rfl ?_)
  refine wpAny_bind (wpAny_field hso hfl (x := vs) rfl (wpAny_pure ?_))
  refine wpAny_bind (HT.slicePart_ ps ?_)
  show wpAny _ _ (if ((-1 : Int) == 0) = true then _ else _) _ _ s
  rw [if_neg (by decide)]
  refine wpAny_bind (HT.slicePart_ pl ?_)
  refine wpAny_bind (HT.slicePart_ pu (wpAny_bind (wpAny_pure ?_)))
  show wpAny _ _ (match Builtin.Slice.sliceAdjust none none (-1) (n : Int) with | (b, c) => pure (b, (-1 : Int), Builtin.Slice.slicePlaces b c (-1))) _ _ s
  rw [sa_rev]
  show wpAny _ _ (pure ((n : Int) - 1, (-1 : Int), Builtin.Slice.slicePlaces ((n : Int) - 1) (-1) (-1))) _ _ s
  rw [sp_rev]
  exact wpAny_pure h
theorem filterMap_same {α β : Type} {f g : α → Option β} : ∀ {l : List α}, (∀ x ∈ l, f x = g x) → l.filterMap f = l.filterMap g
  | [], _ => rfl
  | x :: l, h => by
    rw [List.filterMap_cons, List.filterMap_cons, h x (List.mem_cons_self ..), filterMap_same fun y hy => h y (List.mem_cons_of_mem _ hy)]
theorem pick_rev (xs : Array Value) : ((List.range xs.size).filterMap fun (m : Nat) => xs[(((xs.size : Int) - 1) + (m : Int) * (-1)).toNat]?).toArray = xs.toList.reverse.toArray := by
  congr 1
  obtain ⟨l⟩ := xs
  simp only [List.getElem?_toArray, List.size_toArray]
  show (List.range l.length).filterMap (fun (m : Nat) => l[(((l.length : Int) - 1) + (m : Int) * (-1)).toNat]?) = l.reverse
  have e1 : (List.range l.length).filterMap (fun (m : Nat) => l[(((l.length : Int) - 1) + (m : Int) * (-1)).toNat]?) = (List.range l.length).filterMap (fun (m : Nat) => l.reverse[m]?) := by
    refine filterMap_same fun m hm => ?_
    have hm : m < l.length := List.mem_range.mp hm
    rw [List.getElem?_reverse hm]
    congr 1
    omega
  rw [e1]
  have key : ∀ r : List Value, (List.range r.length).filterMap (fun (m : Nat) => r[m]?) = r := by
    intro r
    apply List.ext_getElem?
    intro i
    induction r generalizing i with
    | nil => simp
    | cons x r ih =>
      rw [List.length_cons, List.range_succ_eq_map, List.filterMap_cons, List.filterMap_map]
      show (x :: (List.range r.length).filterMap ((fun (m : Nat) => (x :: r)[m]?) ∘ Nat.succ))[i]? = _
      cases i with
      | zero => rfl
      | succ i => exact ih i
  have := key l.reverse
  rw [List.length_reverse] at this
  exact this
theorem item_rev {t q : Addr} {items : Array Value} {vl vu vs : Value} {Q : Value → Shared → Prop} (ht : IsTup s.heap t items) (hq : s.heap.IsSliceOf q vl vu vs) (pl : IsPart vl none) (pu : IsPart vu none) (ps : IsPart vs (some (-1)))
    (h : Q (.ref s.heap.objs.size) { s with heap := s.heap.push { cls := .type "tuple", data := .seq items.toList.reverse.toArray } }) (hsz : items.size ≤ sizeLine) : wpAny (model prog w) A (getItem (.ref t) (.ref q)) Q E s := by
  have fit : sizeOk (.seq items.toList.reverse.toArray) := by
    show items.toList.reverse.toArray.size ≤ sizeLine
    simpa using hsz
  obtain ⟨so, hso, hcl, hfl⟩ := id hq
  have tq : s.TypeIs (.ref q) "slice" := ⟨so, hso, hcl⟩
  unfold getItem
  try (with_reducible refine wpAny_holding ?_)
  first | (refine wpAny_bind (wpAny_pure ?_)) | skip
  refine wpAny_bind (wpAny_sequenceKey ht.typeIs (by decide) ?_)
  refine wpAny_bind (wpAny_callSpecial?_slot (name := Str.ofString "__getitem__") ht.typeIs PyProof.Rows.slot_tuple_getitem
    (wpAny_call_entry PyProof.Rows.slot_tuple_getitem ht.typeIs entry_tuple_getitem ?_ (args_tuple_getitem _ _)))
  show wpAny _ _ (Builtin.Tuple.tupleItemsOf (.ref t) >>= _) _ _ s
  refine wpAny_bind (tupleItemsOf_ ht (wpAny_bind (wpAny_typeOf tq ?_)))
  rw [if_pos (by decide)]
  refine wpAny_bind (app_rev hq pl pu ps ?_)
  show wpAny _ _ (if (((items.size : Int) - 1 == 0) && ((-1 : Int) == 1) && (items.size == items.size)) = true then _ else _) _ _ s
  rw [if_neg (by simp), pick_rev]
  first
    | exact wpAny_bind (m := Builtin.Tuple.tupleExact _) (wpAny_newObj_type (wpAny_pure ⟨_, rfl, wpAny_pure h⟩) fit)
    | exact wpAny_bind (m := Builtin.Tuple.tupleExact _) (wpAny_newObj_type (wpAny_bind (wpAny_pure (wpAny_pure ⟨_, rfl, wpAny_pure h⟩))) fit)
    | exact wpAny_bind (wpAny_bind (m := Builtin.Tuple.tupleExact _) (wpAny_newObj_type (wpAny_pure (wpAny_pure ⟨_, rfl, wpAny_pure h⟩)) fit))
    | exact wpAny_bind (wpAny_bind (m := Builtin.Tuple.tupleExact _) (wpAny_newObj_type (wpAny_pure ⟨_, rfl, wpAny_pure h⟩) fit))
end
section
variable {X : Cx} {pos : Pos}
/-- backwards: a list or a tuple -/
def tRev2 (K : PySem.W.Frag) (te : TE) : TE := fun σ H Q => te σ H fun x H1 => ∃ a xs, x = .ref a ∧ ((SqL K H1 a xs ∧ ∀ p, H1 p = none → Q (.ref p) (upd H1 p (.lst xs.reverse))) ∨ (SqT K H1 a xs ∧ ∀ p, H1 p = none → Q (.ref p) (upd H1 p (.tup xs.reverse))))
theorem pe_rev2 {e : Expr} {te : TE} {k : Nat} {p1 p2 p3 : Pos} (he : PE X e te) : PE X (.Subscript e (.Slice none none (some (.UnaryOp .USub (.Constant (.int 1) k p1) p2)) p3) pos) (tRev2 X.K te) := by
  refine ⟨fun pins s σ H Q J h => ?_⟩
  refine Subscript_ (thn (he.run pins s σ H _ J h) fun v s1 ⟨x, H1, J1, r1, a, xs, ex, q⟩ => ?_)
  subst ex
  obtain rfl : v = Value.ref a := r1
  have one : PO X (some (.UnaryOp .USub (.Constant (.int 1) k p1) p2)) (tPart (tUn (rU fun i => .int (-i)) (tC (.int 1)))) := po_some (pe_un un_neg pe_int)
  refine wpAny_Slice (thn (po_none.run pins s1 σ H1 (fun o Hb => o = none ∧ Hb = H1) J1 ⟨rfl, rfl⟩) fun vl s2 ⟨l, H2, J2, pl, el, e2⟩ => ?_)
  cases el
  cases e2
  refine thn (po_none.run pins s2 σ H1 (fun o Hb => o = none ∧ Hb = H1) J2 ⟨rfl, rfl⟩) fun vu s3 ⟨u, H3, J3, pu, eu, e3⟩ => ?_
  cases eu
  cases e3
  refine thn (one.run pins s3 σ H1 (fun o Hb => o = some (-1) ∧ Hb = H1) J3 ⟨1, rfl, -1, rfl, rfl, rfl⟩) fun vs s4 ⟨o, H4, J4, ps, eo, e4⟩ => ?_
  cases eo
  cases e4
  have J5 : L2.Inv X pins σ H1 { s4 with heap := s4.heap.push { cls := .type "slice", data := .fields #[vl, vu, vs] } } := J4.kept (t' := s4.toks) fun b ob z => Heap.get?_push_of_some _ z
  show wpAny _ X.A (subscriptTail e (.Slice none none (some (.UnaryOp .USub (.Constant (.int 1) k p1) p2)) p3) (.ref a) (.ref s4.heap.objs.size)) (EP X pins σ Q) X.xe { s4 with heap := s4.heap.push { cls := .type "slice", data := .fields #[vl, vu, vs] } }
  have sl := Heap.IsSliceOf.new s4.heap vl vu vs
  rcases q with ⟨hx, q⟩ | ⟨hx, q⟩
  · obtain ⟨its, r, ht, hz⟩ := J5.list hx
    refine tail_any (ops := [.ref a, .ref s4.heap.objs.size]) ht.isList.typeIs (PySem.slot_list_getitem.lookup) ?_ (by with_unfolding_all rfl)
    refine wpAny_getItem_list_slice ht.isList sl pl pu ps (by decide) ?_ (by have := r.length; rw [List.size_toArray]; omega)
    rw [PySem.W.krv_pick]
    refine ⟨.ref _, _, J5.laid (t' := s4.toks) (o := .lst xs.reverse) (fun b ob z => Heap.get?_push_of_some _ z) (Nat.le_refl _) ⟨by simpa using hz, _, 0, r.reverse, Heap.get?_push_size _ rfl⟩, rfl, ?_⟩
    exact q _ (J5.hok.fresh (Nat.le_refl _))
  · obtain ⟨its, r, ht, hz⟩ := J5.tuple hx
    refine tail_any (ops := [.ref a, .ref s4.heap.objs.size]) ht.typeIs (PyProof.Rows.slot_tuple_getitem.lookup) ?_ (by with_unfolding_all rfl)
    refine item_rev ht sl pl pu ps ?_ (by have := r.length; rw [List.size_toArray]; omega)
    refine ⟨.ref _, _, J5.laid (t' := s4.toks) (o := .tup xs.reverse) (fun b ob z => Heap.get?_push_of_some _ z) (Nat.le_refl _) ⟨by simpa using hz, _, r.reverse, IsTup.new _ _⟩, rfl, ?_⟩
    exact q _ (J5.hok.fresh (Nat.le_refl _))
/-! ### set(t), t a tuple of ints -/
def rSetTI (K : PySem.W.Frag) (w : World) : List V → Hp → VK → Prop := fun xs H Q => ∃ (l : Addr) (ns : List Int), xs = [V.ref l] ∧ SqT K H l (ns.map V.int) ∧ ns.length < 63 ∧
  ∀ a c, H a = none → c ≤ ns.length → Q (.ref a) (upd H a (SetO w a (fun j => decide (j ∈ ns)) c))
theorem cr_setTI (hc : X.calm = true) : CallR X (.type "set") (rSetTI X.K X.w) := by
  intro pins s σ H xs us Q J r h
  obtain ⟨l, ns, rfl, hl, hf, q⟩ := h
  rw [Vals.ref1 r]
  obtain ⟨its, rv, pl, hz⟩ := J.tuple hl
  have nw : H s.heap.objs.size = none := J.hok.fresh (Nat.le_refl _)
  refine call_set_tupI ns (J.ok.hd hc) (show s.heap.IsTuple l its.toArray from pl) (ints_of_vals rv) (by unfold scanBound; omega) fun h' tk c R hcn kp => ?_
  exact ⟨.ref s.heap.objs.size, _, J.laid (t' := tk) kp (Nat.le_refl _) (setO_new R), rfl, q _ c nw hcn⟩
/-! ### count, index -/
/-- what == says of the items -/
theorem at_ds {h : Heap} {ds : List FL.D} {its : List Value} {as : List Addr} (lay : PyData.canLayAll0 ds = true) (rd : ReadsAll h its ds as) {m : Nat} (hm : m < its.toArray.size) {z : FL.D} (hz : ds[m]? = some z) : SeqAt.readOf h its.toArray[m] = z := by
  have e := SeqAt.readsAll_map ds its as lay rd
  have hl : m < its.length := by simpa using hm
  rw [← e, List.getElem?_map, List.getElem?_eq_getElem hl] at hz
  have e2 : SeqAt.readOf h its[m] = z := Option.some.inj hz
  simpa using e2
theorem cnt_ds {h : Heap} {ds : List FL.D} {its : List Value} {as : List Addr} {d : FL.D} (lay : PyData.canLayAll0 ds = true) (rd : ReadsAll h its ds as) : its.countP (fun u => PyData.eqv (SeqAt.readOf h u) d) = ds.countP fun y => PyData.eqv y d := by
  rw [← SeqAt.readsAll_map ds its as lay rd, List.countP_map]
  rfl
def rCountD (K : PySem.W.Frag) (mk : List FL.D → FL.D) : V → List V → Hp → VK → Prop := fun x xs H Q => ∃ (y : V) (d : FL.D) (ds : List FL.D), xs = [y] ∧ Dp K H x (mk ds) ∧ Dp K H y d ∧ shp (mk ds) = true ∧ shp d = true ∧ Q (.int ((ds.countP fun y => PyData.eqv y d : Nat) : Int)) H
theorem mt_countL (hu : X.A.units + 65 < cLine) : MtR X "list.count" (rCountD X.K .list) := by
  intro pins s σ H x xs v us Q J rx rxs h
  obtain ⟨y, d, ds, rfl, hl, hy, sl, sd, q⟩ := h
  obtain ⟨uy, rfl, ry⟩ := rxs.one
  obtain ⟨bs, r1⟩ := Dp.reads J d y uy hy ry
  have lay : PyData.canLayAll0 ds = true := SeqAt.canLay_of_shaped sl
  have room : X.A.units + 1 + min (PyData.depthAll ds) d.depth < cLine := room_in_shaped sd hu
  cases hl with
  | @lst a _ _ hs ha =>
    obtain rfl : v = Value.ref a := rx
    obtain ⟨its, rv, ⟨⟨cls, dd, data, sls⟩, n, ho, hcc, hdn, hdt⟩, hlen⟩ := J.list hs
    simp only at hcc hdt
    subst hcc hdt
    obtain ⟨as, rd⟩ := Dp.readsAll J ds _ its ha rv
    refine call_meets PySem.F.slot_list_count ⟨_, ho, rfl⟩ PySem.F.entry_list_count (PySem.F.args_list_count_2 _ _) (SeqAt.list_countAt a its.toArray n dd sls uy fun u => PyData.eqv (SeqAt.readOf s.heap u) d)
      ⟨ho, SeqAt.items_eqAt (vs := its.toArray) (show ReadsAll s.heap its.toArray.toList ds as from rd) r1 lay (SeqAt.canLay_of_shaped sd) room, ?_⟩
    refine ⟨.int ((ds.countP fun y => PyData.eqv y d : Nat) : Int), H, J.tok _, ⟨s.toks, ?_⟩, q⟩
    show Value.int ((its.countP (fun u => PyData.eqv (SeqAt.readOf s.heap u) d) : Nat) : Int) s.toks = _
    rw [cnt_ds lay rd]
end
end FL

set_option Elab.async false
set_option maxRecDepth 100000
set_option maxHeartbeats 4000000
/-! FLns: sets of tuples of any depth; how many things they have. -/
namespace FL
open PySem PySem.Spec PyProof.Rows L2
theorem parts_key {h : Heap} : ∀ {ks : List NestedKey} {vs : List Value}, NestedAll h ks vs → ∀ v ∈ vs, ∃ k, NestedIs h k v ∧ k.depth ≤ NestedKey.depthAll ks
  | [], _, .nil, v, hv => by cases hv
  | k :: ks, _, .cons h1 h2, v, hv => by
    rcases List.mem_cons.mp hv with e | hv
    · subst e
      exact ⟨k, h1, by rw [NestedKey.depthAll]; exact Nat.le_max_left _ _⟩
    · obtain ⟨k', a, b⟩ := parts_key h2 v hv
      exact ⟨k', a, by rw [NestedKey.depthAll]; exact Nat.le_trans b (Nat.le_max_right _ _)⟩
section
variable {P : Program} {w : World} {A : Around} {E : Value → Shared → Prop} {s : Shared}
/-- a loop over things that are passed by -/
theorem pass_by {f : Value → (Option Bool × Unit) → Sem (ForInStep (Option Bool × Unit))} {items : Array Value} {Q : (Option Bool × Unit) → Shared → Prop} (hf : ∀ v ∈ items.toList, ∀ r : Option Bool × Unit, r.1 = none → ∀ Q' : ForInStep (Option Bool × Unit) → Shared → Prop, Q' (.yield (none, ())) s → wpAny (model P w) A (f v r) Q' E s)
    (hQ : Q (none, ()) s) : wpAny (model P w) A (forIn items (none, ()) f) Q E s := by
  rw [← Array.forIn_toList]
  refine wpAny_forIn_list f (fun rest r s1 => r = (none, ()) ∧ s1 = s ∧ ∀ v ∈ rest, v ∈ items.toList) Q ?_ ?_ _ _ ⟨rfl, rfl, fun v hv => hv⟩
  · rintro v rest r s1 ⟨rfl, rfl, hr⟩
    exact hf v (hr v List.mem_cons_self) _ rfl _ ⟨rfl, rfl, fun u hu => hr u (List.mem_cons_of_mem _ hu)⟩
  · rintro r s1 ⟨rfl, rfl, _⟩
    exact hQ
theorem no_class : ∀ (n : Nat) {k : NestedKey} {v : Value} {Q : Bool → Shared → Prop}, NestedIs s.heap k v → k.depth ≤ n → Q false s → wpAny (model P w) A (ofAClassStatement n v) Q E s
  | n, _, _, Q, .none, _, h => by
    unfold ofAClassStatement
    exact wpAny_pure h
  | n, _, _, Q, .bool _, _, h => by
    unfold ofAClassStatement
    exact wpAny_pure h
  | n, _, _, Q, .int _ _, _, h => by
    unfold ofAClassStatement
    exact wpAny_pure h
  | n, _, _, Q, .text _ _, _, h => by
    unfold ofAClassStatement
    exact wpAny_pure h
  | 0, _, _, Q, .tup _ _ _ _, hd, h => by
    rw [NestedKey.depth] at hd
    omega
  | n + 1, _, _, Q, @NestedIs.tup _ a o vs m ks ho hc hs ha, hd, h => by
    have ty : s.TypeIs (.ref a) "tuple" := ⟨o, ho, hc⟩
    have hd : NestedKey.depthAll ks ≤ n := by
      rw [NestedKey.depth] at hd
      omega
    unfold ofAClassStatement
    refine wpAny_bind (wpAny_typeOf ty ?_)
    have e : (("tuple" : String) == "tuple") = true := by decide
    simp only [e, if_true]
    try refine wpAny_bind (wpAny_pure ?_)
    try simp only [Bool.not_true, Bool.false_eq_true, if_false]
    show wpAny _ _ (seqItems? (.ref a) >>= _) _ _ s
    refine wpAny_bind (wpAny_seqItems ho hs (wpAny_bind ?_))
    refine pass_by (fun v hv r hr Q' hQ' => ?_) (wpAny_pure h)
    obtain ⟨k', g1, g2⟩ := parts_key ha v hv
    refine wpAny_bind (no_class n g1 (by omega) ?_)
    simp only [Bool.false_eq_true, if_false]
    exact wpAny_pure hQ'
/-- a loop that may end early -/
theorem pass_or {f : Value → (Option Bool × Unit) → Sem (ForInStep (Option Bool × Unit))} {items : Array Value} {Q : (Option Bool × Unit) → Shared → Prop} (hf : ∀ v ∈ items.toList, ∀ Q' : ForInStep (Option Bool × Unit) → Shared → Prop, Q' (.yield (none, ())) s → Q' (.done (some false, ())) s → wpAny (model P w) A (f v (none, ())) Q' E s)
    (h1 : Q (none, ()) s) (h2 : Q (some false, ()) s) : wpAny (model P w) A (forIn items (none, ()) f) Q E s := by
  rw [← Array.forIn_toList]
  refine wpAny_forIn_list f (fun rest r s1 => r = (none, ()) ∧ s1 = s ∧ ∀ v ∈ rest, v ∈ items.toList) Q ?_ ?_ _ _ ⟨rfl, rfl, fun v hv => hv⟩
  · rintro v rest r s1 ⟨rfl, rfl, hr⟩
    exact hf v (hr v List.mem_cons_self) _ ⟨rfl, rfl, fun u hu => hr u (List.mem_cons_of_mem _ hu)⟩ h2
  · rintro r s1 ⟨rfl, rfl, _⟩
    exact h1
/-- whether the hash is told by the value: either way -/
theorem by_value : ∀ (n : Nat) {k : NestedKey} {v : Value} {Q : Bool → Shared → Prop}, NestedIs s.heap k v → (∀ b, Q b s) → wpAny (model P w) A (hashByValue n v) Q E s
  | n, _, _, Q, .none, h => by
    unfold hashByValue
    exact wpAny_pure (h _)
  | n, _, _, Q, .bool _, h => by
    unfold hashByValue
    exact wpAny_pure (h _)
  | n, _, _, Q, .int _ _, h => by
    unfold hashByValue
    exact wpAny_pure (h _)
  | n, _, _, Q, .text _ _, h => by
    unfold hashByValue
    exact wpAny_pure (h _)
  | 0, _, _, Q, .tup _ _ _ _, h => by
    unfold hashByValue
    exact wpAny_pure (h _)
  | n + 1, _, _, Q, @NestedIs.tup _ a o vs m ks ho hc hs ha, h => by
    have ty : s.TypeIs (.ref a) "tuple" := ⟨o, ho, hc⟩
    unfold hashByValue
    refine wpAny_bind (wpAny_specialOf ty F.slot_tuple_hash.lookup ?_)
    show wpAny _ _ (seqItems? (.ref a) >>= _) _ _ s
    refine wpAny_bind (wpAny_seqItems ho hs (wpAny_bind ?_))
    refine pass_or (fun v hv Q' h1 h2 => ?_) (wpAny_pure (h _)) (wpAny_pure (h _))
    obtain ⟨k', g1, g2⟩ := parts_key ha v hv
    refine wpAny_bind (by_value n g1 fun b => ?_)
    cases b with
    | true =>
      simp only [Bool.not_true, Bool.false_eq_true, if_false]
      exact wpAny_pure h1
    | false =>
      simp only [Bool.not_false, if_true]
      exact wpAny_pure h2
/-- a key at an address -/
def KeyAt (h : Heap) (k : NestedKey) (b : Addr) : Prop := NestedIs h k (.ref b) ∧ k.depth ≤ 8
theorem not_seen {k : NestedKey} {b : Addr} {Q : Bool → Shared → Prop} (hk : KeyAt s.heap k b) {ys : List Value} (hy : ∀ y ∈ ys, ∃ k' c, y = Value.ref c ∧ KeyAt s.heap k' c) (h : Q false s) : wpAny (model P w) A (searchCouldBeSeen (.ref b) ys) Q E s := by
  unfold searchCouldBeSeen
  refine wpAny_bind ?_
  refine wpAny_forIn_list _ (fun rest r s1 => r = (none, ()) ∧ s1 = s ∧ ∀ y ∈ rest, ∃ k' c, y = Value.ref c ∧ KeyAt s.heap k' c) _ ?_ ?_ _ _ ⟨rfl, rfl, hy⟩
  · rintro v rest r s1 ⟨rfl, rfl, hr⟩
    obtain ⟨k', c, rfl, hc⟩ := hr v List.mem_cons_self
    have more : ∀ y ∈ rest, ∃ k' c, y = Value.ref c ∧ KeyAt s1.heap k' c := fun u hu => hr u (List.mem_cons_of_mem _ hu)
    dsimp only
    by_cases same : (b == c || (carriedByValue (.ref b) && carriedByValue (.ref c))) = true
    · exact wp_if_pos same (wpAny_pure ⟨rfl, rfl, more⟩)
    · refine wp_if_neg same (wpAny_bind (quiet_key k _ 8 s1 hk.1 hk.2 A E _ ?_))
      simp only [Bool.not_true, Bool.false_eq_true, if_false]
      refine wpAny_bind (quiet_key k' _ 8 s1 hc.1 hc.2 A E _ ?_)
      simp only [Bool.not_true, Bool.false_eq_true, if_false]
      refine wpAny_bind (no_class 8 hk.1 hk.2 ?_)
      simp only [Bool.false_eq_true, if_false]
      refine wpAny_bind (no_class 8 hc.1 hc.2 ?_)
      simp only [Bool.false_eq_true, if_false]
      exact wpAny_pure ⟨rfl, rfl, more⟩
  · rintro r s1 ⟨rfl, rfl, _⟩
    exact wpAny_pure h
/-! ### the set -/
def rowsN (w : World) (L : List (Addr × NestedKey)) : List (Int × Value) := L.map fun p => (p.2.hash w, Value.ref p.1)
def hsN (w : World) (L : List (Addr × NestedKey)) : List Int := L.map fun p => p.2.hash w
structure NSet (w : World) (h : Heap) (a : Addr) (L : List (Addr × NestedKey)) (es : Array (Int × Value)) (ep : Nat) (t : SetTable) : Prop where
  ob : ∃ o, h.get? a = some o ∧ o.ExactSet ∧ o.data = .set es ep t
  rows : es.toList = rowsN w L
  tab : TabOk t (hsN w L)
  nd : (L.map (·.2)).Nodup
  key : ∀ p ∈ L, KeyAt h p.2 p.1
  room : L.length * 5 < t.mask * 3
  few : L.length < 64
variable {a : Addr} {L : List (Addr × NestedKey)} {es : Array (Int × Value)} {ep : Nat} {t : SetTable}
theorem rows_len (e : es.toList = rowsN w L) : es.size = L.length := by
  have q := congrArg List.length e
  simpa [rowsN] using q
theorem rows_at (e : es.toList = rowsN w L) {i : Nat} {p : Addr × NestedKey} (h : L[i]? = some p) : es[i]? = some (p.2.hash w, Value.ref p.1) := by
  rw [← Array.getElem?_toList, e, rowsN, List.getElem?_map, h]
  rfl
theorem tab_fits (e : es.toList = rowsN w L) (sz : t.place.size = L.length) (dm : t.dummies = #[]) (hl : L.length ≤ t.mask) : t.fits es.size = true := by
  have q := rows_len e
  unfold SetTable.fits SetTable.fill
  rw [dm, Bool.and_eq_true, beq_iff_eq, decide_eq_true_eq]
  exact ⟨by omega, by show t.place.size + 0 ≤ t.mask; omega⟩
theorem NSet.sz (R : NSet w s.heap a L es ep t) : t.place.size = L.length := by
  have q := R.tab.sz
  simpa [hsN] using q
theorem NSet.fit (R : NSet w s.heap a L es ep t) : t.fits es.size = true := tab_fits R.rows R.sz R.tab.dm (by have := R.room; omega)
theorem NSet.stays (R : NSet w s.heap a L es ep t) : ¬ t.gaveWay = true := by
  have q := mask_odd R.tab.mok
  unfold SetTable.gaveWay
  rw [q]
  decide
/-- the c-th stand of a search -/
abbrev stand (m : Nat) (x : Int) (c : Nat) : SetTable.Probe := nth m (runAt m (SetTable.bits x % (m + 1)) (SetTable.bits x)) c
theorem stand_dm (m : Nat) (x : Int) (c : Nat) : (stand m x c).dummy = none := by
  have key : ∀ (n : Nat) (p : SetTable.Probe), p.dummy = none → (nth m p n).dummy = none := fun n => by
    induction n with
    | zero => exact fun p h => h
    | succ n ih =>
      refine fun p h => ih (adv m p) ?_
      unfold adv
      split <;> exact h
  exact key c _ rfl
theorem stand_add (m : Nat) (x : Int) (c q : Nat) : nth m (stand m x c) q = stand m x (c + q) := (nth_add m c _ q).symm
theorem find_key (R : NSet w s.heap a L es ep t) {x : Addr} {k : NestedKey} (hx : KeyAt s.heap k x) (hu : A.units + 8 < cLine) {K : Nat} (hKf : K < 10 * SetTable.turns t.mask)
    (hK : way t.mask (k.hash w) K ∉ t.place.toList) (hKb : ∀ c, c < K → way t.mask (k.hash w) c ∈ t.place.toList) {Q : SetFound → Shared → Prop}
    (yes : k ∈ L.map (·.2) → Q (.there none) s) (no : k ∉ L.map (·.2) → Q (.free (way t.mask (k.hash w) K) false) s) :
    ∀ (f c : Nat) (st : Option SetTable.Probe), st.getD (t.probeStart (k.hash w)) = stand t.mask (k.hash w) c → c ≤ K → K - c < f →
      (∀ (i : Nat) (p : Addr × NestedKey), L[i]? = some p → p.2 = k → ∃ c', c ≤ c' ∧ c' < K ∧ t.place.toList[i]? = some (way t.mask (k.hash w) c')) →
      wpAny (model P w) A (setSearchFrom a (.ref x) (k.hash w) true f st) Q E s := by
  intro f
  induction f with
  | zero => exact fun c st _ _ hf _ => absurd hf (Nat.not_lt_zero _)
  | succ f ih =>
    intro c st hst hc hf hre
    obtain ⟨o, ho, hex, hd⟩ := R.ob
    rw [setSearchFrom_succ]
    refine wpAny_bind (wpAny_setState_of ho hd R.fit ?_)
    dsimp only
    refine wp_if_neg R.stays ?_
    try refine wpAny_bind (wpAny_pure ?_)
    have ej : ∀ q, (nth t.mask (stand t.mask (k.hash w) c) q).j = way t.mask (k.hash w) (c + q) := fun q => congrArg SetTable.Probe.j (stand_add _ _ c q)
    have eK : c + (K - c) = K := by omega
    have hashes : ∀ (i : Nat) (p : Addr × NestedKey), L[i]? = some p → (es[i]?.map (·.1)).getD 0 = p.2.hash w := fun i p hp => by
      rw [rows_at R.rows hp]
      rfl
    have spec := go_spec t R.tab.ris R.tab.dm (fun i => (es[i]?.map (·.1)).getD 0) (k.hash w) (10 * SetTable.turns t.mask) (K - c) (stand t.mask (k.hash w) c) (stand_dm _ _ c) (by omega)
      (fun q hq => by rw [ej]; exact hKb _ (by omega)) (by rw [ej, eK]; exact hK)
    rcases spec with ⟨q, i, hq, hi, hh, hno, hpr⟩ | ⟨hno, hpr⟩
    · have pr : t.probe (fun i => (es[i]?.map (·.1)).getD 0) (k.hash w) (st.getD (t.probeStart (k.hash w))) = some (.candidate (way t.mask (k.hash w) (c + q)) i (stand t.mask (k.hash w) (c + (q + 1)))) := by
        rw [hst, ← ej, ← stand_add]
        exact hpr
      rw [pr]
      dsimp only
      rw [ej] at hi
      have il : i < L.length := by
        have q1 := (List.getElem?_eq_some_iff.mp hi).1
        rw [Array.length_toList, R.sz] at q1
        exact q1
      obtain ⟨p, hp⟩ : ∃ p, L[i]? = some p := ⟨_, List.getElem?_eq_getElem il⟩
      have pm : p ∈ L := List.mem_of_getElem? hp
      have pk := R.key p pm
      have tail : wpAny (model P w) A (searchRest a (.ref x) (k.hash w) true f es t (way t.mask (k.hash w) (c + q)) i (stand t.mask (k.hash w) (c + (q + 1)))) Q E s := by
        unfold searchRest
        rw [rows_at R.rows hp]
        dsimp only
        refine wpAny_bind (wpAny_holding (eqAt_key p.2 k A s _ _ pk.1 hx.1 (by have := hx.2; omega) _ _ _ _ ?_))
        refine wpAny_bind (wpAny_setState_of ho hd R.fit ?_)
        dsimp only
        rw [← NestedKey.decide_eq]
        by_cases same : p.2 = k
        · exact wp_if_pos (by simp [same]) (wpAny_pure (yes (List.mem_map.mpr ⟨p, pm, same⟩)))
        · refine wp_if_neg (by simp [same]) ?_
          try refine wpAny_bind (wpAny_pure ?_)
          rw [sameMem]
          dsimp only
          have live := slot_live R.tab.ris hi
          simp only [if_true, live, rows_at R.rows hp]
          refine wpAny_bind (wpAny_isSame_ref_self (wpAny_bind (wpAny_pure ?_)))
          simp only [if_true]
          refine wp_if_neg (by simp [same]) ?_
          refine ih (c + (q + 1)) _ rfl (by omega) (by omega) fun j p0 h0 k0 => ?_
          obtain ⟨c', a1, a2, a3⟩ := hre j p0 h0 k0
          have n1 : ¬ c' < c + q := fun z => hno (c' - c) j (by omega) (by rw [ej, show c + (c' - c) = c' by omega]; exact a3) (by
            show (es[j]?.map (·.1)).getD 0 = _
            rw [hashes j p0 h0, k0])
          have n2 : c' ≠ c + q := fun z => by
            rw [z] at a3
            have l2 := slot_live R.tab.ris a3
            rw [live] at l2
            injection l2 with l2
            rw [← l2, hp] at h0
            exact same ((congrArg Prod.snd (Option.some.inj h0)).trans k0)
          exact ⟨c', by omega, a2, a3⟩
      by_cases hl : t.led = true
      · refine wp_if_neg (by simp [hl]) ?_
        try refine wpAny_bind (wpAny_pure ?_)
        exact tail
      · refine wp_if_pos (by simp [hl]) (wpAny_bind (not_seen hx (fun y hy => ?_) ?_))
        · obtain ⟨e, he, ee⟩ := List.mem_map.mp hy
          have e1 : e ∈ es.toList := by
            have z : e ∈ es ∧ e.1 = k.hash w := by simpa using he
            simpa using z.1
          rw [R.rows] at e1
          obtain ⟨p2, h2, e2⟩ := List.mem_map.mp e1
          exact ⟨p2.2, p2.1, by rw [← ee, ← e2], R.key p2 h2⟩
        · refine wp_if_neg (by decide) ?_
          try refine wpAny_bind (wpAny_pure ?_)
          exact tail
    · have pr : t.probe (fun i => (es[i]?.map (·.1)).getD 0) (k.hash w) (st.getD (t.probeStart (k.hash w))) = some (.empty (way t.mask (k.hash w) K) none) := by
        have z := ej (K - c)
        rw [eK] at z
        rw [hst, ← z]
        exact hpr
      rw [pr]
      dsimp only
      refine wpAny_pure (no fun hm => ?_)
      obtain ⟨p0, m0, k0⟩ := List.mem_map.mp hm
      obtain ⟨j, hj, e0⟩ := List.getElem_of_mem m0
      have h0 : L[j]? = some p0 := by rw [List.getElem?_eq_getElem hj, e0]
      obtain ⟨c', a1, a2, a3⟩ := hre j p0 h0 k0
      exact hno (c' - c) j (by omega) (by rw [ej, show c + (c' - c) = c' by omega]; exact a3) (by
        show (es[j]?.map (·.1)).getD 0 = _
        rw [hashes j p0 h0, k0])
/-- where a thing is, or would be put -/
theorem find_at (R : NSet w s.heap a L es ep t) {x : Addr} {k : NestedKey} (hx : KeyAt s.heap k x) (hu : A.units + 8 < cLine) {Q : SetFound → Shared → Prop} (yes : k ∈ L.map (·.2) → Q (.there none) s)
    (no : ∀ K, k ∉ L.map (·.2) → way t.mask (k.hash w) K ∉ t.place.toList → (∀ c, c < K → way t.mask (k.hash w) c ∈ t.place.toList) → Q (.free (way t.mask (k.hash w) K) false) s) :
    wpAny (model P w) A (setSearch a (.ref x) (k.hash w) true) Q E s := by
  have rm := R.room
  obtain ⟨K, k1, k2, k3⟩ := R.tab.first (by simp only [hsN, List.length_map]; omega) (k.hash w)
  have few : 10 * SetTable.turns t.mask ≤ 1420 := by
    unfold SetTable.turns
    rcases R.tab.mok with e | e | e <;> omega
  unfold setSearch
  refine find_key R hx hu k1 k2 k3 yes (fun z => no K z k2 k3) 100000 0 none rfl (Nat.zero_le _) (by omega) fun i p hp e => ?_
  have hi : (hsN w L)[i]? = some (k.hash w) := by
    rw [hsN, List.getElem?_map, hp, ← e]
    rfl
  have il : i < t.place.toList.length := by
    rw [Array.length_toList, R.sz]
    exact (List.getElem?_eq_some_iff.mp hp).1
  have hj := List.getElem?_eq_getElem il
  obtain ⟨c, c1, c2⟩ := R.tab.before k2 hi hj
  exact ⟨c, Nat.zero_le _, c1, by rw [hj, c2]⟩
theorem range_get {α : Type} : ∀ r : List α, (List.range r.length).filterMap (fun m => r[m]?) = r
  | [] => rfl
  | x :: r => by
    rw [List.length_cons, List.range_succ_eq_map, List.filterMap_cons, List.filterMap_map]
    show x :: (List.range r.length).filterMap ((fun m => (x :: r)[m]?) ∘ Nat.succ) = x :: r
    congr 1
    exact range_get r
theorem rows_order (e : es.toList = rowsN w L) {order : Array Nat} (hp : order.toList.Perm (List.range L.length)) :
    ∃ M, (order.filterMap (es[·]?)).toList = rowsN w M ∧ M.Perm L ∧ hsN w M = order.toList.map fun i => (es.map (·.1)).getD i 0 := by
  have at_ : ∀ i : Nat, es[i]? = (L[i]?).map fun p => (p.2.hash w, Value.ref p.1) := fun i => by
    rw [← Array.getElem?_toList, e, rowsN, List.getElem?_map]
  refine ⟨order.toList.filterMap fun i => L[i]?, ?_, ?_, ?_⟩
  · rw [Array.toList_filterMap, rowsN, List.map_filterMap]
    exact filterMap_same fun i _ => at_ i
  · have q := hp.filterMap fun i => L[i]?
    rw [range_get] at q
    exact q
  · have all : ∀ i ∈ order.toList, i < L.length := fun i hi => List.mem_range.mp (hp.mem_iff.mp hi)
    clear hp
    generalize order.toList = l at all
    induction l with
    | nil => rfl
    | cons i l ih =>
      have hi := all i List.mem_cons_self
      have g : (es.map (·.1)).getD i 0 = (L[i]).2.hash w := by
        have z : (es.map (·.1))[i]? = some ((L[i]).2.hash w) := by
          rw [Array.getElem?_map, at_ i, List.getElem?_eq_getElem hi]
          rfl
        simp [Array.getD_eq_getD_getElem?, z]
      have ih' := ih fun j hj => all j (List.mem_cons_of_mem _ hj)
      rw [List.filterMap_cons_some (List.getElem?_eq_getElem hi), List.map_cons, g, ← ih']
      rfl
theorem key_same {h h' : Heap} {k : NestedKey} {b : Addr} {o : Obj} (hb : KeyAt h k b) (ho : h.get? a = some o) (hd : o.data = .set es ep t) (hs : Heap.SameBut a h h') : KeyAt h' k b :=
  ⟨NestedIs.at (fun c oc vs n hc hdc => by
    refine (hs.2 c fun z => ?_).trans hc
    subst z
    rw [ho] at hc
    cases hc
    rw [hd] at hdc
    cases hdc) k _ hb.1, hb.2⟩
/-- laid anew -/
theorem lay_anew {o : Obj} (ho : s.heap.get? a = some o) (hex : o.ExactSet) (hd : o.data = .set es ep t) (rows : es.toList = rowsN w L) (sz : t.place.size = L.length) (dm : t.dummies = #[]) (nd : (L.map (·.2)).Nodup) (key : ∀ p ∈ L, KeyAt s.heap p.2 p.1) (few : L.length < 64) (hlm : L.length ≤ t.mask) {wanted M : Nat}
    (hw : SetTable.sizeAbove wanted - 1 = M) (hM : MaskOk M) (small : SetTable.sizeAbove wanted ≤ 128) (rm : L.length * 5 < M * 3) {Q : Unit → Shared → Prop}
    (hQ : ∀ h' L' es' ep' t', Heap.SameBut a s.heap h' → NSet w h' a L' es' ep' t' → L'.Perm L → Q () { s with heap := h' }) : wpAny (model P w) A (setRelay a wanted) Q E s := by
  have el := rows_len rows
  obtain ⟨t', order, e1, pm, T, em, _, _, _⟩ := relaid_ok t (hs := es.map (·.1)) (wanted := wanted) hw hM (by rw [Array.size_map, el]; omega)
  rw [Array.size_map, el] at pm
  obtain ⟨L', r1, r2, r3⟩ := rows_order rows pm
  rw [← r3] at T
  have n2 : (order.filterMap (es[·]?)).size = es.size := by
    have z := rows_len r1
    rw [z, r2.length_eq, el]
  rw [setRelay_eq]
  refine wpAny_bind (wpAny_setState_of ho hd (tab_fits rows sz dm hlm) ?_)
  dsimp only
  refine wp_if_neg (by rw [sizeLine_eq]; omega) ?_
  try refine wpAny_bind (wpAny_pure ?_)
  rw [e1]
  dsimp only
  refine wpAny_bind (wp_if_neg (by rw [n2]; simp) ?_)
  try refine wpAny_bind (wpAny_pure ?_)
  refine wpAny_pure ?_
  dsimp only
  refine wpAny_storeSet_of ho hd ?_ (by rw [n2, el, sizeLine_eq]; omega)
  have but : Heap.SameBut a s.heap (s.heap.update a (Obj.putSet (order.filterMap (es[·]?)) t')) := Heap.SameBut.update ..
  refine hQ _ L' _ (ep + 1) t' but ⟨⟨_, store_at ho hd, ⟨hex.1, hex.2.1, hex.2.2⟩, rfl⟩, r1, T, (r2.map (·.2)).nodup_iff.mpr nd, fun p hp => key_same (key p (r2.mem_iff.mp hp)) ho hd but, ?_, ?_⟩ r2
  · rw [r2.length_eq, em]
    exact rm
  · rw [r2.length_eq]
    exact few
theorem ins_perm {α : Type} (l : List α) (p : Nat) (x : α) : (l.take p ++ x :: l.drop p).Perm (x :: l) := by
  have z : (l.take p ++ x :: l.drop p).Perm (x :: (l.take p ++ l.drop p)) := List.perm_middle
  rw [List.take_append_drop] at z
  exact z
/-- one thing more -/
theorem add_key (R : NSet w s.heap a L es ep t) {x : Addr} {k : NestedKey} (hx : KeyAt s.heap k x) (hu : A.units + 8 < cLine) (few : L.length + 1 < 64) {Q : Bool → Shared → Prop}
    (hQ : ∀ b h' L' es' ep' t', Heap.SameBut a s.heap h' → NSet w h' a L' es' ep' t' → (k ∈ L.map (·.2) → L' = L) → (k ∉ L.map (·.2) → L'.Perm ((x, k) :: L)) → Q b { s with heap := h' }) :
    wpAny (model P w) A (setAddHashed a (.ref x) (k.hash w)) Q E s := by
  obtain ⟨o, ho, hex, hd⟩ := R.ob
  have el := rows_len R.rows
  have rm := R.room
  unfold setAddHashed
  refine wpAny_holding ?_
  rw [show (100000 : Nat) = 99999 + 1 from rfl, setAddHashedIn_succ]
  refine wpAny_bind (wpAny_setState_of ho hd R.fit ?_)
  dsimp only
  refine wp_if_neg (by simp [byScan, Value.scannable]) ?_
  try refine wpAny_bind (wpAny_pure ?_)
  refine wpAny_bind (find_at R hx hu (fun hm => ?_) fun K hm k2 k3 => ?_)
  · dsimp only
    exact wpAny_pure (hQ false s.heap L es ep t (Heap.SameBut.refl a s.heap) R (fun _ => rfl) fun z => absurd hm z)
  · dsimp only
    refine wpAny_bind (wpAny_setState_of ho hd R.fit ?_)
    dsimp only
    obtain ⟨q1, q2, q3, q4, _, _, _, _, q9⟩ := R.tab.put k2 k3
    generalize t.put (way t.mask (k.hash w) K) = pt at q1 q3 q4 q9 ⊢
    obtain ⟨t1, pp⟩ := pt
    dsimp only at q1 q3 q4 q9 ⊢
    subst q1
    generalize SetTable.below t.place (way t.mask (k.hash w) K) = p at q2 q3 ⊢
    have hin : (SetTable.insertAt es p (k.hash w, Value.ref x)).toList = rowsN w (L.take p ++ (x, k) :: L.drop p) := by
      rw [SetTable.toList_insertAt, R.rows]
      simp [rowsN]
    have pm := ins_perm L p (x, k)
    have nl : (L.take p ++ (x, k) :: L.drop p).length = L.length + 1 := pm.length_eq
    have hh : (hsN w L).take p ++ k.hash w :: (hsN w L).drop p = hsN w (L.take p ++ (x, k) :: L.drop p) := by simp [hsN]
    rw [hh] at q3
    have nd1 : ((L.take p ++ (x, k) :: L.drop p).map (·.2)).Nodup := by
      refine (pm.map (·.2)).nodup_iff.mpr ?_
      exact List.nodup_cons.mpr ⟨hm, R.nd⟩
    have q9 : t1.fill = L.length + 1 := by
      rw [q9]
      simp [hsN]
    have n1 := rows_len hin
    rw [nl] at n1
    generalize SetTable.insertAt es p (k.hash w, Value.ref x) = es1 at hin n1 ⊢
    generalize L.take p ++ (x, k) :: L.drop p = L1 at pm nl q3 nd1 hin
    have rest : ∀ t2 : SetTable, TabOk t2 (hsN w L1) → t2.mask = t.mask → t2.fill = L.length + 1 → wpAny (model P w) A (do
        storeSet a es1 t2
        if (!false && t2.tooFull) = true then do
          setRelay a (SetTable.grown (es.size + 1))
          pure true
        else pure true) Q E s := fun t2 T m2 f2 => by
      refine wpAny_bind (wpAny_storeSet_of ho hd ?_ (by rw [n1, sizeLine_eq]; omega))
      have but : Heap.SameBut a s.heap (s.heap.update a (Obj.putSet es1 t2)) := Heap.SameBut.update ..
      have ho1 := store_at (es' := es1) (t' := t2) ho hd
      generalize s.heap.update a (Obj.putSet es1 t2) = h1 at but ho1 ⊢
      have key1 : ∀ q ∈ L1, KeyAt h1 q.2 q.1 := fun q hq => by
        rcases List.mem_cons.mp (pm.mem_iff.mp hq) with e | hq
        · rw [e]
          exact key_same hx ho hd but
        · exact key_same (R.key q hq) ho hd but
      have sz1 : t2.place.size = L1.length := by
        have z := T.sz
        simpa [hsN] using z
      by_cases full : t2.tooFull = true
      · refine wp_if_pos (by simp [full]) (wpAny_bind ?_)
        have ff : (L.length + 1) * 5 ≥ t.mask * 3 := by
          have z := full
          unfold SetTable.tooFull at z
          rw [decide_eq_true_eq, f2, m2] at z
          exact z
        rw [el]
        have two : (t.mask = 7 ∧ L.length = 4) ∨ (t.mask = 31 ∧ L.length = 18) := by
          rcases R.tab.mok with e | e | e
          · exact Or.inl ⟨e, by omega⟩
          · exact Or.inr ⟨e, by omega⟩
          · omega
        have go : ∀ M, SetTable.sizeAbove (SetTable.grown (L.length + 1)) - 1 = M → MaskOk M → SetTable.sizeAbove (SetTable.grown (L.length + 1)) ≤ 128 → (L.length + 1) * 5 < M * 3 →
            wpAny (model P w) A (setRelay a (SetTable.grown (L.length + 1))) (fun _ s1 => wpAny (model P w) A (pure true) Q E s1) E { s with heap := h1 } := fun M g1 g2 g3 g4 => by
          refine lay_anew (s := { s with heap := h1 }) ho1 ⟨hex.1, hex.2.1, hex.2.2⟩ rfl hin sz1 T.dm nd1 key1 (by rw [nl]; exact few) (by rw [nl, m2]; omega) g1 g2 g3 (by rw [nl]; exact g4) ?_
          intro h2 L2 es2 ep2 t3 b2 R2 p2
          exact wpAny_pure (hQ true h2 L2 es2 ep2 t3 (but.trans b2) R2 (fun z => absurd z hm) fun _ => p2.trans pm)
        rcases two with ⟨_, e2⟩ | ⟨_, e2⟩
        · exact go 31 (by rw [e2, size_20]) (.inr (.inl rfl)) (by rw [e2, size_20]; decide) (by omega)
        · exact go 127 (by rw [e2, size_76]) (.inr (.inr rfl)) (by rw [e2, size_76]; decide) (by omega)
      · refine wp_if_neg (by simp [full]) (wpAny_pure (hQ true h1 L1 es1 (ep + 1) t2 but ⟨⟨_, ho1, ⟨hex.1, hex.2.1, hex.2.2⟩, rfl⟩, hin, T, nd1, key1, ?_, by rw [nl]; exact few⟩ (fun z => absurd z hm) fun _ => pm))
        have z := full
        unfold SetTable.tooFull at z
        rw [decide_eq_true_eq, f2, m2] at z
        rw [nl, m2]
        omega
    have off : TabOk { mask := t1.mask, place := t1.place, dummies := t1.dummies, finger := t1.finger, led := t1.led, moves := t1.moves, plain := false } (hsN w L1) := ⟨q3.ris, q3.dm, q3.sz, q3.mok, q3.bd, q3.reach⟩
    by_cases pl : t1.plain = true
    · refine wp_if_pos pl (wpAny_bind (by_value 8 hx.1 fun b => ?_))
      cases b with
      | true => exact rest t1 q3 q4 q9
      | false => exact rest _ off q4 q9
    · refine wp_if_neg pl (wpAny_bind (wpAny_pure ?_))
      exact rest t1 q3 q4 q9
/-! ### set(list) -/
/-- what comes of the first i things -/
structure Has (ks : List (Addr × NestedKey)) (i : Nat) (L : List (Addr × NestedKey)) : Prop where
  sub : ∀ p ∈ L, p ∈ ks.take i
  all : ∀ p ∈ ks.take i, p.2 ∈ L.map (·.2)
  len : L.length ≤ i
theorem take_more {α : Type} {l : List α} {i : Nat} {x : α} (h : l[i]? = some x) : l.take (i + 1) = l.take i ++ [x] := by
  rw [List.take_succ, h]
  rfl
theorem Has.next {ks L L' : List (Addr × NestedKey)} {i : Nat} {x : Addr × NestedKey} (g : Has ks i L) (h : ks[i]? = some x) (c1 : x.2 ∈ L.map (·.2) → L' = L) (c2 : x.2 ∉ L.map (·.2) → L'.Perm (x :: L)) : Has ks (i + 1) L' := by
  have et := take_more h
  by_cases hm : x.2 ∈ L.map (·.2)
  · rw [c1 hm]
    refine ⟨fun p hp => ?_, fun p hp => ?_, Nat.le_succ_of_le g.len⟩
    · rw [et]
      exact List.mem_append_left _ (g.sub p hp)
    · rw [et] at hp
      rcases List.mem_append.mp hp with z | z
      · exact g.all p z
      · rw [List.mem_singleton.mp z]
        exact hm
  · have pm := c2 hm
    refine ⟨fun p hp => ?_, fun p hp => ?_, ?_⟩
    · rw [et]
      rcases List.mem_cons.mp (pm.mem_iff.mp hp) with z | z
      · rw [z]
        exact List.mem_append_right _ (List.mem_singleton.mpr rfl)
      · exact List.mem_append_left _ (g.sub p z)
    · rw [(pm.map (·.2)).mem_iff, List.map_cons]
      rw [et] at hp
      rcases List.mem_append.mp hp with z | z
      · exact List.mem_cons_of_mem _ (g.all p z)
      · rw [List.mem_singleton.mp z]
        exact List.mem_cons_self
    · have z := g.len
      rw [pm.length_eq, List.length_cons]
      omega
theorem key_keep {h h' : Heap} {k : NestedKey} {b : Addr} (x : KeyAt h k b) (hk : ∀ c o, h.get? c = some o → h'.get? c = some o) : KeyAt h' k b := ⟨NestedIs.at (fun c o _ _ hc _ => hk c o hc) k _ x.1, x.2⟩
theorem NSet.keep {h h' : Heap} (R : NSet w h a L es ep t) (ha : ∀ o, h.get? a = some o → h'.get? a = some o) (hk : ∀ p ∈ L, KeyAt h' p.2 p.1) : NSet w h' a L es ep t := by
  obtain ⟨o, ho, r⟩ := R.ob
  exact ⟨⟨o, ha o ho, r⟩, R.rows, R.tab, R.nd, hk, R.room, R.few⟩
/-- a new set's object -/
abbrev set0 (w : World) : Obj := { cls := .type "set", dict := none, data := .set #[] 0 (.fresh 0 0 (!w.params.followText "set-order")) }
theorem nset0 {h : Heap} (ho : h.get? a = some (set0 w)) : NSet w h a [] #[] 0 (.fresh 0 0 (!w.params.followText "set-order")) :=
  ⟨⟨_, ho, ⟨rfl, rfl, rfl⟩, rfl⟩, rfl, ⟨List.Pairwise.nil, rfl, rfl, .inl rfl, fun x hx => (by cases hx), fun i h j hi => (by simp [hsN] at hi)⟩, List.nodup_nil, fun p hp => (by cases hp), by show 0 * 5 < 7 * 3; decide, by show 0 < 64; decide⟩
theorem upd_loop {I : Addr} {fp wr : List Addr} {G : Array GenState → Array GenState → Prop} {n : Nat} {Pv : Nat → Value → Prop} {St : Nat → Shared → Prop} {R : Result → Shared → Prop}
    (W : WalksS P w A.in1 I fp wr G n Pv St) (S : Addr) (hSf : S ∉ fp) (ks : List (Addr × NestedKey)) (hn : n = ks.length) (few : ks.length < 64) (val : ∀ i v, Pv i v → ∃ p, ks[i]? = some p ∧ v = .ref p.1)
    (h0 : Heap) (hk : ∀ p ∈ ks, KeyAt h0 p.2 p.1) (hS0 : h0.get? S = none) (hw0 : ∀ b ∈ wr, h0.get? b = none) (hu : A.in1.units + 8 < cLine) :
    ∀ (k i : Nat) (s : Shared), n - i = k → i ≤ n → St i s → (∀ b o, h0.get? b = some o → s.heap.get? b = some o) → (∃ L es ep t, NSet w s.heap S L es ep t ∧ Has ks i L) →
      (∀ s1 L es ep t, Moved (S :: wr) G s s1 → NSet w s1.heap S L es ep t → Has ks n L → (∀ b o, h0.get? b = some o → s1.heap.get? b = some o) → R (.ok (.ret .none)) s1) →
      codeAny (model P w) A (.builtin "set.update.loop" ⟨[.ref S, .ref I], []⟩) R s := by
  have nw : S ∉ wr := fun z => hSf (W.sub _ z)
  have up : ∀ b ∈ wr, b ∈ S :: wr := fun b z => List.mem_cons_of_mem _ z
  have keep : ∀ {s s1 : Shared}, Moved wr G s s1 → (∀ b o, h0.get? b = some o → s.heap.get? b = some o) → ∀ b o, h0.get? b = some o → s1.heap.get? b = some o := fun m kp b o e =>
    m.heap b o (fun z => by rw [hw0 b z] at e; cases e) (kp b o e)
  intro k
  induction k with
  | zero =>
    intro i s ki hi st kp ⟨L, es, ep, t, hS, g⟩ hR
    obtain rfl : i = n := by omega
    refine codeAny_builtin F.entry_set_update_loop ?_
    rw [Around.under_plainId F.plain_set_update_loop _]
    show wpAny _ A.in1 (pyNext (.ref I) >>= _) _ _ s
    refine wpAny_bind (W.done s _ _ st fun s1 m => ?_)
    show wpAny _ A.in1 (ret Value.none) _ _ s1
    have kp1 := keep m kp
    exact wpAny_pure (hR s1 L es ep t (m.mono up) (hS.keep (fun o e => m.heap S o nw e) fun p hp => key_keep (hk p (List.mem_of_mem_take (g.sub p hp))) kp1) g kp1)
  | succ k ih =>
    intro i s ki hi st kp ⟨L, es, ep, t, hS, g⟩ hR
    have lt : i < n := by omega
    refine codeAny_builtin F.entry_set_update_loop ?_
    rw [Around.under_plainId F.plain_set_update_loop _]
    show wpAny _ A.in1 (pyNext (.ref I) >>= _) _ _ s
    refine wpAny_bind (W.item i s _ _ lt st fun v s1 hP st1 m => ?_)
    obtain ⟨p, hp, rfl⟩ := val i v hP
    have kp1 := keep m kp
    have hS1 : NSet w s1.heap S L es ep t := hS.keep (fun o e => m.heap S o nw e) fun q hq => key_keep (hk q (List.mem_of_mem_take (g.sub q hq))) kp1
    have hx : KeyAt s1.heap p.2 p.1 := key_keep (hk p (List.mem_of_getElem? hp)) kp1
    show wpAny _ A.in1 (holding [Value.ref p.1] (setAdd S (.ref p.1)) >>= _) _ _ s1
    refine wpAny_bind (wpAny_holding ?_)
    unfold setAdd
    refine wpAny_holding (wpAny_bind (pyHash_key p.2 _ A.in1 s1 _ hx.1 (by have := hx.2; omega) ?_))
    refine add_key (s := { s1 with toks := s1.toks + p.2.draws }) hS1 hx hu (by have := g.len; omega) fun b h1 L1 es1 ep1 t1 but hS2 c1 c2 => ?_
    have kp2 : ∀ b o, h0.get? b = some o → h1.get? b = some o := fun b o e => (but.2 b (fun z => by rw [z, hS0] at e; cases e)).trans (kp1 b o e)
    refine wpAny_pure ⟨plainId_quiet F.plain_set_update_loop _, ih (i + 1) _ (by omega) lt (W.frame _ s1 _ _ st1 (Nat.le_add_right _ _) fun b hb o e => ?_) kp2 ⟨L1, es1, ep1, t1, hS2, g.next hp c1 c2⟩ fun s2 L2 es2 ep2 t2 m2 hS3 g2 kp3 => ?_⟩
    · rw [but.2 b (fun z : b = S => hSf (by rw [← z]; exact hb))]
      exact e
    · refine hR s2 L2 es2 ep2 t2 (Moved.trans W.gtrans ((m.mono up).then_heap (Nat.le_add_right _ _) fun b o hb e => ?_) m2) hS3 g2 kp3
      rw [but.2 b (fun z : b = S => hb (by rw [z]; exact List.mem_cons_self))]
      exact e
theorem set_of {l : Addr} {items : Array Value} (ks : List (Addr × NestedKey)) {Q : Value → Shared → Prop} (hh : A.handled = none) (hl : s.heap.IsList l items) (hit : items.toList = ks.map fun p => Value.ref p.1)
    (hk : ∀ p ∈ ks, KeyAt s.heap p.2 p.1) (few : ks.length < 64) (hu : A.units + 16 < cLine)
    (h : ∀ (h1 : Heap) (tk : Nat) L es ep t, NSet w h1 s.heap.objs.size L es ep t → Has ks ks.length L → (∀ b o, s.heap.get? b = some o → h1.get? b = some o) → Q (.ref s.heap.objs.size) { s with heap := h1, toks := tk }) :
    wpAny (model P w) A (PySem.call (.type "set") [.ref l]) Q E s := by
  have isz : items.size = ks.length := by
    have z := congrArg List.length hit
    simpa using z
  obtain ⟨c, tl, hmro⟩ := F.called_set.mro
  have hmade := F.called_set.made
  have hsub := F.called_set.sub
  refine wpAny_call (codeAny_of_tree ?_)
  show wpAny _ _ (callAny (.type "set") _) _ _ _
  refine wpAny_pure ⟨Code.quiet_builtin _ (by decide +kernel), codeAny_builtin F.entry_type_call ?_⟩
  rw [Around.under_plain (weight_type_call_type "set" [.ref l] []) rfl]
  have g1 := F.called_set.notType
  have g2 := F.called_set.canCreate
  have g3 := F.typeCall_set_1 (.ref l)
  repeat (any_goals (first | assumption | wp_step))
  refine codeAny_mono (code_set_led1 (.ref l) (E := E) (Q₁ := fun obj s1 => obj = .ref s.heap.objs.size ∧ s1 = { s with heap := s.heap.push (set0 w) }) ⟨rfl, rfl⟩) fun r s1 hr => ?_
  cases r with
  | error e => exact hr
  | ok fl =>
    cases fl with
    | ret obj =>
      obtain ⟨rfl, rfl⟩ := hr
      have hS : (s.heap.push (set0 w)).get? s.heap.objs.size = some (set0 w) := Heap.get?_push_size _ rfl
      have hT : Shared.TypeIs { s with heap := s.heap.push (set0 w) } (.ref s.heap.objs.size) "set" := ⟨_, hS, rfl⟩
      have g4 := F.called_set.init.lookup
      have g5 := F.called_set.init.bind (.ref s.heap.objs.size)
      repeat (any_goals (first | assumption | wp_step))
      refine codeAny_mono (codeAny_call_builtin (R := wants (fun r s2 => r = .none ∧ ∃ h1 tk L es ep t, s2 = { s with heap := h1, toks := tk } ∧ NSet w h1 s.heap.objs.size L es ep t ∧ Has ks ks.length L ∧
          (∀ b o, s.heap.get? b = some o → h1.get? b = some o)) E) F.called_set.init.plain F.entry_set_init (check_set_init_1 hT ?_)) fun r2 s2 hr2 => ?_
      · obtain ⟨ol, hol, hcl, nl, hdl⟩ := hl
        obtain ⟨ocls, odict, odata, oslots⟩ := ol
        simp only at hcl hdl
        subst hcl
        subst hdl
        have hol1 : (s.heap.push (set0 w)).get? l = some { cls := .type "list", dict := odict, data := .seq items nl, slots := oslots } := Heap.get?_push_of_some _ hol
        have g6 := F.sub_list_set
        have g7 := F.sub_list_frozenset
        have g8 : (Value.type "list" == Value.type "dict") = false := by decide
        have hl1 : (s.heap.push (set0 w)).IsList l items := ⟨_, hol1, rfl, nl, rfl⟩
        unfold Builtin.«set.__init__» noKeywords Builtin.Frozenset.updateFrom
        generalize hPI : pyIter = PI
        wp_walk
        subst hPI
        refine wpAny_pyIter_list hl1 (wpAny_bind (wpAny_runValue ?_))
        have lS : l < s.heap.objs.size := Heap.lt_size hol
        have hh3 : A.in1.in1.in1.handled = none := by simp [hh]
        have neI : l ≠ (s.heap.push (set0 w)).objs.size := by
          rw [Heap.size_push]
          exact Nat.ne_of_lt (Nat.lt_succ_of_lt lS)
        have out : s.heap.objs.size ∉ [(s.heap.push (set0 w)).objs.size, l] := by
          rw [Heap.size_push]
          simp only [List.mem_cons, List.not_mem_nil, or_false, not_or]
          exact ⟨Nat.ne_of_lt (Nat.lt_succ_self _), Nat.ne_of_gt lS⟩
        have val : ∀ (i : Nat) (v : Value), items[i]? = some v → ∃ p, ks[i]? = some p ∧ v = .ref p.1 := fun i v hv => by
          have q : items.toList[i]? = some v := by rw [Array.getElem?_toList]; exact hv
          rw [hit, List.getElem?_map] at q
          cases hq : ks[i]? with
          | none =>
            rw [hq] at q
            cases q
          | some p =>
            rw [hq] at q
            exact ⟨p, rfl, (Option.some.inj q).symm⟩
        have free : ∀ b, s.heap.objs.size ≤ b → s.heap.get? b = none := fun b hb => by
          cases q : s.heap.get? b with
          | none => rfl
          | some o => exact absurd (Nat.lt_of_lt_of_le (Heap.lt_size q) hb) (Nat.lt_irrefl _)
        refine upd_loop ((Walks.list hh3 _ l neI items).toS) s.heap.objs.size out ks isz few val s.heap hk (free _ (Nat.le_refl _)) (fun b hb => free b (by
            rw [List.mem_singleton.mp hb, Heap.size_push]
            exact Nat.le_succ _)) (by simp only [Around.in1_units]; omega) (items.size - 0) 0 _ (by omega) (Nat.zero_le _)
          ⟨⟨_, Heap.get?_push_size _ rfl, rfl, rfl⟩, (hl1.push _)⟩ (fun b o e => Heap.get?_push_of_some _ (Heap.get?_push_of_some _ e)) ⟨[], #[], 0, _, nset0 (Heap.get?_push_of_some _ hS), ⟨fun p z => (by cases z), fun p z => (by simp at z), Nat.le_refl _⟩⟩ ?_
        intro s2 L es ep t m hS1 g kp
        obtain ⟨h1, gg, dd, tk, oo⟩ := s2
        have eg : gg = s.gens := m.gens
        have ed : dd = s.drawn := m.drawn
        have eo : oo = s.os := m.os
        subst eg
        subst ed
        subst eo
        show wpAny _ _ _ _ _ _
        refine wpAny_pure ?_
        show wpAny _ _ (ret Value.none) _ _ _
        rw [isz] at g
        exact wpAny_pure ⟨rfl, h1, tk, L, es, ep, t, rfl, hS1, g, kp⟩
      · cases r2 with
        | error e => exact hr2
        | ok fl2 =>
          cases fl2 with
          | ret r =>
            obtain ⟨rfl, h1, tk, L, es, ep, t, rfl, hS1, g, kp⟩ := hr2
            repeat (any_goals (first | assumption | wp_step))
            exact h _ _ _ _ _ _ hS1 g kp
          | _ => exact hr2.elim
    | _ => exact hr.elim
end
end FL

set_option Elab.async false
set_option maxRecDepth 100000
set_option maxHeartbeats 4000000
/-! FLs6: argument lists, and, or, displays, subscripts, built-ins, calls, iterables, comprehensions; the expressions' theorem. -/
namespace FL
open PySem PySem.Spec PyProof.Rows L2

theorem nst_eq {e : Expr} (h : nstB e = true) (es : List Expr) (env : Env) : starEach (e :: es) env = (false, eval e env) :: starEach es env := by
  cases e <;> first | rfl | cases h
theorem nset_eq {e : Expr} (h : nsetB e = true) (env : Env) (x : Value) : foldedSetIterable e env x = pure x := by
  cases e <;> first | rfl | cases h
theorem nset_marks {op : CmpOp} {e : Expr} (h : nsetB e = true) : behindInMarks op e = false := by
  cases e <;> first | rfl | cases h
theorem nsl_eq {e : Expr} (h : nslB e = true) : PlainIx e := fun o i => by
  cases e <;> first | rfl | cases h

theorem at_base {x : Expr} (h : atB x = true) (m : Str) (env : Env) (whole : Sem Value) : attributeBase x m env whole = whole := by
  unfold attributeBase
  split
  · cases h
  · rfl
section
variable {Γ : Gm} {Φ : Nat → List D → Out D} {n : Nat} {W : L2.St → Nat → Hp → Prop} {N : List Str} {sc : Scope} {X : Cx} {pos : Pos}
/-! ### arguments -/
theorem sa_nil : SA Φ W X .nil [] := fun H0 S σ F H Q r hw => PA.w pa_nil (hw F H (Ext.refl r.fh) [] .nil)
theorem sa_cons {c : CE} {cs : CEs} {e : Expr} {es : List Expr} (h : SE Φ W X c e) (hs : SA Φ W X cs es) (p : isPk c = false) (ns : nstB e = true) : SA Φ W X (.cons c cs) (e :: es) := fun H0 S σ F H Q r hw => by
  refine PA.w (pa_cons pe_w pa_w (nst_eq ns es X.env)) ?_
  refine one h r hw fun x v F1 H1 e1 s1 tv dv h1 => ?_
  refine hs H0 S σ F1 H1 _ (r.ext e1) (h1.bind.imp fun xs F2 H2 _ e2 h2 vs t => ?_)
  exact h2 F2 H2 (Ext.refl e2.fh) _ (.cons ((dv p).mono e2.ff) t)
/-- no star among checked arguments -/
theorem chks_any {Γ : Gm} {N : List Str} {sc : Scope} {env : Env} : ∀ {cs : CEs} {es : List Expr}, chks Γ N sc cs es = true → (backTo pos (starEach es env)).any (·.1) = false
  | .nil, [], _ => rfl
  | .cons c cs, e :: es, h => by
    simp only [chks, Bool.and_eq_true] at h
    rw [nst_eq h.2.2.1]
    show (false || (backTo pos (starEach es env)).any (·.1)) = false
    rw [Bool.false_or]
    exact chks_any h.2.2.2
  | .nil, _ :: _, h => by simp [chks] at h
  | .cons _ _, [], h => by simp [chks] at h
theorem se_tup {cs : CEs} {es : List Expr} {k : Nat} (h : SA Φ W X cs es) : SE Φ W X (.tup cs) (.Tuple es k pos) := fun H0 S σ F H Q r hw => by
  refine PE.w (pe_tup pa_w) ?_
  refine h H0 S σ F H _ r ((Wn.bind hw).imp fun ds F1 H1 _ e1 h1 vs t => ?_)
  obtain ⟨g, h1⟩ := Wn.guard (o := .ok _) h1
  exact ⟨by rw [t.length]; exact fits_le g, fun p np => Wn.newT (pk := false) e1.fh h1 t np⟩
theorem se_lst {cs : CEs} {es : List Expr} (h : SA Φ W X cs es) : SE Φ W X (.lst cs) (.List es pos) := fun H0 S σ F H Q r hw => by
  refine PE.w (pe_lst pa_w) ?_
  refine h H0 S σ F H _ r ((Wn.bind hw).imp fun ds F1 H1 _ e1 h1 vs t => ?_)
  obtain ⟨g, h1⟩ := Wn.guard (o := .ok _) h1
  exact ⟨by rw [t.length]; exact fits_le g, fun p np => Wn.newL (pk := false) e1.fh h1 t np⟩
theorem se_idx {ca cb : CE} {a b : Expr} (k : Cok Γ Φ n W N sc X) (ha : SE Φ W X ca a) (hb : SE Φ W X cb b) (hs : nslB b = true) : SE Φ W X (.idx ca cb) (.Subscript a b pos) := fun H0 S σ F H Q r hw => by
  refine PE.w (pe_ix ix_w pe_w pe_w (nsl_eq hs)) ?_
  exact two ha hb r hw fun x y v u F2 H2 _ s2 tv tu _ _ h2 => idx_ok k.u s2 tv tu h2
/-! ### slices -/
def SO (Φ : Nat → List D → Out D) (W : L2.St → Nat → Hp → Prop) (X : Cx) (c : CO) (e : Option Expr) : Prop := ∀ (H0 : Hp) (S : St) (σ : L2.St) (F H : Hp) (Q : Option Int → Hp → Prop), Rp X.K H0 S σ F H → Wn F H (W σ) (fun o _ H' => Q o H') (evo Φ c S) →
  ∀ (pins : List (Addr × Obj)) (s : Shared), Inv X pins σ H s → wpAny (model X.prog X.w) X.A (evalPart e X.env) (fun u s' => ∃ o H', Inv X pins σ H' s' ∧ IsPart u o ∧ Q o H') X.xe s
theorem so_no : SO Φ W X .no none := fun H0 S σ F H Q r hw pins s I => po_none.run pins s σ H Q I (hw F H (Ext.refl r.fh))
theorem so_so {c : CE} {e : Expr} (h : SE Φ W X c e) : SO Φ W X (.so c) (some e) := fun H0 S σ F H Q r hw pins s I => by
  refine (po_some pe_w).run pins s σ H Q I ?_
  refine one h r hw fun x v F1 H1 e1 s1 tv dv h1 => ?_
  cases x with
  | int i =>
    obtain rfl := tv.int
    exact ⟨i, rfl, h1 F1 H1 (Ext.refl s1)⟩
  | _ => exact h1.elim
def wO (X : Cx) (e : Option Expr) : TO := fun σ H Q => ∀ (pins : List (Addr × Obj)) (s : Shared), Inv X pins σ H s → wpAny (model X.prog X.w) X.A (evalPart e X.env) (fun u s' => ∃ o H', Inv X pins σ H' s' ∧ IsPart u o ∧ Q o H') X.xe s
theorem po_w {e : Option Expr} : PO X e (wO X e) := ⟨fun pins s _ _ _ I h => h pins s I⟩
theorem se_slc {ca : CE} {lo hi : CO} {a : Expr} {l h : Option Expr} {p2 : Pos} (ha : SE Φ W X ca a) (hl : SO Φ W X lo l) (hh : SO Φ W X hi h) : SE Φ W X (.slc ca lo hi) (.Subscript a (.Slice l h none p2) pos) := fun H0 S σ F H Q r hw => by
  refine PE.w (pe_slice sl_w pe_w po_w po_w) ?_
  refine one ha r hw fun x v F1 H1 e1 s1 tv _ h1 => ?_
  refine hl H0 S σ F1 H1 _ (r.ext e1) (h1.bind.imp fun o F2 H2 _ e2 h2 => ?_)
  refine hh H0 S σ F2 H2 _ ((r.ext e1).ext e2) (h2.bind.imp fun o' F3 H3 _ e3 h3 => ?_)
  exact slc_ok e3.fh (tv.ext (e2.trans e3)) h3
theorem se_rev {ca : CE} {a : Expr} {k : Nat} {p1 p2 p3 : Pos} (ha : SE Φ W X ca a) : SE Φ W X (.rev ca) (.Subscript a (.Slice none none (some (.UnaryOp .USub (.Constant (.int 1) k p1) p2)) p3) pos) := fun H0 S σ F H Q r hw => by
  refine PE.w (pe_rev2 pe_w) ?_
  refine one ha r hw fun x v F1 H1 e1 s1 tv _ h1 => ?_
  cases x with
  | list xs =>
    obtain ⟨a, vs, rfl, r1, t⟩ := tv.lst s1
    exact ⟨a, vs, rfl, .inl ⟨.inl r1, fun p np => Wn.newL (pk := false) s1 h1 t.reverse np⟩⟩
  | tuple xs =>
    obtain ⟨a, vs, rfl, r1, t⟩ := tv.tup
    exact ⟨a, vs, rfl, .inr ⟨Same.sqt s1 r1, fun p np => Wn.newT (pk := false) s1 h1 t.reverse np⟩⟩
  | _ => exact h1.elim

/-! ### and, or -/
def bopP (k : Bool) : BoolOp := if k = true then .And else .Or
def SB (Φ : Nat → List D → Out D) (W : L2.St → Nat → Hp → Prop) (X : Cx) (k : Bool) (cs : CEs) (es : List Expr) : Prop :=
  (∀ (pos : Pos) (H0 : Hp) (S : St) (σ : L2.St) (F H : Hp) (Q : VK), Rp X.K H0 S σ F H → Wn F H (W σ) (RV1 X.K false Q) (evb Φ k cs S) → wE X (.BoolOp (bopP k) es pos) σ H Q) ∧
  (∀ (pos : Pos) (H0 : Hp) (S : St) (σ : L2.St) (F H : Hp) (Q : Bool → Hp → Prop), Rp X.K H0 S σ F H → Wn F H (W σ) (fun b _ H' => Q b H') ((evb Φ k cs S).bind tru) →
    ∀ (whole : Sem Value) (pins : List (Addr × Obj)) (s : Shared), Inv X pins σ H s → wpAny (model X.prog X.w) X.A (isTrue (.BoolOp (bopP k) es pos) X.env whole) (TP X pins σ Q) X.xe s)
theorem sb_nil {k : Bool} {es : List Expr} : SB Φ W X k .nil es := ⟨fun _ _ _ _ _ _ _ _ h => h.elim, fun _ _ _ _ _ _ _ _ h => h.elim⟩
theorem sb_one {k : Bool} {c : CE} {e : Expr} (h : SE Φ W X c e) (ht : ST Φ W X c e) (p : isPk c = false) : SB Φ W X k (.cons c .nil) [e] := by
  refine ⟨fun pos H0 S σ F H Q r hw => ?_, fun pos H0 S σ F H Q r hw wh pins s I => ?_⟩
  · refine PE.w (pe_one pe_w) (h H0 S σ F H Q r ?_)
    rw [p]
    exact hw
  · cases k with
    | true => exact (pw_and1 pt_w).run wh pins s σ H Q I (ht H0 S σ F H Q r hw)
    | false => exact (pw_or1 pt_w).run wh pins s σ H Q I (ht H0 S σ F H Q r hw)
def wW (X : Cx) (e : Expr) : TT := fun σ H Q => ∀ (whole : Sem Value) (pins : List (Addr × Obj)) (s : Shared), Inv X pins σ H s → wpAny (model X.prog X.w) X.A (isTrue e X.env whole) (TP X pins σ Q) X.xe s
theorem pw_w {e : Expr} : PW X e (wW X e) := ⟨fun wh pins s _ _ _ I h => h wh pins s I⟩
theorem sb_cons {k : Bool} {c c' : CE} {cs : CEs} {e e' : Expr} {es : List Expr} (h : SE Φ W X c e) (ht : ST Φ W X c e) (p : isPk c = false) (hs : SB Φ W X k (.cons c' cs) (e' :: es)) : SB Φ W X k (.cons c (.cons c' cs)) (e :: e' :: es) := by
  refine ⟨fun pos H0 S σ F H Q r hw => ?_, fun pos H0 S σ F H Q r hw wh pins s I => ?_⟩
  · have hw : Wn F H (W σ) (RV1 X.K false Q) ((ev Φ c S).bind fun x => (tru x).bind fun b => if b = k then evb Φ k (.cons c' cs) S else .ok x) := hw
    cases k with
    | true =>
      refine PE.w (pe_andT pe_w pe_w) ?_
      refine one h r hw fun x v F1 H1 e1 s1 tv dv h1 => ?_
      obtain ⟨b, h2, h3⟩ := tru_w s1 tv h1
      refine ⟨b, h2, ?_⟩
      cases b with
      | true => exact hs.1 pos H0 S σ F1 H1 Q (r.ext e1) h3
      | false => exact Wn.here (pk := false) s1 h3 (dv p)
    | false =>
      refine PE.w (pe_orT pe_w pe_w) ?_
      refine one h r hw fun x v F1 H1 e1 s1 tv dv h1 => ?_
      obtain ⟨b, h2, h3⟩ := tru_w s1 tv h1
      refine ⟨b, h2, ?_⟩
      cases b with
      | true => exact Wn.here (pk := false) s1 h3 (dv p)
      | false => exact hs.1 pos H0 S σ F1 H1 Q (r.ext e1) h3
  · have e0 : (evb Φ k (.cons c (.cons c' cs)) S).bind tru = ((ev Φ c S).bind tru).bind fun b => if b = k then (evb Φ k (.cons c' cs) S).bind tru else .ok b := by
      show ((ev Φ c S).bind fun x => (tru x).bind fun b => if b = k then evb Φ k (.cons c' cs) S else .ok x).bind tru = _
      cases ev Φ c S with
      | ok x =>
        show ((tru x).bind fun b => if b = k then evb Φ k (.cons c' cs) S else .ok x).bind tru = (tru x).bind _
        cases q : tru x with
        | ok b =>
          show (if b = k then evb Φ k (.cons c' cs) S else .ok x).bind tru = if b = k then (evb Φ k (.cons c' cs) S).bind tru else .ok b
          by_cases z : b = k
          · rw [if_pos z, if_pos z]
          · rw [if_neg z, if_neg z]
            exact q
        | exc j => rfl
        | bad => rfl
      | exc j => rfl
      | bad => rfl
    rw [e0] at hw
    cases k with
    | true =>
      refine (pw_and pt_w pw_w).run wh pins s σ H Q I ?_
      refine ht H0 S σ F H _ r (hw.bind.imp fun b F1 H1 _ e1 h1 => ?_)
      cases b with
      | true => exact fun wh pins s I => hs.2 pos H0 S σ F1 H1 Q (r.ext e1) h1 wh pins s I
      | false => exact h1 F1 H1 (Ext.refl e1.fh)
    | false =>
      refine (pw_or pt_w pw_w).run wh pins s σ H Q I ?_
      refine ht H0 S σ F H _ r (hw.bind.imp fun b F1 H1 _ e1 h1 => ?_)
      cases b with
      | true => exact h1 F1 H1 (Ext.refl e1.fh)
      | false => exact fun wh pins s I => hs.2 pos H0 S σ F1 H1 Q (r.ext e1) h1 wh pins s I

/-! ### calls -/
theorem se_call {f : Nat} {cs : CEs} {e : Expr} {es : List Expr} {x : Str} {p : Pos} (k : Cok Γ Φ n W N sc X) (hf : Γ.fn f = some x) (hx : glB sc x = true) (h : SA Φ W X cs (e :: es)) (hc : chks Γ N sc cs (e :: es) = true) :
    SE Φ W X (.call f cs) (.Call (.Name x p) (e :: es) [] pos) := fun H0 S σ F H Q r hw => by
  obtain ⟨g1, g2, g3⟩ := k.gl hx
  obtain ⟨a, fd, ps, m1, m2, m3, m4⟩ := k.fns f x hf
  have nst : nstB e = true := by
    cases cs with
    | nil => simp [chks] at hc
    | cons c cs =>
      simp only [chks, Bool.and_eq_true] at hc
      exact hc.2.2.1
  have hpl : (backTo pos (starEach es X.env)).any (·.1) = false := by
    cases cs with
    | nil => simp [chks] at hc
    | cons c cs =>
      simp only [chks, Bool.and_eq_true] at hc
      exact chks_any hc.2.2.2
  refine PE.w (pe_callS (E := fun σ => EW Γ X.mg (W σ)) m4 k.room g1 m1 m2 m3 k.pass pa_w g2 (nst_eq nst es X.env) hpl) ?_
  refine h H0 S σ F H _ r ((Wn.bind hw).imp fun ds F1 H1 _ e1 h1 vs t => ?_)
  refine ⟨ds, F1, t, e1.fh, ?_⟩
  cases q : Φ f ds with
  | ok d =>
    rw [q] at h1
    exact fun F' H' e' v dv => h1 F' H' e' v (.inl dv) fun _ => dv
  | exc j =>
    rw [q] at h1
    exact fun H' s' cls hj => ⟨rfl, j, hj, h1 H' s'⟩
  | bad =>
    rw [q] at h1
    exact h1.elim
theorem boot_b1 {f : B1} {y : Str} (h : b1Name f = some y) : y ∈ bltN ∧ bootBuiltins y = some (bvOf f) := by
  cases f <;> first | (cases h; exact ⟨by decide +kernel, by decide +kernel⟩) | cases h
theorem se_b1 {f : B1} {ca : CE} {a : Expr} {y : Str} {p : Pos} (k : Cok Γ Φ n W N sc X) (hf : b1Name f = some y) (hy : glB sc y = true) (ha : SE Φ W X ca a) (ns : nstB a = true) : SE Φ W X (.b1 f ca) (.Call (.Name y p) [a] [] pos) := fun H0 S σ F H Q r hw => by
  obtain ⟨g1, g2, g3⟩ := k.gl hy
  obtain ⟨b1, b2⟩ := boot_b1 hf
  have fin : tCB (wCall X (bvOf f)) (tCons (wE X a) tNil) σ H Q := one ha r hw fun x v F1 H1 e1 s1 tv _ h1 => b1_ok k.calm k.u s1 hf tv h1
  have bt : (∃ id, bvOf f = .builtin id) ∨ ∃ T, bvOf f = .type T := by
    cases f <;> first | exact .inl ⟨_, rfl⟩ | exact .inr ⟨_, rfl⟩ | cases hf
  rcases bt with ⟨id, e⟩ | ⟨T, e⟩
  · rw [e] at fin b2
    exact PE.w (pe_callB call_w g1 (k.free y b1) b2 (pa_cons pe_w pa_nil (nst_eq ns [] X.env)) g3 g2 (nst_eq ns [] X.env) rfl) fin
  · rw [e] at fin b2
    exact PE.w (pe_callTy call_w g1 (k.free y b1) b2 (pa_cons pe_w pa_nil (nst_eq ns [] X.env)) g3 g2 (nst_eq ns [] X.env) rfl) fin
theorem boot_isi {f : B1} {y : Str} (h : b1Isi f = some y) : y ∈ bltN ∧ bootBuiltins y = some (.type (isiTy f)) := by
  cases f <;> first | (cases h; exact ⟨by decide +kernel, by decide +kernel⟩) | cases h
theorem se_isi {f : B1} {ca : CE} {a : Expr} {y : Str} {p p2 : Pos} (k : Cok Γ Φ n W N sc X) (hf : b1Isi f = some y) (hx : glB sc "isinstance" = true) (hy : glB sc y = true) (ha : SE Φ W X ca a) (ns : nstB a = true) :
    SE Φ W X (.b1 f ca) (.Call (.Name "isinstance" p) [a, .Name y p2] [] pos) := fun H0 S σ F H Q r hw => by
  obtain ⟨g1, g2, g3⟩ := k.gl hx
  obtain ⟨h1, h2, h3⟩ := k.gl hy
  obtain ⟨b1, b2⟩ := boot_isi hf
  refine PE.w (pe_callB call_w g1 (k.free _ (by decide +kernel)) PyProof.Rows.boot_isinstance (pa_cons pe_w (pa_cons (pe_bltn (v := .ty (isiTy f)) h1 (k.free y b1) b2 rfl h3 h2) pa_nil) (nst_eq ns _ X.env)) g3 g2 (nst_eq ns _ X.env) rfl) ?_
  exact one ha r hw fun x v F1 H1 e1 s1 tv _ h1 => isi_ok s1 hf tv h1
theorem rgV_D (j : Int) {K : PySem.W.Frag} {F : Hp} : DDs K F (rgV 0 j) (rangeD j) := by
  unfold rgV rangeD
  have : (j - 0).toNat = j.toNat := by rw [Int.sub_zero]
  rw [this]
  generalize List.range j.toNat = l
  induction l with
  | nil => exact .nil
  | cons a l ih =>
    refine .cons ?_ ih
    show DD K F (.int (0 + (a : Int))) (.int (a : Int))
    rw [Int.zero_add]
    exact .int _
theorem se_listrange {ca : CE} {a : Expr} {p p2 pos2 : Pos} (k : Cok Γ Φ n W N sc X) (hx : glB sc "list" = true) (hy : glB sc "range" = true) (ha : SE Φ W X ca a) (ns : nstB a = true) :
    SE Φ W X (.b1 .listrange ca) (.Call (.Name "list" p) [.Call (.Name "range" p2) [a] [] pos2] [] pos) := fun H0 S σ F H Q r hw => by
  obtain ⟨g1, _, _⟩ := k.gl hx
  obtain ⟨h1, _, _⟩ := k.gl hy
  refine PE.w (pe_listRg k.calm g1 (k.free _ (by decide +kernel)) (prg_1 h1 (k.free _ (by decide +kernel)) pe_w (nst_eq ns _ X.env))) ?_
  refine one ha r hw fun x v F1 H1 e1 s1 tv _ h1 => ?_
  cases x with
  | int j =>
    obtain rfl := tv.int
    obtain ⟨g, h1⟩ := Wn.guard (o := .ok _) h1
    have g2 : j.natAbs ≤ 1000000 := of_decide_eq_true g
    have g' : -1000000 ≤ j ∧ j ≤ 1000000 := by omega
    exact ⟨j, rfl, ⟨by decide, by decide, by omega, by omega, by omega⟩, fun q nq => Wn.newL (pk := false) s1 h1 (rgV_D j) nq⟩
  | _ => exact h1.elim
theorem intsD_dds {K : PySem.W.Frag} {F : Hp} : ∀ {ds : List D} {ns : List Int} {vs : List V}, intsD ds = some ns → DDs K F vs ds → vs = ns.map V.int
  | [], _, _, e, .nil => by
    cases e
    rfl
  | .int x :: r, ns, _, e, .cons h t => by
    have e : (intsD r).map (x :: ·) = some ns := e
    cases q : intsD r with
    | none =>
      rw [q] at e
      cases e
    | some ms =>
      rw [q] at e
      cases e
      cases h
      rw [intsD_dds q t]
      rfl
/-- the places and the numbers of pairs -/
theorem prsD_dds {K : PySem.W.Frag} {F : Hp} : ∀ {ds : List D} {ts : List (List Int)} {vs : List V}, prsD ds = some ts → DDs K F vs ds →
    ∃ ks : List (Addr × List Int), vs = ks.map (fun p => V.ref p.1) ∧ ts = ks.map (·.2) ∧ ∀ p ∈ ks, DD K F (.ref p.1) (tupI p.2) ∧ ∃ a b : Int, p.2 = [a, b] ∧ 0 ≤ a ∧ a < 64 ∧ 0 ≤ b ∧ b < 64
  | [], _, _, e, .nil => by
    cases e
    exact ⟨[], rfl, rfl, fun p hp => (by cases hp)⟩
  | d :: r, ts, _, e, .cons h t => by
    unfold prsD at e
    split at e
    · rename_i q
      cases q
    · rename_i a b r' q
      cases q
      split at e
      · rename_i g
        cases q2 : prsD r with
        | none =>
          rw [q2] at e
          cases e
        | some ms =>
          rw [q2] at e
          cases e
          obtain ⟨ks, e1, e2, e3⟩ := prsD_dds q2 t
          obtain ⟨p, us, rfl, _, _⟩ := (TD.tup (K := K) (F := F) (H := F) (.inl h))
          refine ⟨(p, [a, b]) :: ks, by rw [e1]; rfl, by rw [e2]; rfl, fun z hz => ?_⟩
          rcases List.mem_cons.mp hz with rfl | hz
          · exact ⟨h, a, b, rfl, g⟩
          · exact e3 z hz
      · cases e
    · cases e
theorem se_sortedset {ca : CE} {a : Expr} {p p2 pos2 : Pos} (k : Cok Γ Φ n W N sc X) (hx : glB sc "sorted" = true) (hy : glB sc "set" = true) (ha : SE Φ W X ca a) (ns : nstB a = true) :
    SE Φ W X (.b1 .sortedset ca) (.Call (.Name "sorted" p) [.Call (.Name "set" p2) [a] [] pos2] [] pos) := fun H0 S σ F H Q r hw => by
  obtain ⟨g1, g2, g3⟩ := k.gl hx
  obtain ⟨h1, h2, h3⟩ := k.gl hy
  refine PE.w (pe_callB call_w g1 (k.free _ (by decide +kernel)) (by decide +kernel : bootBuiltins "sorted" = some (.builtin "sorted")) (pa_cons (pe_callTy call_w h1 (k.free _ (by decide +kernel)) (by decide +kernel : bootBuiltins "set" = some (.type "set")) (pa_cons pe_w pa_nil (nst_eq ns [] X.env)) h3 h2 (nst_eq ns [] X.env) rfl) pa_nil (nst_eq rfl [] X.env)) g3 g2 (nst_eq rfl [] X.env) rfl) ?_
  refine one ha r hw fun x v F1 H1 e1 s1 tv _ h1 => ?_
  cases x with
  | tuple xs =>
    have h1 : Wn F1 H1 (W σ) (RV1 X.K false Q) (match intsD xs with
      | some ns => Out.guard (decide (ns.length < 63)) (.ok (.list ((usort id ns).map .int)))
      | none => .bad) := h1
    cases q : intsD xs with
    | none =>
      rw [q] at h1
      exact h1.elim
    | some ms =>
      rw [q] at h1
      obtain ⟨g, h1⟩ := Wn.guard (o := .ok _) h1
      have g : ms.length < 63 := of_decide_eq_true g
      obtain ⟨b, vs, rfl, r1, t⟩ := tv.tup
      have ev := intsD_dds q t
      subst ev
      refine CallR.w (cr_setTI k.calm) ⟨b, ms, rfl, Same.sqt s1 r1, g, fun a c na hc => ?_⟩
      refine CallR.w (cr_sortedSet k.calm) ⟨a, _, c, rfl, upd_same, by omega, fun os p up mem _ np => ?_⟩
      have e2 : Ext F1 H1 F1 (upd H1 a (SetO X.w a (fun j => decide (j ∈ ms)) c)) := Ext.lay s1 na
      have eo : usort id ms = os := up_one (f := id) (usort_up ms) up fun x => by
        rw [mem x, decide_eq_true_eq]
        exact usort_mem (P := fun _ => True) (fun _ _ _ _ z => z) fun _ _ => trivial
      subst eo
      exact Wn.newL (pk := false) e2.fh (h1.ext e2) (DDs.ints _) np
  | list xs =>
    have h1 : Wn F1 H1 (W σ) (RV1 X.K false Q) (match prsD xs with
      | some ts => Out.guard (decide (ts.length < 63)) (.ok (.list ((usort pk2 ts).map tupI)))
      | none => .bad) := h1
    cases q : prsD xs with
    | none =>
      rw [q] at h1
      exact h1.elim
    | some ts =>
      rw [q] at h1
      obtain ⟨g, h1⟩ := Wn.guard (o := .ok _) h1
      have g : ts.length < 63 := of_decide_eq_true g
      obtain ⟨b, vs, rfl, r1, t⟩ := tv.lst s1
      obtain ⟨ks, ev, et, ek⟩ := prsD_dds q t
      subst ev
      have tt : ∀ p ∈ ks, SqT X.K H1 p.1 (p.2.map V.int) := fun p hp => by
        have z := (ek p hp).1
        unfold tupI at z
        cases z with
        | tup sq dd =>
          have := intsD_dds (ns := p.2) (by
            generalize p.2 = l
            induction l with
            | nil => rfl
            | cons x l ih =>
              show (intsD (l.map PyData.int)).map (x :: ·) = _
              rw [ih]
              rfl) dd
          subst this
          exact Same.sqt s1 sq
      have kl : ks.length < 63 := by
        have := congrArg List.length et
        rw [List.length_map] at this
        omega
      have bd : ∀ p ∈ ks, p.2.length = 2 ∧ TS.Bd 64 p.2 := fun p hp => by
        obtain ⟨_, x, y, e, b1, b2, b3, b4⟩ := ek p hp
        rw [e]
        refine ⟨rfl, fun m hm => ?_⟩
        simp only [List.mem_cons, List.not_mem_nil, or_false] at hm
        rcases hm with rfl | rfl
        · exact ⟨b1, b2⟩
        · exact ⟨b3, b4⟩
      refine CallR.w (cr_setOfT k.calm (by have := k.u; omega)) ⟨b, ks, rfl, .inl r1, tt, by omega, fun a L na sub all => ?_⟩
      have e2 : Ext F1 H1 F1 (upd H1 a (SetTO X.prog X.w a L)) := Ext.lay s1 na
      refine CallR.w (cr_sortedT k.calm) ⟨a, L, 2, 64, rfl, upd_same, fun p hp => Same.sqt e2.hh (tt p (sub p hp)), by decide, fun p hp => bd p (sub p hp), fun L' p pm nd few up np => ?_⟩
      clear few
      have pkc : ∀ p ∈ ks, pk2 p.2 = TS.code 64 p.2 := fun p hp => by
        obtain ⟨_, x, y, e, _⟩ := ek p hp
        rw [e, code_pair]
        rfl
      have sub' : ∀ p ∈ L', p ∈ ks := fun p hp => sub p (pm.mem_iff.mp hp)
      have inj : ∀ x y : List Int, (x ∈ ks.map (·.2)) → (y ∈ ks.map (·.2)) → pk2 x = pk2 y → x = y := fun x y hx hy exy => by
        obtain ⟨p, hp, rfl⟩ := List.mem_map.mp hx
        obtain ⟨p', hp', rfl⟩ := List.mem_map.mp hy
        obtain ⟨_, x1, x2, e, b1, b2, b3, b4⟩ := ek p hp
        obtain ⟨_, y1, y2, e', c1, c2, c3, c4⟩ := ek p' hp'
        rw [e, e'] at exy ⊢
        have exy : x1 * 64 + x2 = y1 * 64 + y2 := exy
        have : x1 = y1 := by omega
        subst this
        have : x2 = y2 := by omega
        subst this
        rfl
      have eo : usort pk2 ts = L'.map (·.2) := by
        refine up_one (f := pk2) (usort_up ts) ?_ fun x => ?_
        · have nd' : L'.Pairwise (fun p p' => p.2 ≠ p'.2) := List.pairwise_map.mp nd
          rw [List.pairwise_map]
          refine (up.and nd').imp_of_mem fun {p p'} hp hp' z => ?_
          have z1 := z.1
          rw [← pkc p (sub' p hp), ← pkc p' (sub' p' hp')] at z1
          rcases Int.lt_or_eq_of_le z1 with z2 | z2
          · exact z2
          · exact absurd (inj _ _ (List.mem_map_of_mem (sub' p hp)) (List.mem_map_of_mem (sub' p' hp')) z2) z.2
        · rw [usort_mem (P := fun x => x ∈ ks.map (·.2)) inj fun x hx => by rw [← et]; exact hx]
          rw [et]
          constructor
          · intro hx
            obtain ⟨p, hp, rfl⟩ := List.mem_map.mp hx
            obtain ⟨p', hp', e⟩ := List.mem_map.mp (all p hp)
            exact List.mem_map.mpr ⟨p', pm.mem_iff.mpr hp', e⟩
          · intro hx
            obtain ⟨p, hp, rfl⟩ := List.mem_map.mp hx
            exact List.mem_map_of_mem (sub' p hp)
      rw [eo, List.map_map] at h1
      refine Wn.newL (pk := false) e2.fh (h1.ext e2) ?_ np
      have all2 : ∀ p ∈ L', DD X.K F1 (.ref p.1) (tupI p.2) := fun p hp => (ek p (sub' p hp)).1
      clear h1 eo up nd pm sub'
      induction L' with
      | nil => exact .nil
      | cons p l ih => exact .cons (all2 p (List.mem_cons_self ..)) (ih fun q hq => all2 q (List.mem_cons_of_mem _ hq))
  | _ => exact h1.elim
theorem se_sortedvals {ca : CE} {a : Expr} {p ap cp : Pos} (k : Cok Γ Φ n W N sc X) (hx : glB sc "sorted" = true) (ha : SE Φ W X ca a) (pk : isPk ca = false) (hb : atB a = true) (hl : (ap.endLine == cp.line) = true) :
    SE Φ W X (.b1 .sortedvals ca) (.Call (.Name "sorted" p) [.Call (.Attribute a "values" ap) [] [] cp] [] pos) := fun H0 S σ F H Q r hw => by
  obtain ⟨g1, g2, g3⟩ := k.gl hx
  refine PE.w (pe_callB call_w g1 (k.free _ (by decide +kernel)) (by decide +kernel : bootBuiltins "sorted" = some (.builtin "sorted")) (pa_cons (pe_vals pe_w (at_base hb _ _ _) hl) pa_nil (nst_eq rfl [] X.env)) g3 g2 (nst_eq rfl [] X.env) rfl) ?_
  refine one ha r hw fun x v F1 H1 e1 s1 tv dv h1 => ?_
  have dv := dv pk
  cases x with
  | dict es =>
    have h0 : Wn F1 H1 (W σ) (RV1 X.K false Q) (srtV es) := h1
    clear h1
    by_cases hm : ∃ es', es = mkD :: es'
    · obtain ⟨es', rfl⟩ := hm
      have h1 := h0
      obtain ⟨g, h1⟩ := Wn.guard (o := .ok _) (show Wn F1 H1 (W σ) (RV1 X.K false Q) (Out.guard (srtOk (es'.map (·.2))) (.ok (.list ((es'.map (·.2)).mergeSort (PySem.W.dataLe false id))))) from h1)
      obtain ⟨a, xs, ep, rfl, r1, t⟩ := TD.dnn s1 tv
      refine ⟨a, xs, ep, rfl, r1, fun q nq => ?_⟩
      have e2 : Ext F1 H1 F1 (upd H1 q (valO q a)) := Ext.lay s1 nq
      intro pins s' σ' us J ru
      obtain rfl := Vals.ref1 ru
      exact cr_srtV k.calm k.u J e2.fh (e2.hh _ _ r1) upd_same t g fun p ws np tw => Wn.newL (pk := false) e2.fh (h1.ext e2) tw np
    · unfold srtV at h0
      split at h0
      · exact absurd ⟨_, rfl⟩ hm
      · exact h0.elim
  | _ => exact h1.elim
theorem se_listvals {ca : CE} {a : Expr} {p ap cp : Pos} (k : Cok Γ Φ n W N sc X) (hx : glB sc "list" = true) (ha : SE Φ W X ca a) (pk : isPk ca = false) (hb : atB a = true) (hl : (ap.endLine == cp.line) = true) :
    SE Φ W X (.b1 .listvals ca) (.Call (.Name "list" p) [.Call (.Attribute a "values" ap) [] [] cp] [] pos) := fun H0 S σ F H Q r hw => by
  obtain ⟨g1, g2, g3⟩ := k.gl hx
  refine PE.w (pe_callTy call_w g1 (k.free _ (by decide +kernel)) (by decide +kernel : bootBuiltins "list" = some (.type "list")) (pa_cons (pe_vals pe_w (at_base hb _ _ _) hl) pa_nil (nst_eq rfl [] X.env)) g3 g2 (nst_eq rfl [] X.env) rfl) ?_
  refine one ha r hw fun x v F1 H1 e1 s1 tv dv h1 => ?_
  have dv := dv pk
  cases x with
  | dict es =>
    have h0 : Wn F1 H1 (W σ) (RV1 X.K false Q) (lstV es) := h1
    clear h1
    by_cases hm : ∃ es', es = mkD :: es'
    · obtain ⟨es', rfl⟩ := hm
      have h1 := h0
      obtain ⟨a, xs, ep, rfl, r1, t⟩ := TD.dnn s1 tv
      refine ⟨a, xs, ep, rfl, r1, fun q nq => ?_⟩
      have e2 : Ext F1 H1 F1 (upd H1 q (valO q a)) := Ext.lay s1 nq
      intro pins s' σ' us J ru
      obtain rfl := Vals.ref1 ru
      exact cr_lstV k.calm J e2.fh (e2.hh _ _ r1) upd_same t fun p ws np tw => Wn.newL (pk := false) e2.fh ((show Wn F1 H1 (W σ) (RV1 X.K false Q) (.ok (.list (es'.map (·.2)))) from h1).ext e2) tw np
    · unfold lstV at h0
      split at h0
      · exact absurd ⟨_, rfl⟩ hm
      · exact h0.elim
  | _ => exact h1.elim
end
end FL

set_option Elab.async false
set_option maxRecDepth 100000
set_option maxHeartbeats 4000000
/-! FLnl: len(set(x)), x a list of tuples. -/
namespace FL
open PySem PySem.Spec PyProof.Rows L2
/-! ### the keys of data -/
theorem dist_mem {x : NestedKey} : ∀ {ks : List NestedKey}, x ∈ dist ks ↔ x ∈ ks
  | [] => Iff.rfl
  | k :: r => by
    have ih := dist_mem (x := x) (ks := r)
    unfold dist
    split
    · rename_i g
      rw [ih, List.mem_cons]
      refine ⟨Or.inr, fun z => z.elim (fun z => ?_) id⟩
      rw [z]
      exact dist_mem.mp g
    · rw [List.mem_cons, List.mem_cons, ih]
theorem dist_nodup : ∀ ks : List NestedKey, (dist ks).Nodup
  | [] => List.nodup_nil
  | k :: r => by
    unfold dist
    split
    · exact dist_nodup r
    · rename_i g
      exact List.nodup_cons.mpr ⟨g, dist_nodup r⟩
theorem Has.count {ks L : List (Addr × NestedKey)} (g : Has ks ks.length L) (nd : (L.map (·.2)).Nodup) : L.length = (dist (ks.map (·.2))).length := by
  have pm : (L.map (·.2)).Perm (dist (ks.map (·.2))) := (List.perm_ext_iff_of_nodup nd (dist_nodup _)).mpr fun x => by
    rw [dist_mem]
    constructor
    · intro hx
      obtain ⟨p, hp, rfl⟩ := List.mem_map.mp hx
      exact List.mem_map_of_mem (List.mem_of_mem_take (g.sub p hp))
    · intro hx
      obtain ⟨p, hp, rfl⟩ := List.mem_map.mp hx
      exact g.all p (by rw [List.take_length]; exact hp)
  have z := pm.length_eq
  rwa [List.length_map] at z
section
variable {X : Cx} {pins : List (Addr × Obj)} {σ : L2.St} {F H : Hp} {s : Shared}
mutual
theorem nkt_is (I : L2.Inv X pins σ H s) (sm : Same F H) : ∀ {d : D} {v : V} {k : NestedKey} {u : Value}, DD X.K F v d → nkt d = some k → RelV v u → NestedIs s.heap k u
  | .int i, v, k, u, h, e, r => by
    have e : some (NestedKey.num i) = some k := by simpa [nkt] using e
    cases e
    cases h
    obtain ⟨t, rfl⟩ := r
    exact .int i t
  | .str x, v, k, u, h, e, r => by
    have e : some (NestedKey.text x) = some k := by simpa [nkt] using e
    cases e
    cases h
    obtain ⟨t, rfl⟩ := r
    exact .text x t
  | .tuple ds, v, k, u, h, e, r => by
    have e : (nkts ds).map NestedKey.tup = some k := by simpa [nkt] using e
    cases q : nkts ds with
    | none =>
      rw [q] at e
      cases e
    | some ks =>
      rw [q] at e
      cases e
      cases h with
      | @tup a vs _ sq t =>
        obtain rfl : u = Value.ref a := r
        obtain ⟨its, rv, ⟨o, e1, e2, n, e3⟩, _⟩ := I.tuple (Same.sqt sm sq)
        exact .tup e1 e2 e3 (by simpa using nkts_is I sm t q rv)
  | .none, v, k, u, h, e, r => by simp [nkt] at e
  | .bool _, v, k, u, h, e, r => by simp [nkt] at e
  | .list _, v, k, u, h, e, r => by simp [nkt] at e
  | .dict _, v, k, u, h, e, r => by simp [nkt] at e
theorem nkts_is (I : L2.Inv X pins σ H s) (sm : Same F H) : ∀ {ds : List D} {vs : List V} {ks : List NestedKey} {us : List Value}, DDs X.K F vs ds → nkts ds = some ks → Vals vs us → NestedAll s.heap ks us
  | [], _, ks, us, .nil, e, r => by
    have e : some ([] : List NestedKey) = some ks := by simpa [nkts] using e
    cases e
    cases r
    exact .nil
  | d :: ds, _, ks, us, .cons h t, e, r => by
    have e : ((nkt d).bind fun k => (nkts ds).map (k :: ·)) = some ks := by simpa [nkts] using e
    cases q1 : nkt d with
    | none =>
      rw [q1] at e
      cases e
    | some j =>
      rw [q1] at e
      cases q2 : nkts ds with
      | none =>
        rw [q2] at e
        cases e
      | some js =>
        rw [q2] at e
        cases e
        cases r with
        | cons r1 r2 => exact .cons (nkt_is I sm h q1 r1) (nkts_is I sm t q2 r2)
end
/-- the keys of a list's things, where they lie -/
theorem tkts_is (I : L2.Inv X pins σ H s) (sm : Same F H) : ∀ {ds : List D} {vs : List V} {ks : List NestedKey}, DDs X.K F vs ds → tkts ds = some ks → ∃ L : List (Addr × NestedKey), vs = L.map (fun p => V.ref p.1) ∧ ks = L.map (·.2) ∧ ∀ p ∈ L, KeyAt s.heap p.2 p.1
  | [], _, ks, .nil, e => by
    cases e
    exact ⟨[], rfl, rfl, fun p hp => (by cases hp)⟩
  | d :: ds, _, ks, .cons h t, e => by
    unfold tkts at e
    split at e
    · rename_i q
      cases q
    · rename_i xs ds' q
      cases q
      split at e
      · rename_i k hk
        split at e
        · rename_i dp
          cases q2 : tkts ds with
          | none =>
            rw [q2] at e
            cases e
          | some js =>
            rw [q2] at e
            cases e
            obtain ⟨L, e1, e2, e3⟩ := tkts_is I sm t q2
            obtain ⟨b, us, rfl, _, _⟩ := (TD.tup (K := X.K) (F := F) (H := F) (.inl h))
            refine ⟨(b, k) :: L, by rw [e1]; rfl, by rw [e2]; rfl, fun p hp => ?_⟩
            rcases List.mem_cons.mp hp with rfl | hp
            · exact ⟨nkt_is I sm h hk rfl, dp⟩
            · exact e3 p hp
        · cases e
      · cases e
    · cases e
end
section
variable {Γ : Gm} {Φ : Nat → List D → Out D} {n : Nat} {W : L2.St → Nat → Hp → Prop} {N : List Str} {sc : Scope} {X : Cx} {pos : Pos}
theorem refs_vals : ∀ {L : List (Addr × NestedKey)} {us : List Value}, Vals (L.map fun p => V.ref p.1) us → us = L.map fun p => Value.ref p.1
  | [], _, .nil => rfl
  | p :: L, _, .cons r t => by
    obtain rfl := refs_vals t
    rw [show _ = Value.ref p.1 from r]
    rfl
/-- len(set(x)), by its meaning -/
def tLenN (X : Cx) (te : TE) : TE := fun σ H Q => te σ H fun x H1 => ∀ (pins : List (Addr × Obj)) (s : Shared) (u : Value), L2.Inv X pins σ H1 s → RelV x u →
  wpAny (model X.prog X.w) X.A (PySem.call (.type "set") [u]) (fun v s2 => wpAny (model X.prog X.w) X.A (PySem.call (.builtin "len") [v]) (EP X pins σ Q) X.xe s2) X.xe s
theorem pe_lenN {a : Expr} {te : TE} {p p2 q : Pos} (gl : Gl X "len") (ml : X.mg "len" = none) (gs : Gl X "set") (ms : X.mg "set" = none) (ha : PE X a te) (na : starEach [a] X.env = (false, eval a X.env) :: starEach [] X.env) :
    PE X (.Call (.Name "len" p) [.Call (.Name "set" p2) [a] [] q] [] pos) (tLenN X te) := by
  refine ⟨fun pins s σ H Q J h => ?_⟩
  refine Call_ (ld_blt J gl ml PySem.boot_len (PyProof.Rows.callWith_builtin1 (PyProof.Rows.args_cons ?_ rfl) rfl rfl))
  refine Call_ (ld_blt J gs ms PyProof.Rows.boot_set (PyProof.Rows.callWith_type1 (PyProof.Rows.args_cons (thn (ha.run pins s σ H _ J h) fun v s1 ⟨x, H1, J1, r1, q1⟩ => PyProof.Rows.args_nil ?_) na) na rfl))
  exact thn (q1 pins s1 v J1 r1) fun v2 s2 z => PyProof.Rows.args_nil z
theorem se_lenset {ca : CE} {a : Expr} {p p2 pos2 : Pos} (k : Cok Γ Φ n W N sc X) (hx : glB sc "len" = true) (hy : glB sc "set" = true) (ha : SE Φ W X ca a) (ns : nstB a = true) :
    SE Φ W X (.b1 .lenset ca) (.Call (.Name "len" p) [.Call (.Name "set" p2) [a] [] pos2] [] pos) := fun H0 S σ F H Q r hw => by
  obtain ⟨g1, _, _⟩ := k.gl hx
  obtain ⟨g2, _, _⟩ := k.gl hy
  refine PE.w (pe_lenN g1 (k.free _ (by decide +kernel)) g2 (k.free _ (by decide +kernel)) pe_w (nst_eq ns [] X.env)) ?_
  refine one ha r hw fun x v F1 H1 e1 s1 tv _ h1 => ?_
  cases x with
  | list xs =>
    have h1 : Wn F1 H1 (W σ) (RV1 X.K false Q) (match tkts xs with
      | some ks => Out.guard (decide (ks.length < 63)) (.ok (.int ((dist ks).length : Nat)))
      | none => .bad) := h1
    cases q : tkts xs with
    | none =>
      rw [q] at h1
      exact h1.elim
    | some ks =>
      rw [q] at h1
      obtain ⟨g, h1⟩ := Wn.guard (o := .ok _) h1
      have g : ks.length < 63 := of_decide_eq_true g
      obtain ⟨b, vs, rfl, r1, t⟩ := tv.lst s1
      intro pins s u J ru
      obtain rfl : u = Value.ref b := ru
      obtain ⟨L, ev, ek, hk⟩ := tkts_is J s1 t q
      subst ev
      obtain ⟨its, rv, pl, hz⟩ := J.list (.inl r1)
      have ei := refs_vals rv
      have ll : L.length < 63 := by
        have := congrArg List.length ek
        rw [List.length_map] at this
        omega
      refine set_of (P := X.prog) (w := X.w) L (J.ok.hd k.calm) pl.isList (by simpa using ei) hk (by omega) (by have := k.u; omega) fun h2 tk M es ep t2 R g2 kp => ?_
      obtain ⟨o, ho, hex, hd⟩ := R.ob
      have cnt := g2.count R.nd
      have el := rows_len R.rows
      have few := R.few
      have J2 : L2.Inv X pins σ H1 { s with heap := h2, toks := tk } := J.kept fun b o e => kp b o e
      refine call_len_set ho hex hd (NSet.fit (s := { s with heap := h2, toks := tk }) R) (by rw [el]; omega) ⟨.int ((dist ks).length : Nat), H1, J2.tok _, ⟨tk + 1, ?_⟩, Wn.here (pk := false) s1 h1 (.int _)⟩
      rw [el, cnt, ek]
  | _ => exact h1.elim
end
end FL

set_option Elab.async false
set_option maxRecDepth 100000
set_option maxHeartbeats 4000000
/-! FLs7: iterables, targets, comprehensions; the expressions' theorem. -/
namespace FL
open PySem PySem.Spec PyProof.Rows L2

section
variable {Γ : Gm} {Φ : Nat → List D → Out D} {n : Nat} {W : L2.St → Nat → Hp → Prop} {N : List Str} {sc : Scope} {X : Cx} {pos : Pos} {tg iter : Expr}
theorem dds_ints {K : PySem.W.Frag} {F : Hp} : ∀ ns : List Int, DDs K F (ns.map V.int) (ns.map PyData.int)
  | [] => .nil
  | i :: ns => .cons (.int i) (dds_ints ns)
/-- what the state tells may be used -/
theorem wI_inv {σ : L2.St} {H : Hp} {R : It → Hp → Prop} (h : wI X tg iter σ H fun J H' => ∀ (pins : List (Addr × Obj)) (s : Shared), Inv X pins σ H' s → R J H') : wI X tg iter σ H R := fun pins s I =>
  thn (h pins s I) fun v s1 h1 => thn h1 fun itv s2 ⟨it, fp, tn, J, H', e, I', T, t0, f, q⟩ => ⟨it, fp, tn, J, H', e, I', T, t0, f, q pins s2 I'⟩
theorem walkD_seq {K : PySem.W.Frag} {F : Hp} {J : It} {G : Hp → Prop} {vs : List V} {ds : List D} (t : DDs K F vs ds) (w : Walk J vs.length G (YAt vs)) (hg : ∀ H, Same F H → G H) : WalkD K F J ds := by
  unfold WalkD
  rw [← t.length]
  refine w.mono hg fun i H x H' hi s y F1 s1 s2 => ?_
  obtain ⟨e, hx⟩ := y
  subst e
  obtain ⟨d, h1, h2⟩ := t.getV i x hx
  exact ⟨d, F1, h1, Ext.refl s2, h2.mono s1⟩
theorem si_seq {c : CE} (h : SE Φ W X c iter) (p : isPk c = false) : SI Φ W X (.seq c) iter tg := fun H0 S σ F H R r hw => by
  refine wI_inv ?_
  have hw : Wn F H (W σ) (fun ds F' H' => ds.length ≤ sizeLine → ∀ J, WalkD X.K F' J ds → R J H') ((ev Φ c S).bind items) := hw
  have key : ∀ (Z : V → Hp → Prop), (∀ x v F1 H1, ev Φ c S = .ok x → Ext F H F1 H1 → TD X.K F1 H1 v x → DD X.K F1 v x → Wn F1 H1 (W σ) (fun ds F' H' => ds.length ≤ sizeLine → ∀ J, WalkD X.K F' J ds → R J H') (items x) → Z v H1) → wE X iter σ H Z :=
    fun Z hz => h H0 S σ F H _ r (hw.bind.imp fun x F1 H1 eo e1 h1 v tv dv => hz x v F1 H1 eo e1 tv (dv p) h1)
  have dflt : (∀ ds, ev Φ c S ≠ .ok (.tuple ds)) → (∀ z, ev Φ c S ≠ .ok (.str z)) → (∀ es, ev Φ c S ≠ .ok (.dict (mkD :: es))) → wI X tg iter σ H fun J H' => ∀ (pins : List (Addr × Obj)) (s : Shared), Inv X pins σ H' s → R J H' := fun n1 n2 n3 => by
    refine PI.w (pi_list pe_w) (key _ fun x v F1 H1 eo e1 tv dv h1 => ?_)
    cases x with
    | list xs =>
      obtain ⟨a, vs, rfl, r1, t⟩ := tv.lst e1.fh
      refine ⟨a, rfl, ⟨vs, .inl r1⟩, fun pins s I => ?_⟩
      cases dv with
      | lst r2 t2 =>
        have sq := Same.rd e1.fh r2
        obtain ⟨its, _, _, hz⟩ := I.list (.inl sq)
        exact h1 F1 H1 (Ext.refl e1.fh) (by rw [← t2.length]; exact hz) _ (walkD_seq t2 walk_list fun H' s' => .inl (Same.rd s' r2))
    | tuple xs => exact absurd eo (n1 xs)
    | str z => exact absurd eo (n2 z)
    | dict es =>
      by_cases hs : ∃ xs, es = [(.none, .list xs)]
      · obtain ⟨xs, rfl⟩ := hs
        obtain ⟨ns, e⟩ := scr_of tv
        subst e
        obtain ⟨a, rfl, sq⟩ := TD.scr (H := F1) (fun _ _ z => z) (Or.inl dv : TD X.K F1 F1 _ (FL.scr ns))
        have sq1 : SqL X.K H1 a (ns.map V.int) := e1.fh.seq sq
        refine ⟨a, rfl, ⟨_, sq1⟩, fun pins s I => ?_⟩
        obtain ⟨its, _, _, hz⟩ := I.list sq1
        have t2 : DDs X.K F1 (ns.map V.int) (ns.map PyData.int) := dds_ints ns
        exact h1 F1 H1 (Ext.refl e1.fh) (by rw [← t2.length]; exact hz) _ (walkD_seq t2 walk_list fun H' s' => s'.seq sq)
      · have h1 : Wn F1 H1 (W σ) _ (itemsK es) := h1
        unfold itemsK at h1
        split at h1
        · exact absurd ⟨_, rfl⟩ hs
        · exact absurd eo (n3 _)
        · exact h1.elim
    | _ => exact h1.elim
  cases q : ev Φ c S with
  | ok d =>
    cases d with
    | tuple ds =>
      refine PI.w (pi_tup pe_w) (key _ fun x v F1 H1 eo e1 tv dv h1 => ?_)
      rw [q] at eo
      cases eo
      cases dv with
      | tup r2 t2 =>
        have sq := Same.sqt e1.fh r2
        refine ⟨_, rfl, ⟨_, sq⟩, fun pins s I => ?_⟩
        obtain ⟨its, _, _, hz⟩ := I.tuple sq
        exact h1 F1 H1 (Ext.refl e1.fh) (by rw [← t2.length]; exact hz) _ (walkD_seq t2 walk_tup fun H' s' => Same.sqt s' r2)
    | str z =>
      refine PI.w (pi_str pe_w) (key _ fun x v F1 H1 eo e1 tv dv h1 => ?_)
      rw [q] at eo
      cases eo
      cases dv
      refine ⟨z, rfl, fun pins s I => ?_⟩
      obtain ⟨g, h1⟩ := Wn.guard (o := .ok _) h1
      refine h1 F1 H1 (Ext.refl e1.fh) (by rw [List.length_map, Array.length_toList]; exact fits_le g) _ ?_
      unfold WalkD
      rw [List.length_map, Array.length_toList]
      refine walk_str.mono (fun _ _ => trivial) fun i H x H' hi s y F1 s1 s2 => ?_
      obtain ⟨e, cc, hc, hx⟩ := y
      subst e hx
      refine ⟨.str ⟨#[cc]⟩, F1, ?_, Ext.refl s2, .str _⟩
      rw [List.getElem?_map, Array.getElem?_toList, hc]
      rfl
    | dict es =>
      by_cases hm : ∃ es', es = mkD :: es'
      · obtain ⟨es', rfl⟩ := hm
        refine PI.w (pi_keyN pe_w) (key _ fun x v F1 H1 eo e1 tv dv h1 => ?_)
        rw [q] at eo
        cases eo
        obtain ⟨a, xs, ep, rfl, r1, t⟩ := TD.dnn (H := F1) (fun _ _ z => z) (Or.inl dv : TD X.K F1 F1 v _)
        refine ⟨a, xs, ep, rfl, e1.fh _ _ r1, fun pins s I => ?_⟩
        have el : (es'.map (·.1)).length ≤ sizeLine := by
          rw [List.length_map, ← t.length]
          exact (dN_at I (e1.fh _ _ r1)).2.1
        exact h1 F1 H1 (Ext.refl e1.fh) el _ (walkD_seq (vs := xs.map (pickN true)) t.keysD walkN fun H' s' => s' _ _ r1)
      · exact dflt (fun ds e => by rw [q] at e; cases e) (fun ds e => by rw [q] at e; cases e) (fun es' e => by rw [q] at e; cases e; exact hm ⟨_, rfl⟩)
    | _ => exact dflt (fun ds e => by rw [q] at e; cases e) (fun ds e => by rw [q] at e; cases e) (fun ds e => by rw [q] at e; cases e)
  | exc j => exact dflt (fun ds e => by rw [q] at e; cases e) (fun ds e => by rw [q] at e; cases e) (fun ds e => by rw [q] at e; cases e)
  | bad => exact dflt (fun ds e => by rw [q] at e; cases e) (fun ds e => by rw [q] at e; cases e) (fun ds e => by rw [q] at e; cases e)
/-- the values of a dict -/
theorem si_vals {c : CE} {e : Expr} {apos cpos : Pos} (h : SE Φ W X c e) (p : isPk c = false) (hb : attributeBase e "values" X.env (eval e X.env) = eval e X.env) (hl : (apos.endLine == cpos.line) = true) : SI Φ W X (.vals c) (.Call (.Attribute e "values" apos) [] [] cpos) tg := fun H0 S σ F H R r hw => by
  refine wI_inv ?_
  refine PI.w (pi_valN pe_w hb hl) ?_
  refine one h r hw fun x v F1 H1 e1 s1 tv dv h1 => ?_
  have dv := dv p
  cases x with
  | dict es =>
    by_cases hm : ∃ es', es = mkD :: es'
    · obtain ⟨es', rfl⟩ := hm
      obtain ⟨a, xs, ep, rfl, r1, t⟩ := TD.dnn (H := F1) (fun _ _ z => z) (Or.inl dv : TD X.K F1 F1 v _)
      refine ⟨a, xs, ep, rfl, s1 _ _ r1, fun pins s I => ?_⟩
      have el : (es'.map (·.2)).length ≤ sizeLine := by
        rw [List.length_map, ← t.length]
        exact (dN_at I (s1 _ _ r1)).2.1
      exact h1 F1 H1 (Ext.refl s1) el _ (walkD_seq (vs := xs.map (pickN false)) t.valsD walkN fun H' s' => s' _ _ r1)
    · have h1 : Wn F1 H1 (W σ) _ (valsK es) := h1
      unfold valsK at h1
      split at h1
      · exact absurd ⟨_, rfl⟩ hm
      · exact h1.elim
  | _ => exact h1.elim
theorem si_rng {c : CE} {e : Expr} {p : Pos} (k : Cok Γ Φ n W N sc X) (hx : glB sc "range" = true) (h : SE Φ W X c e) (ns : nstB e = true) : SI Φ W X (.rng c) (.Call (.Name "range" p) [e] [] pos) tg := fun H0 S σ F H R r hw => by
  obtain ⟨g1, _, _⟩ := k.gl hx
  refine PI.w (pi_range1 g1 (k.free _ (by decide +kernel)) (pa_cons pe_w pa_nil (nst_eq ns [] X.env)) (nst_eq ns [] X.env)) ?_
  refine one h r hw fun x v F1 H1 e1 s1 tv _ h1 => ?_
  cases x with
  | int j =>
    obtain rfl := tv.int
    obtain ⟨g, h1⟩ := Wn.guard (o := .ok _) h1
    have g2 : j.natAbs ≤ 1000000 := of_decide_eq_true g
    have g' : -1000000 ≤ j ∧ j ≤ 1000000 := by omega
    have el : (rangeD j).length = j.toNat := by simp [rangeD]
    refine ⟨j, rfl, by omega, by omega, h1 F1 H1 (Ext.refl s1) ?_ _ ?_⟩
    · rw [el]
      exact Nat.le_trans (show j.toNat ≤ 1000000 by omega) (by decide)
    · unfold WalkD
      rw [el]
      refine walk_range.mono (fun _ _ => trivial) fun i H x H' hi s y F1 s1 s2 => ?_
      obtain ⟨e, hx⟩ := y
      subst e hx
      refine ⟨.int (i : Nat), F1, ?_, Ext.refl s2, ?_⟩
      · unfold rangeD
        rw [List.getElem?_map, List.getElem?_range hi]
        rfl
      · show DD X.K F1 (.int (0 + (i : Nat))) _
        rw [Int.zero_add]
        exact .int _
  | _ => exact h1.elim
theorem zipD_length : ∀ (xs ys : List D), (zipD xs ys).length = min xs.length ys.length
  | [], _ => by simp [zipD]
  | _ :: _, [] => by simp [zipD]
  | x :: xs, y :: ys => by
    show (zipD xs ys).length + 1 = min (xs.length + 1) (ys.length + 1)
    rw [zipD_length xs ys]
    omega
theorem zipD_get : ∀ (xs ys : List D) (i : Nat) (x y : D), xs[i]? = some x → ys[i]? = some y → (zipD xs ys)[i]? = some (.tuple [x, y])
  | x :: xs, y :: ys, 0, _, _, h1, h2 => by
    simp at h1 h2
    subst h1 h2
    rfl
  | x :: xs, y :: ys, i + 1, a, b, h1, h2 => by
    simp at h1 h2
    show (zipD xs ys)[i]? = _
    exact zipD_get xs ys i a b h1 h2
  | [], _, i, _, _, h1, _ => by simp at h1
  | _ :: _, [], i, _, _, _, h2 => by simp at h2
theorem pair_ok {K : PySem.W.Frag} {F : Hp} {vs ws : List V} {xs ys : List D} (t1 : DDs K F vs xs) (t2 : DDs K F ws ys) {i : Nat} {H H' : Hp} {v : V} (y : YPair (fun i => vs[i]?) (fun i => ws[i]?) i H v H') :
    ∀ F1, Same F F1 → Same F1 H → ∃ d F2, (zipD xs ys)[i]? = some d ∧ Ext F1 H F2 H' ∧ DD K F2 v d := fun F1 s1 s2 => by
  obtain ⟨T, a, b, rfl, nT, rfl, h1, h2⟩ := y
  obtain ⟨d, e1, e2⟩ := t1.getV i a h1
  obtain ⟨d', e3, e4⟩ := t2.getV i b h2
  have e : Ext F1 H (upd F1 T (.tup [a, b])) (upd H T (.tup [a, b])) := Ext.new s2 nT
  exact ⟨.tuple [d, d'], _, zipD_get xs ys i d d' e1 e3, e, .tup (.inl (.inl upd_same)) (.cons ((e2.mono s1).mono e.ff) (.cons ((e4.mono s1).mono e.ff) .nil))⟩
theorem walk_zipT {K : PySem.W.Frag} {a b : Addr} {xs ys : List V} {m : Nat} (hm : m = min xs.length ys.length) : Walk (RZ.ItzT K a b) m (fun H => SqT K H a xs ∧ SqT K H b ys) (YPair (fun i => xs[i]?) (fun i => ys[i]?)) where
  goes := fun i H hi ⟨h1, h2⟩ => by
    have l1 : i < xs.length := by omega
    have l2 : i < ys.length := by omega
    exact ⟨xs, ys, xs[i], ys[i], h1, h2, List.getElem?_eq_getElem l1, List.getElem?_eq_getElem l2⟩
  stops := fun H ⟨h1, h2⟩ => ⟨xs, ys, h1, h2, by omega⟩
  yields := fun i H v H' hi ⟨h1, h2⟩ ⟨T, x, y, e1, e2, e3, e4, e5⟩ => ⟨T, x, y, e1, e2, e3, e4 xs h1, e5 ys h2⟩
theorem si_zip {c c' : CE} {e e' : Expr} {elts : List Expr} {kk : Nat} {p tpos : Pos} (k : Cok Γ Φ n W N sc X) (hx : glB sc "zip" = true) (h : SE Φ W X c e) (h' : SE Φ W X c' e') (p1 : isPk c = false) (p2 : isPk c' = false) (n1 : nstB e = true) (n2 : nstB e' = true) :
    SI Φ W X (.zip c c') (.Call (.Name "zip" p) [e, e'] [] pos) (.Tuple elts kk tpos) := fun H0 S σ F H R r hw => by
  obtain ⟨g1, _, _⟩ := k.gl hx
  refine wI_inv ?_
  refine PI.w (RZ.pi_zipA g1 (k.free _ (by decide +kernel)) (pa_cons pe_w (pa_cons pe_w pa_nil (nst_eq n2 [] X.env)) (nst_eq n1 _ X.env)) (nst_eq n1 _ X.env) (by rw [nst_eq n2]; rfl)) ?_
  refine two h h' r hw fun x y v u F2 H2 _ s2 tv tu dv du h2 => ?_
  have dv := dv p1
  have du := du p2
  cases x with
  | list xs =>
    cases y with
    | list ys =>
      cases dv with
      | @lst a vs _ r1 t1 =>
        cases du with
        | @lst b ws _ r2 t2 =>
          have q1 : SqL X.K H2 a vs := .inl (Same.rd s2 r1)
          have q2 : SqL X.K H2 b ws := .inl (Same.rd s2 r2)
          refine ⟨a, b, vs, ws, rfl, .inl ⟨q1, q2, fun pins s I => ?_⟩⟩
          obtain ⟨_, _, _, hz⟩ := I.list q1
          have el := zipD_length xs ys
          have l1 := t1.length
          have l2 := t2.length
          refine h2 F2 H2 (Ext.refl s2) (by rw [el]; omega) _ ?_
          unfold WalkD
          exact (walk_zip (xs := vs) (ys := ws) (by rw [el]; omega)).mono (fun H' s' => ⟨.inl (Same.rd s' r1), .inl (Same.rd s' r2)⟩) fun i H x H' hi s y => pair_ok t1 t2 y
    | _ => exact h2.elim
  | tuple xs =>
    cases y with
    | tuple ys =>
      cases dv with
      | @tup a vs _ r1 t1 =>
        cases du with
        | @tup b ws _ r2 t2 =>
          have q1 : SqT X.K H2 a vs := Same.sqt s2 r1
          have q2 : SqT X.K H2 b ws := Same.sqt s2 r2
          refine ⟨a, b, vs, ws, rfl, .inr ⟨q1, q2, fun pins s I => ?_⟩⟩
          obtain ⟨_, _, _, hz⟩ := I.tuple q1
          have el := zipD_length xs ys
          have l1 := t1.length
          have l2 := t2.length
          refine h2 F2 H2 (Ext.refl s2) (by rw [el]; omega) _ ?_
          unfold WalkD
          exact (walk_zipT (xs := vs) (ys := ws) (by rw [el]; omega)).mono (fun H' s' => ⟨Same.sqt s' r1, Same.sqt s' r2⟩) fun i H x H' hi s y => pair_ok t1 t2 y
    | _ => exact h2.elim
  | _ => cases y <;> exact h2.elim
theorem enumD_length : ∀ (m : Nat) (xs : List D), (enumD m xs).length = xs.length
  | _, [] => rfl
  | m, x :: xs => by
    show (enumD (m + 1) xs).length + 1 = xs.length + 1
    rw [enumD_length (m + 1) xs]
theorem enumD_get : ∀ (xs : List D) (m i : Nat) (x : D), xs[i]? = some x → (enumD m xs)[i]? = some (.tuple [.int ((m + i : Nat) : Int), x])
  | x :: xs, m, 0, _, h => by
    simp at h
    subst h
    rfl
  | x :: xs, m, i + 1, a, h => by
    simp at h
    show (enumD (m + 1) xs)[i]? = _
    rw [enumD_get xs (m + 1) i a h]
    have : m + 1 + i = m + (i + 1) := by omega
    rw [this]
  | [], _, _, _, h => by simp at h
theorem si_enum {c : CE} {e : Expr} {elts : List Expr} {kk : Nat} {p tpos : Pos} (k : Cok Γ Φ n W N sc X) (hx : glB sc "enumerate" = true) (h : SE Φ W X c e) (p1 : isPk c = false) (n1 : nstB e = true) :
    SI Φ W X (.enum c) (.Call (.Name "enumerate" p) [e] [] pos) (.Tuple elts kk tpos) := fun H0 S σ F H R r hw => by
  obtain ⟨g1, _, _⟩ := k.gl hx
  refine wI_inv ?_
  refine PI.w (pi_enum g1 (k.free _ (by decide +kernel)) (pa_cons pe_w pa_nil (nst_eq n1 _ X.env)) (nst_eq n1 _ X.env)) ?_
  refine one h r hw fun x v F1 H1 _ s1 tv dv h1 => ?_
  have dv := dv p1
  cases x with
  | list xs =>
    cases dv with
    | @lst a vs _ r1 t1 =>
      have q1 : SqL X.K H1 a vs := .inl (Same.rd s1 r1)
      refine ⟨a, vs, rfl, q1, fun pins s I => ?_⟩
      obtain ⟨_, _, _, hz⟩ := I.list q1
      have el := enumD_length 0 xs
      have l1 := t1.length
      refine h1 F1 H1 (Ext.refl s1) (by rw [el]; omega) _ ?_
      unfold WalkD
      rw [el, ← l1]
      refine walk_enum.mono (fun H' s' => .inl (Same.rd s' r1)) fun i H x H' hi s y F1 s1 s2 => ?_
      obtain ⟨T, a, b, rfl, nT, rfl, h1, h2⟩ := y
      cases h1
      obtain ⟨d, e3, e4⟩ := t1.getV i b h2
      have e : Ext F1 H (upd F1 T (.tup [.int (i : Nat), b])) (upd H T (.tup [.int (i : Nat), b])) := Ext.new s2 nT
      refine ⟨.tuple [.int ((0 + i : Nat) : Int), d], _, enumD_get xs 0 i d e3, e, .tup (.inl (.inl upd_same)) (.cons ?_ (.cons ((e4.mono s1).mono e.ff) .nil))⟩
      rw [Nat.zero_add]
      exact .int _
  | _ => exact h1.elim

/-! ### targets -/
def gOf (K : PySem.W.Frag) : Tg → TG
  | .one i => gName i
  | .two i j => gTup K 2 (gCons (gName i) (gCons (gName j) gNil))
theorem pg_of {sc' : Scope} {t : Tg} {e : Expr} (hc : X.calm = true) (hN : X.N = N) (nd : N.Nodup) (h : tgIs N sc' t e = true)
    (hl : ∀ x, locB sc' x = true → L2.Loc X.env.scope x ∧ (X.fn x = true ∨ X.env.scope.names.lookup x = some .local)) : PG X e (gOf X.K t) := by
  cases t with
  | one i =>
    cases e <;> first | cases h; done | skip
    rename_i x p
    have h : (decide (N[i]? = some x) && locB sc' x) = true := h
    simp only [Bool.and_eq_true, decide_eq_true_eq] at h
    obtain ⟨l1, l2⟩ := hl x h.2
    exact pg_name (by rw [hN]; exact nd) (by rw [hN]; exact h.1) l1 l2
  | two i j =>
    cases e <;> first | cases h; done | skip
    rename_i es k p
    cases es with
    | nil => cases h
    | cons e1 es =>
      cases es with
      | nil => cases e1 <;> cases h
      | cons e2 es =>
        cases es with
        | cons e3 es => cases e1 <;> cases e2 <;> cases h
        | nil =>
          cases e1 <;> first | cases h; done | skip
          cases e2 <;> first | cases h; done | skip
          rename_i x p1 y p2
          have h : (decide (N[i]? = some x) && (locB sc' x && (decide (N[j]? = some y) && (locB sc' y && decide (i ≠ j))))) = true := h
          simp only [Bool.and_eq_true, decide_eq_true_eq] at h
          obtain ⟨l1, l2⟩ := hl x h.2.1
          obtain ⟨l3, l4⟩ := hl y h.2.2.2.1
          refine pg_tup hc (pgs_cons (pg_name (by rw [hN]; exact nd) (by rw [hN]; exact h.1) l1 l2) (pgs_cons (pg_name (by rw [hN]; exact nd) (by rw [hN]; exact h.2.2.1) l3 l4) pgs_nil))
theorem g_ok {t : Tg} {d : D} {v : V} {H0 F H : Hp} {S S2 : St} {σ : L2.St} {Q : L2.St → Hp → Prop} (r : Rp X.K H0 S σ F H) (dv : DD X.K F v d) (hb : bindT t d S = .ok S2)
    (h : ∀ σ2, Rp X.K H0 S2 σ2 F H → (∀ i, i ∉ (match t with | .one i => [i] | .two i j => [i, j]) → σ2[i]? = σ[i]?) → σ2.length = σ.length → Q σ2 H) : gOf X.K t v σ H Q := by
  cases t with
  | one i =>
    cases hb
    refine h _ (r.set dv) (fun m hm => ?_) (by simp)
    have : i ≠ m := fun z => hm (by simp [z])
    rw [List.getElem?_set_ne this]
  | two i j =>
    cases d <;> first | cases hb; done | skip
    rename_i ds
    cases ds with
    | nil => cases hb
    | cons d1 ds =>
      cases ds with
      | nil => cases hb
      | cons d2 ds =>
        cases ds with
        | cons _ _ => cases hb
        | nil =>
          cases hb
          cases dv with
          | tup sq t =>
            cases t with
            | cons h1 t =>
              cases t with
              | cons h2 t =>
                cases t
                refine ⟨_, _, rfl, Same.sqt r.fh sq, rfl, _, _, rfl, _, _, rfl, rfl, ?_⟩
                refine h _ ((r.set h1).set h2) (fun m hm => ?_) (by simp)
                have n1 : i ≠ m := fun z => hm (by simp [z])
                have n2 : j ≠ m := fun z => hm (by simp [z])
                rw [List.getElem?_set_ne n2, List.getElem?_set_ne n1]
end
end FL

set_option Elab.async false
set_option maxRecDepth 100000
set_option maxHeartbeats 4000000
/-! FLs8: comprehensions; the expressions' theorem. -/
namespace FL
open PySem PySem.Spec PyProof.Rows L2

def tgSl : Tg → List Nat
  | .one i => [i]
  | .two i j => [i, j]
theorem Rp.no {K : PySem.W.Frag} {H0 : Hp} {S : St} {σ : L2.St} {F H : Hp} (r : Rp K H0 S σ F H) (i : Nat) : Rp K H0 (S.set i .no) (σ.set i none) F H := by
  have gone : ∀ (m : Nat) (z : Sl), z ≠ .no → (S.set i .no)[m]? = some z → i ≠ m := fun m z hz q im => by
    subst im
    have hl : i < S.length := by
      rcases Nat.lt_or_ge i S.length with z | z
      · exact z
      · rw [List.getElem?_eq_none (by simpa using z)] at q
        cases q
    rw [List.getElem?_set_self hl] at q
    exact hz (Option.some.inj q).symm
  refine ⟨r.fh, by simp [r.len], fun j e hj => ?_, fun j e hj => ?_, fun j k d1 d2 a h1 h2 h3 h4 => ?_⟩
  · have ij := gone j _ (by intro z; cases z) hj
    rw [List.getElem?_set_ne ij] at hj ⊢
    exact r.fz j e hj
  · have ij := gone j _ (by intro z; cases z) hj
    rw [List.getElem?_set_ne ij] at hj ⊢
    exact r.ow j e hj
  · have nj := gone j _ (by intro z; cases z) h1
    have nk := gone k _ (by intro z; cases z) h2
    rw [List.getElem?_set_ne nj] at h1 h3
    rw [List.getElem?_set_ne nk] at h2 h4
    exact r.ne j k d1 d2 a h1 h2 h3 h4
def wipeS (S : St) : List Nat → St
  | [] => S
  | i :: r => (wipeS S r).set i .no
theorem Rp.wipe {K : PySem.W.Frag} {H0 : Hp} {S : St} {σ : L2.St} {F H : Hp} (r : Rp K H0 S σ F H) : ∀ l : List Nat, Rp K H0 (wipeS S l) (L2.wipe σ l) F H
  | [] => r
  | i :: l => (Rp.wipe r l).no i
def tgNe : Tg → Prop
  | .one _ => True
  | .two i j => i ≠ j
theorem bindT_wipe {t : Tg} {d : D} {S S2 : St} (hd : tgNe t) (h : bindT t d S = .ok S2) : bindT t d (wipeS S (tgSl t)) = .ok S2 := by
  cases t with
  | one i =>
    cases h
    show Out.ok ((S.set i .no).set i (.fz d)) = _
    rw [List.set_set]
  | two i j =>
    cases d <;> first | cases h; done | skip
    rename_i ds
    cases ds with
    | nil => cases h
    | cons d1 ds =>
      cases ds with
      | nil => cases h
      | cons d2 ds =>
        cases ds with
        | cons _ _ => cases h
        | nil =>
          cases h
          show Out.ok ((((S.set j .no).set i .no).set i (.fz d1)).set j (.fz d2)) = _
          rw [List.set_set, List.set_comm _ _ (Ne.symm hd), List.set_set, ← List.set_comm _ _ (Ne.symm hd)]
theorem wipe_get {σ τ : L2.St} (hl : σ.length = τ.length) : ∀ (l : List Nat), (∀ i, i ∉ l → σ[i]? = τ[i]?) → L2.wipe σ l = L2.wipe τ l := by
  intro l h
  have len : ∀ (ρ : L2.St) (l : List Nat), (L2.wipe ρ l).length = ρ.length := fun ρ l => wipe_length ρ l
  have inn : ∀ (ρ : L2.St) (l : List Nat) (i : Nat), i ∈ l → i < ρ.length → (L2.wipe ρ l)[i]? = some none := by
    intro ρ l
    induction l with
    | nil => intro i hi; cases hi
    | cons a l ih =>
      intro i hi hr
      show ((L2.wipe ρ l).set a none)[i]? = _
      by_cases e : a = i
      · subst e
        rw [List.getElem?_set_self (by rw [len]; exact hr)]
      · rw [List.getElem?_set_ne e]
        rcases List.mem_cons.mp hi with z | z
        · exact absurd z.symm e
        · exact ih i z hr
  apply List.ext_getElem?
  intro i
  by_cases hi : i ∈ l
  · by_cases hr : i < σ.length
    · rw [inn σ l i hi hr, inn τ l i hi (by omega)]
    · rw [List.getElem?_eq_none (by rw [len]; omega), List.getElem?_eq_none (by rw [len]; omega)]
  · rw [wipe_out hi, wipe_out hi]
    exact h i hi
theorem wipe_idem (σ : L2.St) (l : List Nat) : L2.wipe (L2.wipe σ l) l = L2.wipe σ l :=
  wipe_get (wipe_length σ l) l fun i hi => wipe_out hi

/-- what is not frozen and stands stays not frozen -/
theorem Ext.notF {F H F' H' : Hp} {a : Addr} {o : HO} (e : Ext F H F' H') (n : F a = none) (h : H a = some o) : F' a = none := by
  cases q : F' a with
  | none => rfl
  | some u =>
    rcases e.nw a u q with z | z
    · rw [z] at n
      cases n
    · rw [z] at h
      cases h
/-- an object of one's own is frozen -/
theorem Ext.freeze {F H F' H' : Hp} {a : Addr} {o : HO} (e : Ext F H F' H') (n : F' a = none) (h : H' a = some o) (h0 : H a = none) : Ext F H (upd F' a o) H' :=
  ⟨e.ff.trans (same_upd n), e.hh, fun b u z => by
    by_cases hb : b = a
    · subst hb
      rw [upd_same] at z
      cases z
      exact h
    · rw [upd_ne hb] at z
      exact e.fh b u z, fun b u z => by
    by_cases hb : b = a
    · subst hb
      exact .inr h0
    · rw [upd_ne hb] at z
      exact e.nw b u z⟩
theorem calm_noexc {α : Type} (o : Out α) (j : Nat) : o.calm ≠ .exc j := by
  cases o <;> intro z <;> cases z
theorem lcM_noexc {f : D → Out (Option D)} (h : ∀ x j, f x ≠ .exc j) : ∀ l j, lcM f l ≠ .exc j := by
  intro l
  induction l with
  | nil => intro j z; cases z
  | cons a l ih =>
    intro j z
    have z : ((f a).bind fun r => (lcM f l).bind fun rs => .ok (consO r rs)) = .exc j := z
    cases q1 : f a with
    | ok r =>
      rw [q1] at z
      have z : ((lcM f l).bind fun rs => Out.ok (consO r rs)) = .exc j := z
      cases q2 : lcM f l with
      | ok rs =>
        rw [q2] at z
        cases z
      | exc j' => exact ih j' q2
      | bad =>
        rw [q2] at z
        cases z
    | exc j' => exact h a j' q1
    | bad =>
      rw [q1] at z
      cases z
theorem lcM_cons {f : D → Out (Option D)} {x : D} {xs ts : List D} (h : lcM f (x :: xs) = .ok ts) : ∃ o ts', f x = .ok o ∧ lcM f xs = .ok ts' ∧ ts = consO o ts' := by
  have z : ((f x).bind fun r => (lcM f xs).bind fun rs => .ok (consO r rs)) = .ok ts := h
  cases q1 : f x with
  | ok r =>
    rw [q1] at z
    have z : ((lcM f xs).bind fun rs => Out.ok (consO r rs)) = .ok ts := z
    cases q2 : lcM f xs with
    | ok rs =>
      rw [q2] at z
      exact ⟨r, rs, rfl, rfl, (Out.ok.inj z).symm⟩
    | exc j =>
      rw [q2] at z
      cases z
    | bad =>
      rw [q2] at z
      cases z
  | exc j =>
    rw [q1] at z
    cases z
  | bad =>
    rw [q1] at z
    cases z
theorem calm_parts {Φ : Nat → List D → Out D} {tg : Tg} {x : D} {S : St} {t : CO} {c : CE} {o : Option D} (h : ((bindT tg x S).bind fun S2 => (evt Φ t S2).bind fun b => if b = true then (ev Φ c S2).bind fun y => Out.ok (some y) else Out.ok none).calm = .ok o) :
    ∃ S2 b, bindT tg x S = .ok S2 ∧ evt Φ t S2 = .ok b ∧ (match b with
      | true => ∃ y, ev Φ c S2 = .ok y ∧ o = some y
      | false => o = none) := by
  cases q1 : bindT tg x S with
  | ok S2 =>
    rw [q1] at h
    have h : ((evt Φ t S2).bind fun b => if b = true then (ev Φ c S2).bind fun y => Out.ok (some y) else Out.ok none).calm = .ok o := h
    cases q2 : evt Φ t S2 with
    | ok b =>
      rw [q2] at h
      refine ⟨S2, b, rfl, q2, ?_⟩
      cases b with
      | false =>
        cases h
        rfl
      | true =>
        have h : ((ev Φ c S2).bind fun y => Out.ok (some y)).calm = .ok o := h
        cases q3 : ev Φ c S2 with
        | ok y =>
          rw [q3] at h
          cases h
          exact ⟨y, rfl, rfl⟩
        | exc j =>
          rw [q3] at h
          cases h
        | bad =>
          rw [q3] at h
          cases h
    | exc j =>
      rw [q2] at h
      cases h
    | bad =>
      rw [q2] at h
      cases h
  | exc j =>
    rw [q1] at h
    cases h
  | bad =>
    rw [q1] at h
    cases h
theorem Wn.calm {α : Type} {F H : Hp} {W W' : Nat → Hp → Prop} {R : α → Hp → Hp → Prop} {o : Out α} (h : Wn F H W R o.calm) : Wn F H W' R o := by
  cases o with
  | ok a => exact h
  | exc k => exact h.elim
  | bad => exact h

section
variable {Γ : Gm} {Φ : Nat → List D → Out D} {n : Nat} {W : L2.St → Nat → Hp → Prop} {N : List Str} {sc : Scope} {X : Cx} {pos : Pos}
abbrev W0 : L2.St → Nat → Hp → Prop := fun _ _ _ => False
theorem Cok.blk (k : Cok Γ Φ n W N sc X) (s : Shared) (H : Hp) (scope : Scope) (cl : List (Str × Addr)) (C : Addr) (fp : List Addr) : Cok Γ Φ n W0 N (relS scope sc) (X.blk s H scope (compEnvC scope cl C X.env) fp) where
  nm := k.nm
  nd := k.nd
  sc := by
    have : (compEnvC scope cl C X.env).scope = relS scope X.env.scope := rfl
    rw [← k.sc]
    exact this
  calm := k.calm
  room := k.room
  fns := k.fns
  free := k.free
  glo := k.glo
  pass := fun _ _ _ _ _ _ _ h => by
    obtain ⟨_, _, _, _, _, _, _, _, _, _, _, _, z⟩ := h
    obtain ⟨_, _, _, z⟩ := z
    exact z.elim
/-- the target in a block -/
theorem blk_loc (k : Cok Γ Φ n W N sc X) {s : Shared} {H : Hp} {scope : Scope} {cl : List (Str × Addr)} {C : Addr} {fp : List Addr} {x : Str} (h : locB scope x = true) :
    L2.Loc (X.blk s H scope (compEnvC scope cl C X.env) fp).env.scope x ∧ ((X.blk s H scope (compEnvC scope cl C X.env) fp).fn x = true ∨ (X.blk s H scope (compEnvC scope cl C X.env) fp).env.scope.names.lookup x = some .local) := by
  have e : (compEnvC scope cl C X.env).scope = relS scope X.env.scope := rfl
  unfold locB at h
  split at h <;> rename_i q
  · have q' : (relS scope X.env.scope).names.lookup x = some .local := lookup_relS_keep (by intro z; cases z) q
    exact ⟨.inl q', .inr q'⟩
  · have q' : (relS scope X.env.scope).names.lookup x = some .cell := lookup_relS_keep (by intro z; cases z) q
    refine ⟨.inr q', .inl ?_⟩
    show (scope.names.lookup x == some .cell) = true
    rw [q]
    rfl
  · cases h
theorem own_sl {N : List Str} {scope : Scope} {t : Tg} {e : Expr} (h : tgIs N scope t e = true) : (ownOf t e).map (·.2) = tgSl t ∧ tgNe t := by
  cases t with
  | one i => cases e <;> first | cases h; done | exact ⟨rfl, trivial⟩
  | two i j =>
    cases e <;> first | cases h; done | skip
    rename_i es k p
    cases es with
    | nil => cases h
    | cons e1 es =>
      cases es with
      | nil => cases e1 <;> cases h
      | cons e2 es =>
        cases es with
        | cons e3 es => cases e1 <;> cases e2 <;> cases h
        | nil =>
          cases e1 <;> first | cases h; done | skip
          cases e2 <;> first | cases h; done | skip
          rename_i x p1 y p2
          have h : (decide (N[i]? = some x) && (locB scope x && (decide (N[j]? = some y) && (locB scope y && decide (i ≠ j))))) = true := h
          simp only [Bool.and_eq_true, decide_eq_true_eq] at h
          exact ⟨rfl, h.2.2.2.2⟩

/-- a comprehension's test, in every block -/
def STs (Φ : Nat → List D → Out D) (X : Cx) (t : CO) (ifs : List Expr) : Prop := ∀ (H0 : Hp) (S : St) (σ : L2.St) (F H : Hp) (Q : Bool → Hp → Prop), Rp X.K H0 S σ F H → Wn F H (W0 σ) (fun b _ H' => Q b H') (evt Φ t S) →
  ∀ (pins : List (Addr × Obj)) (s : Shared), Inv X pins σ H s → wpAny (model X.prog X.w) X.A (forIn ifs true fun c r => if r = true then do let ok ← isTrue c X.env (eval c X.env); pure (ForInStep.yield ok) else pure (ForInStep.yield r)) (TP X pins σ Q) X.xe s
theorem sts_no : STs Φ X .no [] := fun H0 S σ F H Q r hw pins s I => pts_nil.run pins s σ H Q I (hw F H (Ext.refl r.fh))
theorem sts_so {c : CE} {e : Expr} (h : ST Φ W0 X c e) : STs Φ X (.so c) [e] := fun H0 S σ F H Q r hw pins s I => (pts_one pt_w).run pins s σ H Q I (h H0 S σ F H Q r hw)

/-- the readings of a block's parts, in every block -/
def teB (X : Cx) (scope : Scope) (elt : Expr) : TE := fun σ H Q => ∀ (s0 : Shared) (Hb : Hp) (C : Addr) (cl : List (Str × Addr)) (fp : List Addr), wE (X.blk s0 Hb scope (compEnvC scope cl C X.env) fp) elt σ H Q
def ttB (X : Cx) (scope : Scope) (ifs : List Expr) : TT := fun σ H Q => ∀ (s0 : Shared) (Hb : Hp) (C : Addr) (cl : List (Str × Addr)) (fp : List Addr) (pins : List (Addr × Obj)) (s : Shared), Inv (X.blk s0 Hb scope (compEnvC scope cl C X.env) fp) pins σ H s →
    wpAny (model X.prog X.w) X.A (forIn ifs true fun c r => if r = true then do let ok ← isTrue c (compEnvC scope cl C X.env) (eval c (compEnvC scope cl C X.env)); pure (ForInStep.yield ok) else pure (ForInStep.yield r)) (TP (X.blk s0 Hb scope (compEnvC scope cl C X.env) fp) pins σ Q) (fun _ _ => False) s
theorem pe_teB {scope : Scope} {elt : Expr} (s0 : Shared) (Hb : Hp) (C : Addr) (cl : List (Str × Addr)) (fp : List Addr) : PE (X.blk s0 Hb scope (compEnvC scope cl C X.env) fp) elt (teB X scope elt) := ⟨fun pins s σ H Q I h => h s0 Hb C cl fp pins s I⟩
theorem pt_ttB {scope : Scope} {ifs : List Expr} (s0 : Shared) (Hb : Hp) (C : Addr) (cl : List (Str × Addr)) (fp : List Addr) : PTs (X.blk s0 Hb scope (compEnvC scope cl C X.env) fp) ifs (ttB X scope ifs) := ⟨fun pins s σ H Q I h => h s0 Hb C cl fp pins s I⟩
theorem lc_gen {it : CI} {tg : Tg} {t : CO} {c : CE} {elt te iter : Expr} {ifs : List Expr} {scope : Scope} (k : Cok Γ Φ n W N sc X) (hi : SI Φ W X it iter te) (ht : tgIs N scope tg te = true) (pk : isPk c = false)
    (htt : ∀ X', Cok Γ Φ n W0 N (relS scope sc) X' → STs Φ X' t ifs) (hc : ∀ X', Cok Γ Φ n W0 N (relS scope sc) X' → SE Φ W0 X' c elt)
    {H0 : Hp} {S : St} {σ : L2.St} {F H : Hp} {Q : VK} (r : Rp X.K H0 S σ F H) (hw : Wn F H (W σ) (fun d F1 H1 => ∀ (rs : List FL.D) (D : Addr) (vs : List V) (Fi Hi : Hp), d = PyData.list rs → H1 D = none → Ext F1 H1 Fi Hi → Fi D = none → Hi D = some (.lst vs) → DDs X.K Fi vs rs → Q (.ref D) Hi) (ev Φ (.lc it tg t c) S)) :
    tLc (wI X te iter) (gOf X.K tg) (ttB X scope ifs) (teB X scope elt) ((ownOf tg te).map (·.2)) σ H Q := by
  obtain ⟨os, od⟩ := own_sl ht
  rw [os]
  let f : FL.D → Out (Option FL.D) := fun x => ((bindT tg x S).bind fun S2 => (evt Φ t S2).bind fun b => if b = true then (ev Φ c S2).bind fun y => .ok (some y) else .ok none).calm
  have hw := (show Wn F H (W σ) (fun d F1 H1 => ∀ (rs : List FL.D) (D : Addr) (vs : List V) (Fi Hi : Hp), d = PyData.list rs → H1 D = none → Ext F1 H1 Fi Hi → Fi D = none → Hi D = some (.lst vs) → DDs X.K Fi vs rs → Q (.ref D) Hi) ((evi Φ it S).bind fun xs => (lcM f xs).bind fun ys => .ok (PyData.list ys)) from hw)
  refine hi H0 S σ F H _ r (hw.bind.imp fun ds F1 H1 _ e1 h1 hz J wk D nD => ?_)
  cases qa : lcM f ds with
  | bad =>
    rw [qa] at h1
    exact h1.elim
  | exc j => exact absurd qa (lcM_noexc (fun x j => calm_noexc _ j) ds j)
  | ok rs =>
    rw [qa] at h1
    have h1 := h1 F1 H1 (Ext.refl e1.fh)
    refine lc_it wk (fun i Hi => ∃ Fi ys ts vs, Ext F1 H1 Fi Hi ∧ Fi D = none ∧ Hi D = some (.lst vs) ∧ DDs X.K Fi vs ys ∧ ys.length ≤ i ∧ lcM f (ds.drop i) = .ok ts ∧ rs = ys ++ ts) ?_ ?_ ?_ ?_
    · have e2 : Ext F1 H1 F1 (upd H1 D (.lst [])) := Ext.lay e1.fh nD
      exact ⟨F1, [], rs, [], e2, e1.fh.free nD, upd_same, .nil, Nat.zero_le _, qa, rfl⟩
    · rintro i Hi _ ⟨Fi, ys, ts, vs, e2, _⟩
      exact fun b o z => e2.fh b o (e2.ff b o z)
    · rintro i x Hi Hi' hlt ⟨Fi, ys, ts, vs, e2, nF, hD, tD, lD, hr, ers⟩ y
      obtain ⟨d, F2, hd, e3, dx⟩ := y Fi e2.ff e2.fh
      have ed : ds.drop i = d :: ds.drop (i + 1) := by
        have := List.drop_eq_getElem_cons hlt
        rw [this]
        rw [List.getElem?_eq_getElem hlt] at hd
        rw [Option.some.inj hd]
      rw [ed] at hr
      obtain ⟨o, ts', q1, q2, q3⟩ := lcM_cons hr
      obtain ⟨S2, b, hb, ht2, hel⟩ := calm_parts q1
      have D2 : F2 D = none := e3.notF nF hD
      have rw2 : Rp X.K H0 (wipeS S (tgSl tg)) (L2.wipe σ (tgSl tg)) F2 Hi' := (r.ext (e1.trans (e2.trans e3))).wipe _
      refine g_ok rw2 dx (bindT_wipe od hb) fun σ2 r2 same sl => ?_
      have wsame : L2.wipe σ2 (tgSl tg) = L2.wipe σ (tgSl tg) := by
        rw [← wipe_idem σ (tgSl tg)]
        refine wipe_get sl _ fun j hj => same j ?_
        cases tg <;> exact hj
      refine ⟨wsame, ?_⟩
      intro s0 Hb C cl fp pins' s' I'
      refine htt _ (k.blk s0 Hb scope cl C fp) H0 S2 σ2 F2 Hi' _ r2 ?_ pins' s' I'
      rw [ht2]
      intro F3 H3 e4
      have hD3 := e4.hh D _ (e3.hh D _ hD)
      have D3 : F3 D = none := e4.notF D2 (e3.hh D _ hD)
      cases b with
      | false =>
        have hel : o = none := hel
        subst hel
        exact ⟨F3, ys, ts', vs, e2.trans (e3.trans e4), D3, hD3, (tD.mono e3.ff).mono e4.ff, Nat.le_succ_of_le lD, q2, by rw [ers, q3]; rfl⟩
      | true =>
        obtain ⟨yd, hy, ho⟩ : ∃ yd, ev Φ c S2 = .ok yd ∧ o = some yd := hel
        subst ho
        intro s1 Hb1 C1 cl1 fp1
        refine hc _ (k.blk s1 Hb1 scope cl1 C1 fp1) H0 S2 σ2 F3 H3 _ (r2.ext e4) ?_
        rw [hy]
        intro F4 H4 e5 v tv dv
        have dv := dv pk
        have D4 : F4 D = none := e5.notF D3 hD3
        have hD4 := e5.hh D _ hD3
        have tl := tD.length
        refine ⟨vs, hD4, by omega, F4, ys ++ [yd], ts', vs ++ [v], ?_, D4, upd_same, ?_, ?_, q2, ?_⟩
        · have et := e2.trans (e3.trans (e4.trans e5))
          refine ⟨et.ff, fun b o z => ?_, fun b o z => ?_, et.nw⟩
          · rw [upd_ne (ne_of_none z nD)]
            exact et.hh b o z
          · rw [upd_ne (ne_of_none z D4)]
            exact et.fh b o z
        · exact (((tD.mono e3.ff).mono e4.ff).mono e5.ff).append (.cons dv .nil)
        · rw [List.length_append]
          show ys.length + 1 ≤ i + 1
          omega
        · rw [ers, q3, List.append_assoc]
          rfl
    · rintro Hi ⟨Fi, ys, ts, vs, e2, nF, hD, tD, lD, hr, ers⟩
      rw [List.drop_length] at hr
      cases hr
      rw [List.append_nil] at ers
      subst ers
      exact h1 _ D vs Fi Hi rfl nD e2 nF hD tD
theorem lc_read {it : CI} {tg : Tg} {t : CO} {c : CE} {elt te iter : Expr} {ifs : List Expr} {scope : Scope} (k : Cok Γ Φ n W N sc X) (hi : SI Φ W X it iter te) (ht : tgIs N scope tg te = true) (pk : isPk c = false)
    (htt : ∀ X', Cok Γ Φ n W0 N (relS scope sc) X' → STs Φ X' t ifs) (hc : ∀ X', Cok Γ Φ n W0 N (relS scope sc) X' → SE Φ W0 X' c elt)
    {H0 : Hp} {S : St} {σ : L2.St} {F H : Hp} {Q : VK} (r : Rp X.K H0 S σ F H) (hw : Wn F H (W σ) (RV1 X.K false Q) (ev Φ (.lc it tg t c) S)) :
    tLc (wI X te iter) (gOf X.K tg) (ttB X scope ifs) (teB X scope elt) ((ownOf tg te).map (·.2)) σ H Q := by
  refine lc_gen k hi ht pk htt hc r ?_
  cases q : ev Φ (.lc it tg t c) S with
  | bad =>
    rw [q] at hw
    exact hw.elim
  | exc j =>
    rw [q] at hw
    exact hw
  | ok d =>
    rw [q] at hw
    intro F1 H1 e1 rs D vs Fi Hi ed nD e2 nF hD tD
    subst ed
    have e8 : Ext F1 H1 (upd Fi D (.lst vs)) Hi := e2.freeze nF hD nD
    have hd : DD X.K (upd Fi D (.lst vs)) (.ref D) (.list rs) := .lst (.inl upd_same) (tD.mono (same_upd nF))
    exact (show ∀ F' H', Ext F H F' H' → RV1 X.K false Q (.list rs) F' H' from hw) _ _ (e1.trans e8) _ (.inl hd) fun _ => hd
theorem se_lc {it : CI} {tg : Tg} {t : CO} {c : CE} {elt te iter : Expr} {ifs : List Expr} {scope : Scope} (k : Cok Γ Φ n W N sc X) (hi : SI Φ W X it iter te) (ht : tgIs N scope tg te = true) (ok : blkC N sc scope (ownOf tg te) = true)
    (hs : nsetB iter = true) (pk : isPk c = false)
    (htt : ∀ X', Cok Γ Φ n W0 N (relS scope sc) X' → STs Φ X' t ifs) (hc : ∀ X', Cok Γ Φ n W0 N (relS scope sc) X' → SE Φ W0 X' c elt) : SE Φ W X (.lc it tg t c) (.ListComp elt [⟨te, iter, ifs, 0⟩] scope pos) := fun H0 S σ F H Q r hw =>
  PE.w (pe_lc (g := gOf X.K tg) k.calm (by rw [k.nm]; exact k.nd) pi_w (by rw [k.nm, k.sc]; exact blkOk_by ok)
    (fun s0 Hb C cl fp => pg_of (X := X.blk s0 Hb scope (compEnvC scope cl C X.env) fp) (N := N) k.calm k.nm k.nd ht fun x hx => blk_loc k hx) pt_ttB pe_teB (nset_eq hs X.env)) (lc_read k hi ht pk htt hc r hw)
end
end FL

set_option Elab.async false
set_option maxRecDepth 100000
set_option maxHeartbeats 4000000
/-! FLm: methods of built-in things; written dicts. -/
namespace FL
open PySem PySem.Spec PyProof.Rows L2
section
variable {X : Cx}
/-- a method's call, by its meaning -/
def wMt (X : Cx) (id : String) : V → List V → Hp → VK → Prop := fun x xs H Q => ∀ (pins : List (Addr × Obj)) (s : Shared) (σ : L2.St) (v : Value) (us : List Value), Inv X pins σ H s → RelV x v → Vals xs us → wpAny (model X.prog X.w) X.A (PySem.call (.builtin id) (v :: us)) (EP X pins σ Q) X.xe s
theorem MtR.w {id : String} {r : V → List V → Hp → VK → Prop} {x : V} {xs : List V} {H : Hp} {Q : VK} (p : MtR X id r) (h : r x xs H Q) : wMt X id x xs H Q := fun pins s σ v us I r1 r2 => p pins s σ H x xs v us Q I r1 r2 h
/-- the thing has the built-in type T -/
def HasT (X : Cx) (T : String) (x : V) (H : Hp) : Prop := ∀ (pins : List (Addr × Obj)) (s : Shared) (σ : L2.St) (v : Value), Inv X pins σ H s → RelV x v → s.TypeIs v T ∧ ∀ a, v = .ref a → ∃ ob, s.heap.get? a = some ob ∧ ob.dict = none
theorem HasT.ty {T : String} {x : V} {H : Hp} (h : tyV X.K T x H) : HasT X T x H := fun pins s σ v I r => tyV_is I r h
/-- the method m of a thing -/
def HasM (X : Cx) (m : Str) (id : String) (x : V) (H : Hp) : Prop := ∃ T, PlainAttrs T ∧ Slot T m id ∧ typeOf (.builtin id) = pure (.type "method_descriptor") ∧ HasT X T x H
def tMth (X : Cx) (m : Str) (to : TE) (t : TA) : TE := fun σ H Q => to σ H fun x H1 => ∃ id, HasM X m id x H1 ∧ t σ H1 fun xs H2 => wMt X id x xs H2 Q
theorem pe_mth {o e : Expr} {es : List Expr} {m : Str} {ap cp : Pos} {to : TE} {t : TA} (ho : PE X o to) (ha : PA X (e :: es) t) (hb : attributeBase o m X.env (eval o X.env) = eval o X.env)
    (hf : ((backTo cp (starEach (e :: es) X.env)).all (fun x => !x.1) && (backToKw cp (keywordEach [] X.env)).all (fun x => x.1.isSome) && decide ((e :: es).length + ([] : List Keyword).length + (if ([] : List Keyword).isEmpty then 0 else 1) < 30)) = true)
    (hl : (ap.endLine == cp.line) = true) (hs : starEach (e :: es) X.env = (false, eval e X.env) :: starEach es X.env) (hp : (backTo cp (starEach es X.env)).any (·.1) = false) : PE X (.Call (.Attribute o m ap) (e :: es) [] cp) (tMth X m to t) := by
  refine ⟨fun pins s σ H Q J h => ?_⟩
  refine wpAny_Call_method_late hb hf hl rfl (thn (ho.run pins s σ H _ J h) fun v s1 ⟨x, H1, J1, r1, id, ⟨T, g1, g2, g3, g4⟩, q1⟩ => ?_)
  obtain ⟨ty, nd⟩ := g4 pins s1 σ v J1 r1
  refine ⟨T, id, g1, g2, g3, ty, nd, ?_⟩
  have all := ha.run cp pins s1 σ H1 _ J1 q1
  rw [hs] at all ⊢
  refine Calls.callWith_builtin (by show (false || (backTo cp (starEach es X.env)).any (·.1)) = false; rw [hp]; rfl) (Calls.evalArgs_plain ?_)
  exact thn all fun us s2 ⟨vs, H2, J2, r2, q2⟩ => q2 pins s2 σ v us J2 r1 r2
end
theorem strsD_V {K : PySem.W.Frag} {F : Hp} : ∀ {ds : List D} {ss : List Str} {vs : List V}, strsD ds = some ss → DDs K F vs ds → vs = ss.map V.str
  | [], _, _, e, .nil => by
    cases e
    rfl
  | .str x :: r, ss, _, e, .cons h t => by
    have e : (strsD r).map (x :: ·) = some ss := e
    cases q : strsD r with
    | none =>
      rw [q] at e
      cases e
    | some ms =>
      rw [q] at e
      cases e
      cases h
      rw [strsD_V q t]
      rfl
theorem DDs.strs {K : PySem.W.Frag} {F : Hp} : ∀ ss : List Str, DDs K F (ss.map V.str) (ss.map PyData.str)
  | [] => .nil
  | s :: r => .cons (.str s) (DDs.strs r)
theorem indD_spec {x : D} : ∀ {ys : List D} {n j : Nat}, indD x n ys = some j → n ≤ j ∧ ∃ z, ys[j - n]? = some z ∧ PyData.eqv z x = true ∧ ∀ (m : Nat) (z' : D), m < j - n → ys[m]? = some z' → PyData.eqv z' x = false
  | y :: ys, n, j, h => by
    unfold indD at h
    split at h
    · rename_i e
      cases h
      refine ⟨Nat.le_refl _, y, by simp, e, fun m z' hm => by omega⟩
    · rename_i e
      obtain ⟨h1, z, h2, h3, h4⟩ := indD_spec h
      have e1 : j - n = (j - (n + 1)) + 1 := by omega
      refine ⟨by omega, z, by rw [e1]; simpa using h2, h3, fun m z' hm hz => ?_⟩
      cases m with
      | zero =>
        simp at hz
        subst hz
        simpa using e
      | succ m => exact h4 m z' (by omega) (by simpa using hz)
section
variable {X : Cx} {F H F1 H1 : Hp} {W : Nat → Hp → Prop} {Q : VK}
/-- what a thing that has the method is -/
def mthId : Mth → D → Option String
  | .get, .dict _ => some "dict.get"
  | .index, .list _ => some "list.index"
  | .join, .str _ => some "str.join"
  | .split, .str _ => some "str.split"
  | .partition, .str _ => some "str.partition"
  | .count, .list _ => some "list.count"
  | _, _ => none
theorem has_m {m : Mth} {x : D} {v : V} {id : String} (s : Same F H) (hx : TD X.K F H v x) (hd : ∀ es, x = .dict es → nscr es = true ∨ ∃ es', es = mkD :: es') (h : mthId m x = some id) : HasM X (mthN m) id v H := by
  cases m with
  | get =>
    cases x <;> first | (cases h; done) | skip
    rename_i es
    cases h
    rcases hd es rfl with g | ⟨es', rfl⟩
    · obtain ⟨a, l, rfl, r, _⟩ := hx.dic s g
      exact ⟨"dict", PySem.F.plainAttrs_dict, PySem.F.slot_dict_get, PySem.F.type_dict_get, .ty (.inr (.inr (.inl ⟨rfl, .inl ⟨l, r⟩⟩)))⟩
    · obtain ⟨a, xs, ep, rfl, r, _⟩ := hx.dnn s
      refine ⟨"dict", PySem.F.plainAttrs_dict, PySem.F.slot_dict_get, PySem.F.type_dict_get, fun pins s σ v I rv => ?_⟩
      obtain rfl : v = Value.ref a := rv
      exact dN_noDict I r
  | index =>
    cases x <;> first | (cases h; done) | skip
    · cases h
      obtain ⟨a, vs, rfl, r, t⟩ := hx.lst s
      exact ⟨"list", PySem.F.plainAttrs_list, PySem.F.slot_list_index, PySem.F.type_list_index, .ty (.inl ⟨rfl, vs, .inl r⟩)⟩
  | count =>
    cases x <;> first | (cases h; done) | skip
    · cases h
      obtain ⟨a, vs, rfl, r, t⟩ := hx.lst s
      exact ⟨"list", PySem.F.plainAttrs_list, PySem.F.slot_list_count, PySem.F.type_list_count, .ty (.inl ⟨rfl, vs, .inl r⟩)⟩
  | join =>
    cases x <;> first | (cases h; done) | skip
    cases h
    obtain rfl := hx.str
    exact ⟨"str", PySem.F.plainAttrs_str, PySem.F.slot_str_join, PySem.F.type_str_join, .ty rfl⟩
  | split =>
    cases x <;> first | (cases h; done) | skip
    cases h
    obtain rfl := hx.str
    exact ⟨"str", PySem.F.plainAttrs_str, PySem.F.slot_str_split, PySem.F.type_str_split, .ty rfl⟩
  | partition =>
    cases x <;> first | (cases h; done) | skip
    cases h
    obtain rfl := hx.str
    exact ⟨"str", PySem.F.plainAttrs_str, PySem.F.slot_str_partition, PySem.F.type_str_partition, .ty rfl⟩
theorem getK_old {k d : D} {es : List (D × D)} (hm : ¬ ∃ es', es = mkD :: es') : getK k d es = Out.guard (keyD k && nscr es) (.ok ((lookD k es).getD d)) := by
  unfold getK
  split
  · exact absurd ⟨_, rfl⟩ hm
  · rfl
theorem get_ok {es : List (D × D)} {k dd : D} {v u z : V} {more : List V} (hu : X.A.units + 66 < cLine) (s : Same F H) (hx : TD X.K F H v (.dict es)) (hk : DD X.K F u k) (hz : DD X.K F z dd) (hm : (more = [] ∧ z = .non) ∨ more = [z])
    (h : Wn F H W (RV1 X.K false Q) (getK k dd es)) : wMt X "dict.get" v (u :: more) H Q := by
  by_cases he : ∃ es', es = mkD :: es'
  · obtain ⟨es', rfl⟩ := he
    obtain ⟨g, h⟩ := Wn.guard (show Wn F H W (RV1 X.K false Q) (Out.guard (tkD k) (.ok ((lookD k es').getD dd))) from h)
    obtain ⟨a, xs, ep, rfl, r, t⟩ := hx.dnn s
    obtain ⟨ds, _, rfl, _⟩ := tkD_of g
    intro pins s' σ v' us I r1 r2
    obtain rfl : v' = Value.ref a := r1
    cases hk with
    | @tup b _ _ sq tt =>
      have hk : DD X.K F (.ref b) (.tuple ds) := .tup sq tt
      cases r2 with
      | @cons _ u0 _ us' ra rb =>
        obtain rfl : u0 = Value.ref b := ra
        have fin : ∀ (w : V) (w' : Value) (s'' : Shared), Inv X pins σ H s'' → RelV w w' → DD X.K F w ((lookD (.tuple ds) es').getD dd) → EP X pins σ Q w' s'' := fun w w' s'' I' rw' dw => ⟨w, H, I', rw', Wn.here (pk := false) s h dw⟩
        rcases hm with ⟨rfl, rfl⟩ | rfl
        · cases rb
          exact dn_getD (dv := .non) (.inl ⟨rfl, rfl⟩) (by omega) I s r t g hk rfl hz fin
        · cases rb with
          | cons rc rd =>
            cases rd
            exact dn_getD (.inr rfl) (by omega) I s r t g hk rc hz fin
  · rw [getK_old he] at h
    obtain ⟨g, h⟩ := Wn.guard (o := .ok _) h
    rw [Bool.and_eq_true] at g
    obtain ⟨g, gs⟩ := g
    obtain ⟨j, hj⟩ := keyD_of g
    obtain ⟨a, l, rfl, r, t⟩ := hx.dic s gs
    obtain rfl := keyOf_V hk hj
    have z0 := lookD_val hj t
    intro pins s' σ v' us I r1 r2
    obtain rfl : v' = Value.ref a := r1
    have fin : ∀ (w' : Value) (s'' : Shared), Inv X pins σ H s'' → RelV ((valV l j).getD z) w' → EP X pins σ Q w' s'' := fun w' s'' I' rw' => by
      refine ⟨_, H, I', rw', Wn.here (pk := false) s h ?_⟩
      cases lx : lookD k es with
      | none =>
        rw [lx] at z0
        have z0 : valV l j = none := z0
        rw [z0]
        exact hz
      | some y =>
        rw [lx] at z0
        obtain ⟨w, z1, z2⟩ := z0
        rw [z1]
        exact z2
    cases r2 with
    | @cons _ u0 _ us' ra rb =>
      rcases hm with ⟨rfl, rfl⟩ | rfl
      · cases rb
        exact d_get1 (by omega) I (DGet.k r) ra fin
      · cases rb with
        | cons rc rd =>
          cases rd
          exact d_get2 (by omega) I (DGet.k r) ra rc fin
theorem mth_ok {m : Mth} {x : D} {v : V} {ds : List D} {vs : List V} {id : String} (hu : X.A.units + 66 < cLine) (s : Same F H) (hx : TD X.K F H v x) (ha : DDs X.K F vs ds) (hi : mthId m x = some id) (h : Wn F H W (RV1 X.K false Q) (mth m x ds)) : wMt X id v vs H Q := by
  cases m with
  | get =>
    cases x <;> first | (cases hi; done) | skip
    rename_i es
    cases hi
    cases ha with
    | nil => exact h.elim
    | @cons u us k ks hk t =>
      cases t with
      | nil => exact get_ok (z := .non) (more := []) hu s hx hk .non (.inl ⟨rfl, rfl⟩) h
      | @cons u2 us2 k2 ks2 hk2 t =>
        cases t with
        | nil => exact get_ok hu s hx hk hk2 (.inr rfl) h
        | cons _ _ => exact h.elim
  | index =>
    cases x <;> first | (cases hi; done) | skip
    · rename_i xs
      cases hi
      cases ha with
      | nil => exact h.elim
      | @cons u us k ks hk t =>
        cases t with
        | cons _ _ => exact h.elim
        | nil =>
          obtain ⟨g, h⟩ := Wn.guard (show Wn F H W (RV1 X.K false Q) (Out.guard (shp k && shp (.list xs)) ((Out.ofOpt (indD k 0 xs)).map fun n => PyData.int (n : Nat))) from h)
          rw [Bool.and_eq_true] at g
          have h := Wn.map h
          cases q : indD k 0 xs with
          | none =>
            rw [q] at h
            exact h.elim
          | some j =>
            rw [q] at h
            obtain ⟨_, z, z1, z2, z3⟩ := indD_spec q
            obtain ⟨a, vs, rfl, r, tt⟩ := hx.lst s
            refine MtR.w (mt_indexD (by omega)) ⟨a, u, k, xs, j, z, rfl, rfl, (hx.dd s).dp (shp_lay g.2), (hk.mono s).dp (shp_lay g.1), g.2, g.1, by simpa using z1, z2, fun m z' hm hz => z3 m z' (by simpa using hm) hz, ?_⟩
            exact h F H (Ext.refl s) _ (.inl (.int _)) fun _ => .int _
  | count =>
    cases x <;> first | (cases hi; done) | skip
    · rename_i xs
      cases hi
      cases ha with
      | nil => exact h.elim
      | @cons u us k ks hk t =>
        cases t with
        | cons _ _ => exact h.elim
        | nil =>
          obtain ⟨g, h⟩ := Wn.guard (show Wn F H W (RV1 X.K false Q) (Out.guard (shp k && shp (.list xs)) (.ok (.int ((xs.countP fun y => PyData.eqv y k : Nat) : Int)))) from h)
          rw [Bool.and_eq_true] at g
          exact MtR.w (mt_countL (by omega)) ⟨u, k, xs, rfl, (hx.dd s).dp (shp_lay g.2), (hk.mono s).dp (shp_lay g.1), g.2, g.1, Wn.here (pk := false) s h (.int _)⟩
  | join =>
    cases x <;> first | (cases hi; done) | skip
    rename_i a
    cases hi
    obtain rfl := hx.str
    cases ha with
    | nil => exact h.elim
    | @cons u us k ks hk t =>
      cases t with
      | cons _ _ => cases k <;> exact h.elim
      | nil =>
        cases k with
        | list xs =>
          have h : Wn F H W (RV1 X.K false Q) (match strsD xs with
            | some ss => Out.guard (decide ((ss.map (·.length)).sum + ss.length * a.length ≤ 1000000)) (.ok (.str (Txt.join a ss)))
            | none => .bad) := h
          cases q : strsD xs with
          | none =>
            rw [q] at h
            exact h.elim
          | some ss =>
            rw [q] at h
            obtain ⟨g, h⟩ := Wn.guard (o := .ok _) h
            cases hk with
            | @lst p vs _ r tt =>
              have ev := strsD_V q tt
              subst ev
              exact MtR.w mt_join ⟨a, p, ss, rfl, rfl, .inl (.inl (Same.rd s r)), Nat.le_trans (of_decide_eq_true g) (by decide), Wn.here (pk := false) s h (.str _)⟩
        | _ => exact h.elim
  | split =>
    cases x <;> first | (cases hi; done) | skip
    rename_i a
    cases hi
    obtain rfl := hx.str
    cases ha with
    | nil => exact h.elim
    | @cons u us k ks hk t =>
      cases t with
      | cons _ _ => cases k <;> exact h.elim
      | nil =>
        cases k with
        | str b =>
          cases hk
          obtain ⟨g, h⟩ := Wn.guard (o := .ok _) (show Wn F H W (RV1 X.K false Q) (Out.guard (!(b.length == 0) && decide (a.length ≤ 1000000)) (.ok (.list ((Txt.split a b).map .str)))) from h)
          simp only [Bool.and_eq_true, Bool.not_eq_true', decide_eq_true_eq] at g
          refine MtR.w mt_split ⟨a, b, rfl, rfl, g.1, ?_, fun p np => Wn.newL (pk := false) s h (DDs.strs _) np⟩
          have := g.2
          rw [sizeLine_eq]
          omega
        | _ => exact h.elim
  | partition =>
    cases x <;> first | (cases hi; done) | skip
    rename_i a
    cases hi
    obtain rfl := hx.str
    cases ha with
    | nil => exact h.elim
    | @cons u us k ks hk t =>
      cases t with
      | cons _ _ => cases k <;> exact h.elim
      | nil =>
        cases k with
        | str b =>
          cases hk
          obtain ⟨g, h⟩ := Wn.guard (o := .ok _) (show Wn F H W (RV1 X.K false Q) (Out.guard (!(b.length == 0) && decide (a.length ≤ 1000000)) (.ok (.tuple [.str (Txt.partition a b).1, .str (Txt.partition a b).2.1, .str (Txt.partition a b).2.2]))) from h)
          simp only [Bool.and_eq_true, Bool.not_eq_true', decide_eq_true_eq] at g
          refine MtR.w mt_partition ⟨a, b, rfl, rfl, g.1, ?_, fun p np => Wn.newT (pk := false) s h (.cons (.str _) (.cons (.str _) (.cons (.str _) .nil))) np⟩
          have := g.2
          rw [sizeLine_eq]
          omega
        | _ => exact h.elim
theorem mth_noid {m : Mth} {x : D} (h : mthId m x = none) (ds : List D) : mth m x ds = .bad := by
  cases m <;> cases x <;> first | rfl | (cases h; done) | skip
  all_goals (cases ds with
    | nil => rfl
    | cons d ds => cases ds <;> rfl)
theorem getK_dict {m : Mth} {es : List (D × D)} {ds : List D} (h : mth m (.dict es) ds ≠ .bad) : nscr es = true ∨ ∃ es', es = mkD :: es' := by
  have key : ∀ k d, getK k d es ≠ .bad → nscr es = true ∨ ∃ es', es = mkD :: es' := fun k d h => by
    by_cases hm : ∃ es', es = mkD :: es'
    · exact .inr hm
    · rw [getK_old hm] at h
      cases g : nscr es with
      | true => exact .inl rfl
      | false =>
        rw [g, Bool.and_false] at h
        exact absurd rfl h
  cases m <;> first | (exact absurd rfl h) | skip
  · cases ds with
    | nil => exact absurd rfl h
    | cons k ds =>
      cases ds with
      | nil => exact key _ _ h
      | cons d ds =>
        cases ds with
        | nil => exact key _ _ h
        | cons _ _ => exact absurd rfl h
end
section
variable {Γ : Gm} {Φ : Nat → List D → Out D} {n : Nat} {W : L2.St → Nat → Hp → Prop} {N : List Str} {sc : Scope} {X : Cx} {pos : Pos}
theorem chks_all {Γ : Gm} {N : List Str} {sc : Scope} {env : Env} {cp : Pos} : ∀ {cs : CEs} {es : List Expr}, chks Γ N sc cs es = true → (backTo cp (starEach es env)).all (fun x => !x.1) = true
  | .nil, [], _ => rfl
  | .cons c cs, e :: es, h => by
    simp only [chks, Bool.and_eq_true] at h
    rw [nst_eq h.2.2.1]
    show (!false && (backTo cp (starEach es env)).all (fun x => !x.1)) = true
    rw [chks_all h.2.2.2]
    rfl
  | .nil, _ :: _, h => by simp [chks] at h
  | .cons _ _, [], h => by simp [chks] at h
theorem se_mth {m : Mth} {ca : CE} {cs : CEs} {o e : Expr} {es : List Expr} {ap cp : Pos} (k : Cok Γ Φ n W N sc X) (ho : SE Φ W X ca o) (ha : SA Φ W X cs (e :: es)) (hc : chks Γ N sc cs (e :: es) = true) (hb : atB o = true) (hl : (ap.endLine == cp.line) = true) (h5 : es.length ≤ 5) :
    SE Φ W X (.mth m ca cs) (.Call (.Attribute o (mthN m) ap) (e :: es) [] cp) := fun H0 S σ F H Q r hw => by
  have nst : nstB e = true := by
    cases cs with
    | nil => simp [chks] at hc
    | cons c cs =>
      simp only [chks, Bool.and_eq_true] at hc
      exact hc.2.2.1
  have hpl : (backTo cp (starEach es X.env)).any (·.1) = false := by
    cases cs with
    | nil => simp [chks] at hc
    | cons c cs =>
      simp only [chks, Bool.and_eq_true] at hc
      exact chks_any hc.2.2.2
  have few : ((backTo cp (starEach (e :: es) X.env)).all (fun x => !x.1) && (backToKw cp (keywordEach [] X.env)).all (fun x => x.1.isSome) && decide ((e :: es).length + ([] : List Keyword).length + (if ([] : List Keyword).isEmpty then 0 else 1) < 30)) = true := by
    rw [chks_all hc]
    have : (e :: es).length + ([] : List Keyword).length + (if ([] : List Keyword).isEmpty then 0 else 1) < 30 := by
      simp
      omega
    rw [decide_eq_true this]
    rfl
  refine PE.w (pe_mth pe_w pa_w (at_base hb _ _ _) few hl (nst_eq nst es X.env) hpl) ?_
  refine one ho r hw fun x v F1 H1 e1 s1 tv _ h1 => ?_
  cases qa : evs Φ cs S with
  | bad =>
    rw [qa] at h1
    exact h1.elim
  | exc j =>
    rw [qa] at h1
    exact h1.elim
  | ok ds =>
    rw [qa] at h1
    have h1 : Wn F1 H1 (W σ) (RV1 X.K false Q) (mth m x ds) := h1
    cases hi : mthId m x with
    | none =>
      rw [mth_noid hi] at h1
      exact h1.elim
    | some id =>
      have nb : mth m x ds ≠ .bad := fun z => by
        rw [z] at h1
        exact h1
      refine ⟨id, has_m s1 tv (fun es' ee => ?_) hi, ?_⟩
      · subst ee
        exact getK_dict nb
      · refine ha H0 S σ F1 H1 _ (r.ext e1) ?_
        rw [qa]
        intro F2 H2 e2 vs t
        exact mth_ok k.u e2.fh (tv.ext e2) t hi (h1.ext e2)
theorem chkK_key : ∀ {ks : List D} {kes : List (Option Expr)}, chkK ks kes = true → kes.all (·.isSome) = true ∧ kes.length = ks.length
  | [], [], _ => ⟨rfl, rfl⟩
  | d :: ds, some (.Constant c _ _) :: es, h => by
    have h : (constIs c d && chkK ds es) = true := h
    rw [Bool.and_eq_true] at h
    obtain ⟨h1, h2⟩ := chkK_key h.2
    exact ⟨by rw [List.all_cons, h1]; rfl, by rw [List.length_cons, List.length_cons, h2]⟩
  | [], _ :: _, h => by simp [chkK] at h
  | d :: ds, [], h => by simp [chkK] at h
  | d :: ds, none :: es, h => by simp [chkK] at h
  | d :: ds, some e :: es, h => by
    cases e <;> first | (simp [chkK] at h; done) | skip
    rename_i c j p
    have h : (constIs c d && chkK ds es) = true := h
    rw [Bool.and_eq_true] at h
    obtain ⟨h1, h2⟩ := chkK_key h.2
    exact ⟨by rw [List.all_cons, h1]; rfl, by rw [List.length_cons, List.length_cons, h2]⟩
/-- the readings of the pairs of a written dict -/
def trsOf (X : Cx) : List (Option Expr) → List Expr → List (TE × TE)
  | some k :: ks, v :: vs => (wE X k, wE X v) :: trsOf X ks vs
  | _, _ => []
theorem pps_of {p : Pos} : ∀ {kes : List (Option Expr)} {ves : List Expr}, kes.all (·.isSome) = true → kes.length = ves.length → PPs X p kes ves (trsOf X kes ves)
  | [], [], _, _ => pps_nil
  | some k :: ks, v :: vs, h, e => pps_cons pe_w pe_w (pps_of (by simpa using h) (by simpa using e))
  | none :: ks, _, h, _ => by simp at h
  | [], _ :: _, _, e => by simp at e
  | some _ :: _, [], _, e => by simp at e
/-- each of them -/
def SEs (Φ : Nat → List D → Out D) (W : L2.St → Nat → Hp → Prop) (X : Cx) : CEs → List Expr → Prop
  | .nil, [] => True
  | .cons c cs, e :: es => SE Φ W X c e ∧ SEs Φ W X cs es
  | _, _ => False
theorem dsp_pairs {H0 : Hp} {S : St} {σ : L2.St} {sc : Scope} {R : List D → Hp → Hp → Prop} {Z : List (V × V) → Hp → Prop} : ∀ {ks : List D} {cs : CEs} {kes : List (Option Expr)} {ves : List Expr} {F H : Hp}, SEs Φ W X cs ves → chkK ks kes = true → chks Γ N sc cs ves = true → ks.length = ves.length → ks.all keyD = true → Rp X.K H0 S σ F H →
    Wn F H (W σ) R (evs Φ cs S) → (∀ ds F2 H2 (m : List (Key × V)), Ext F H F2 H2 → R ds F2 H2 → ks.length = ds.length → DDk X.K F2 (m.map fun p => (kV p.1, p.2)) (ks.zip ds) → m.length = ks.length → Z (m.map fun p => (kV p.1, p.2)) H2) → tPairs (trsOf X kes ves) σ H Z
  | [], .nil, [], [], F, H, hse, hk, hv, hl, ha, r, hw, hz => hz [] F H [] (Ext.refl r.fh) (hw F H (Ext.refl r.fh)) rfl .nil rfl
  | d :: ds, .cons c cs, some (.Constant cc j p) :: kes, v :: ves, F, H, hse, hk, hv, hl, ha, r, hw, hz => by
    have hk : (constIs cc d && chkK ds kes) = true := hk
    rw [Bool.and_eq_true] at hk
    have hv : (chk Γ N sc c v && (!isPk c && (nstB v && chks Γ N sc cs ves))) = true := hv
    simp only [Bool.and_eq_true] at hv
    rw [List.all_cons, Bool.and_eq_true] at ha
    obtain ⟨key, hkey⟩ := keyD_of ha.1
    have pkc : isPk c = false := by
      cases q : isPk c with
      | false => rfl
      | true =>
        rw [q] at hv
        exact absurd hv.2.1 (by decide)
    have hw : Wn F H (W σ) R ((ev Φ c S).bind fun x => (evs Φ cs S).bind fun xs => .ok (x :: xs)) := hw
    refine se_con (Φ := Φ) (W := W) hk.1 H0 S σ F H _ r ?_
    intro F1 H1 e1 kv tk dk
    obtain rfl := keyOf_V (dk rfl) hkey
    refine hse.1 H0 S σ F1 H1 _ (r.ext e1) ((Wn.bind (hw.ext e1)).imp fun x F2 H2 _ e2 h2 u tu du => ?_)
    refine dsp_pairs (ks := ds) hse.2 hk.2 hv.2.2.2 (by simpa using hl) ha.2 ((r.ext e1).ext e2) h2.bind fun ds' F3 H3 m e3 h3 l3 t3 l4 => ?_
    refine hz (x :: ds') F3 H3 ((key, u) :: m) ((e1.trans e2).trans e3) (h3 F3 H3 (Ext.refl e3.fh)) (by simp [l3]) ?_ (by simp [l4])
    exact .cons (keyOf_DD hkey) ((du pkc).mono e3.ff) t3
  | [], cs, _ :: _, _, F, H, hse, hk, hv, hl, ha, r, hw, hz => by simp [chkK] at hk
  | [], .cons _ _, [], [], F, H, hse, hk, hv, hl, ha, r, hw, hz => by simp [chks] at hv
  | [], cs, [], _ :: _, F, H, hse, hk, hv, hl, ha, r, hw, hz => by simp at hl
  | d :: ds, cs, [], _, F, H, hse, hk, hv, hl, ha, r, hw, hz => by simp [chkK] at hk
  | d :: ds, cs, _, [], F, H, hse, hk, hv, hl, ha, r, hw, hz => by simp at hl
  | d :: ds, .nil, _, _ :: _, F, H, hse, hk, hv, hl, ha, r, hw, hz => by simp [chks] at hv
  | d :: ds, cs, none :: _, _, F, H, hse, hk, hv, hl, ha, r, hw, hz => by simp [chkK] at hk
theorem chks_len {Γ : Gm} {N : List Str} {sc : Scope} {S : St} : ∀ {cs : CEs} {es : List Expr} {ds : List D}, chks Γ N sc cs es = true → evs Φ cs S = .ok ds → ds.length = es.length
  | .nil, [], ds, _, h => by
    cases h
    rfl
  | .cons c cs, e :: es, ds, h, g => by
    simp only [chks, Bool.and_eq_true] at h
    have g : ((ev Φ c S).bind fun x => (evs Φ cs S).bind fun xs => .ok (x :: xs)) = .ok ds := g
    cases q1 : ev Φ c S <;> rw [q1] at g <;> first | (cases g; done) | skip
    cases q2 : evs Φ cs S <;> rw [q2] at g <;> first | (cases g; done) | skip
    cases g
    rw [List.length_cons, List.length_cons, chks_len h.2.2.2 q2]
  | .nil, _ :: _, _, h, _ => by simp [chks] at h
  | .cons _ _, [], _, h, _ => by simp [chks] at h
/-- a written dict: its object p, not frozen yet -/
theorem dsp_any {ks : List D} {cs : CEs} {kes : List (Option Expr)} {ves : List Expr} {sc : Scope} {H0 : Hp} {S : St} {σ : L2.St} {F H : Hp} {Q : VK} {ds : List D} (hse : SEs Φ W X cs ves) (hk : chkK ks kes = true) (hv : chks Γ N sc cs ves = true) (r : Rp X.K H0 S σ F H)
    (he : evs Φ cs S = .ok ds) (g : (decide (ks.length = ds.length) && (ks.all keyD && (!ks.isEmpty && decide (ks.length ≤ 15)))) = true)
    (hq : ∀ p F2 H2 (l : List (Key × V)), H p = none → F2 p = none → H2 p = some (.dK []) → Same F F2 → Same H H2 → Same F2 H2 → (∀ b o, F2 b = some o → F b = some o ∨ H b = none) → DDk X.K F2 (l.map fun q => (kV q.1, q.2)) (putAllD [] (ks.zip ds)) → Q (.ref p) (upd H2 p (.dK l))) :
    wE X (.Dict kes ves pos) σ H Q := by
  simp only [Bool.and_eq_true, decide_eq_true_eq, Bool.not_eq_true'] at g
  obtain ⟨g1, g2, g3, g4⟩ := g
  obtain ⟨k1, k2⟩ := chkK_key hk
  have dl := chks_len hv he
  have hl : kes.length = ves.length := by omega
  have hne : kes ≠ [] := fun z => by
    rw [z] at k2
    cases ks with
    | nil => cases g3
    | cons _ _ => simp at k2
  refine PE.w (pe_disp (pps_of k1 hl) k1 hl hne (by omega)) ?_
  intro p np
  have e1 : Ext F H F (upd H p (.dK [])) := Ext.lay r.fh np
  have hw : Wn F (upd H p (.dK [])) (W σ) (fun ds' F' H' => ds' = ds) (evs Φ cs S) := by
    rw [he]
    exact fun _ _ _ => rfl
  refine dsp_pairs hse hk hv (by omega) g2 (r.ext e1) hw fun ds' F2 H2 m e2 ed l2 t2 lm => ?_
  subst ed
  have hp2 : H2 p = some (.dK []) := e2.hh p _ upd_same
  have nF2 : F2 p = none := e2.notF (r.fh.free np) upd_same
  refine ⟨hp2, m, rfl, by omega, hq p F2 H2 (mergeK [] m) np nF2 hp2 e2.ff (e1.hh.trans e2.hh) e2.fh (fun b o z => ?_) (putAll_V (l := []) t2 .nil List.nodup_nil)⟩
  rcases e2.nw b o z with q | q
  · exact .inl q
  · right
    by_cases hb : b = p
    · rw [hb]
      exact np
    · rw [upd_ne hb] at q
      exact q
theorem se_dsp {ks : List D} {cs : CEs} {kes : List (Option Expr)} {ves : List Expr} {sc : Scope} (hse : SEs Φ W X cs ves) (hk : chkK ks kes = true) (hv : chks Γ N sc cs ves = true) : SE Φ W X (.dsp ks cs) (.Dict kes ves pos) := fun H0 S σ F H Q r hw => by
  have hw : Wn F H (W σ) (RV1 X.K false Q) ((evs Φ cs S).calm.bind fun ds => dspD ks ds) := hw
  cases qa : evs Φ cs S with
  | bad =>
    rw [qa] at hw
    exact hw.elim
  | exc j =>
    rw [qa] at hw
    exact hw.elim
  | ok ds =>
    rw [qa] at hw
    obtain ⟨g, hw⟩ := Wn.guard (show Wn F H (W σ) (RV1 X.K false Q) (Out.guard _ (.ok _)) from hw)
    refine dsp_any hse hk hv r qa g fun p F2 H2 l np nF2 hp2 ff hh fh nw t => ?_
    have e : Ext F H (upd F2 p (.dK l)) (upd H2 p (.dK l)) := by
      refine ⟨fun b o z => ?_, fun b o z => ?_, fun b o z => ?_, fun b o z => ?_⟩
      · rw [upd_ne (ne_of_none (ff b o z) nF2)]
        exact ff b o z
      · rw [upd_ne (ne_of_none z np)]
        exact hh b o z
      · by_cases hb : b = p
        · subst hb
          rw [upd_same] at z ⊢
          exact z
        · rw [upd_ne hb] at z ⊢
          exact fh b o z
      · by_cases hb : b = p
        · subst hb
          exact .inr np
        · rw [upd_ne hb] at z
          exact nw b o z
    have hd : DD X.K (upd F2 p (.dK l)) (.ref p) (.dict (putAllD [] (ks.zip ds))) := .dic ⟨l, upd_same, rfl⟩ (t.mono (same_upd nF2))
    exact hw _ _ e _ (.inl hd) fun _ => hd
end
end FL

set_option Elab.async false
set_option maxRecDepth 100000
set_option maxHeartbeats 4000000
/-! FLs9: the expressions' theorem. -/
namespace FL
open PySem PySem.Spec PyProof.Rows L2

section
variable {Γ : Gm} {Φ : Nat → List D → Out D} {n : Nat} {N : List Str}
/-- inversions of the checker -/
theorem chk_con {sc : Scope} {d : D} {e : Expr} (h : chk Γ N sc (.con d) e = true) : ∃ c j p, e = .Constant c j p ∧ constIs c d = true := by
  cases e <;> first | (cases h; done) | exact ⟨_, _, _, rfl, h⟩
theorem chk_glo {sc : Scope} {g : Nat} {d : D} {e : Expr} (h : chk Γ N sc (.glo g d) e = true) : ∃ x p, e = .Name x p ∧ Γ.gl g = some (x, d) ∧ glB sc x = true := by
  cases e <;> first | (cases h; done) | skip
  rename_i x p
  have h : (match Γ.gl g with
      | some (y, d') => decide (x = y) && (beqD d d' && glB sc x)
      | none => false) = true := h
  cases q : Γ.gl g with
  | none =>
    rw [q] at h
    cases h
  | some yd =>
    rw [q] at h
    obtain ⟨y, d'⟩ := yd
    simp only [Bool.and_eq_true, decide_eq_true_eq] at h
    obtain ⟨rfl, h2, h3⟩ := h
    have := beqD_eq h2
    subst this
    exact ⟨x, p, rfl, rfl, h3⟩
theorem chk_name {sc : Scope} {i : Nat} {e : Expr} {c : CE} (hc : c = .var i ∨ c = .pk i) (h : chk Γ N sc c e = true) : ∃ x p, e = .Name x p ∧ N[i]? = some x ∧ visB sc x = true ∧ ndB x = true := by
  rcases hc with rfl | rfl
  · cases e <;> first | (cases h; done) | skip
    rename_i x p
    have h : (decide (N[i]? = some x) && (visB sc x && ndB x)) = true := h
    simp only [Bool.and_eq_true, decide_eq_true_eq] at h
    exact ⟨x, p, rfl, h.1, h.2.1, h.2.2⟩
  · cases e <;> first | (cases h; done) | skip
    rename_i x p
    have h : (decide (N[i]? = some x) && (visB sc x && ndB x)) = true := h
    simp only [Bool.and_eq_true, decide_eq_true_eq] at h
    exact ⟨x, p, rfl, h.1, h.2.1, h.2.2⟩
theorem chk_call {sc : Scope} {f : Nat} {as : CEs} {e : Expr} (h : chk Γ N sc (.call f as) e = true) : ∃ x p a args pos, e = .Call (.Name x p) (a :: args) [] pos ∧ Γ.fn f = some x ∧ glB sc x = true ∧ chks Γ N sc as (a :: args) = true := by
  cases e <;> first | (cases h; done) | skip
  rename_i fn args kws pos
  cases fn <;> first | (cases h; done) | skip
  rename_i x p
  cases args with
  | nil => cases h
  | cons a args =>
    cases kws with
    | cons _ _ => cases h
    | nil =>
      have h : (match Γ.fn f with
        | some y => decide (x = y) && (glB sc x && chks Γ N sc as (a :: args))
        | none => false) = true := h
      cases q : Γ.fn f with
      | none =>
        rw [q] at h
        cases h
      | some y =>
        rw [q] at h
        simp only [Bool.and_eq_true, decide_eq_true_eq] at h
        obtain ⟨rfl, h2, h3⟩ := h
        exact ⟨x, p, a, args, pos, rfl, rfl, h2, h3⟩
theorem b1_arg {sc : Scope} {f : B1} {e a : Expr} (h : b1Arg sc f e = some a) :
    (∃ y p pos, b1Name f = some y ∧ e = .Call (.Name y p) [a] [] pos ∧ glB sc y = true ∧ nstB a = true) ∨
    (∃ y p p2 pos, b1Isi f = some y ∧ e = .Call (.Name "isinstance" p) [a, .Name y p2] [] pos ∧ glB sc "isinstance" = true ∧ glB sc y = true ∧ nstB a = true) ∨
    (∃ p p2 pos2 pos, f = .listrange ∧ e = .Call (.Name "list" p) [.Call (.Name "range" p2) [a] [] pos2] [] pos ∧ glB sc "list" = true ∧ glB sc "range" = true ∧ nstB a = true) ∨
    (∃ p ap cp pos, f = .sortedvals ∧ e = .Call (.Name "sorted" p) [.Call (.Attribute a "values" ap) [] [] cp] [] pos ∧ glB sc "sorted" = true ∧ atB a = true ∧ (ap.endLine == cp.line) = true) ∨
    (∃ p ap cp pos, f = .listvals ∧ e = .Call (.Name "list" p) [.Call (.Attribute a "values" ap) [] [] cp] [] pos ∧ glB sc "list" = true ∧ atB a = true ∧ (ap.endLine == cp.line) = true) ∨
    (∃ p p2 pos2 pos, f = .sortedset ∧ e = .Call (.Name "sorted" p) [.Call (.Name "set" p2) [a] [] pos2] [] pos ∧ glB sc "sorted" = true ∧ glB sc "set" = true ∧ nstB a = true) ∨
    (∃ p p2 pos2 pos, f = .lenset ∧ e = .Call (.Name "len" p) [.Call (.Name "set" p2) [a] [] pos2] [] pos ∧ glB sc "len" = true ∧ glB sc "set" = true ∧ nstB a = true) := by
  unfold b1Arg at h
  split at h
  · rename_i x p b pos
    split at h
    · rename_i y q
      split at h
      · rename_i g
        cases h
        simp only [Bool.and_eq_true, decide_eq_true_eq] at g
        obtain ⟨rfl, g2, g3⟩ := g
        exact .inl ⟨x, p, pos, q, rfl, g2, g3⟩
      · cases h
    · split at h
      · split at h
        · rename_i g
          cases h
          simp only [Bool.and_eq_true, decide_eq_true_eq] at g
          obtain ⟨rfl, rfl, g1, g2, g3⟩ := g
          exact .inr (.inr (.inr (.inl ⟨_, _, _, _, rfl, rfl, g1, g2, g3⟩)))
        · cases h
      · split at h
        · rename_i g
          cases h
          simp only [Bool.and_eq_true, decide_eq_true_eq] at g
          obtain ⟨rfl, rfl, g1, g2, g3⟩ := g
          exact .inr (.inr (.inr (.inr (.inl ⟨_, _, _, _, rfl, rfl, g1, g2, g3⟩))))
        · cases h
      · split at h
        · rename_i g
          cases h
          simp only [Bool.and_eq_true, decide_eq_true_eq] at g
          obtain ⟨rfl, rfl, g1, g2, g3⟩ := g
          exact .inr (.inr (.inr (.inr (.inr (.inr ⟨_, _, _, _, rfl, rfl, g1, g2, g3⟩)))))
        · cases h
      · split at h
        · rename_i g
          cases h
          simp only [Bool.and_eq_true, decide_eq_true_eq] at g
          obtain ⟨rfl, rfl, g1, g2, g3⟩ := g
          exact .inr (.inr (.inr (.inr (.inr (.inl ⟨_, _, _, _, rfl, rfl, g1, g2, g3⟩)))))
        · cases h
      · split at h
        · rename_i g
          cases h
          simp only [Bool.and_eq_true, decide_eq_true_eq] at g
          obtain ⟨rfl, rfl, g1, g2, g3⟩ := g
          exact .inr (.inr (.inl ⟨_, _, _, _, rfl, rfl, g1, g2, g3⟩))
        · cases h
      · cases h
  · rename_i x p b t p2 pos
    split at h
    · rename_i y q
      split at h
      · rename_i g
        cases h
        simp only [Bool.and_eq_true, decide_eq_true_eq] at g
        obtain ⟨rfl, rfl, g1, g2, g3⟩ := g
        exact .inr (.inl ⟨_, _, _, _, q, rfl, g1, g2, g3⟩)
      · cases h
    · cases h
  · cases h
theorem notPk {b : Bool} (h : (!b) = true) : b = false := by
  cases b
  · rfl
  · cases h

theorem chk_lc {sc : Scope} {it : CI} {tg : Tg} {t : CO} {el : CE} {e : Expr} (h : chk Γ N sc (.lc it tg t el) e = true) : ∃ elt te iter ifs scope pos, e = .ListComp elt [⟨te, iter, ifs, 0⟩] scope pos ∧ chki Γ N sc it iter = true ∧ tgIs N scope tg te = true ∧ itTg it te = true ∧
    blkC N sc scope (ownOf tg te) = true ∧ chkt Γ N (relS scope sc) t ifs = true ∧ chk Γ N (relS scope sc) el elt = true ∧ isPk el = false ∧ nsetB iter = true := by
  unfold chk at h
  split at h
  · simp only [Bool.and_eq_true, decide_eq_true_eq] at h
    obtain ⟨rfl, h1, ⟨h2, h2'⟩, h3, h4, h5, h6, h7⟩ := h
    exact ⟨_, _, _, _, _, _, rfl, h1, h2, h2', h3, h4, h5, notPk h6, h7⟩
  · cases h

mutual
theorem snd : ∀ (c : CE) {W : L2.St → Nat → Hp → Prop} {X : Cx} {sc : Scope} {e : Expr}, Cok Γ Φ n W N sc X → chk Γ N sc c e = true → SE Φ W X c e ∧ ST Φ W X c e
  | .con d, W, X, sc, e, k, h => by
    obtain ⟨c, j, p, rfl, h⟩ := chk_con h
    have z : SE Φ W X (.con d) (.Constant c j p) := se_con h
    exact ⟨z, st_plain z rfl⟩
  | .glo g d, W, X, sc, e, k, h => by
    obtain ⟨x, p, rfl, h1, h2⟩ := chk_glo h
    have z : SE Φ W X (.glo g d) (.Name x p) := se_glo k h1 h2
    exact ⟨z, st_plain z rfl⟩
  | .var i, W, X, sc, e, k, h => by
    obtain ⟨x, p, rfl, h1, h2, h3⟩ := chk_name (.inl rfl) h
    have z : SE Φ W X (.var i) (.Name x p) := se_var k h1 h2 h3
    exact ⟨z, st_plain z rfl⟩
  | .pk i, W, X, sc, e, k, h => by
    obtain ⟨x, p, rfl, h1, h2, h3⟩ := chk_name (.inr rfl) h
    have z : SE Φ W X (.pk i) (.Name x p) := se_pk k h1 h2 h3
    exact ⟨z, st_plain z rfl⟩
  | .call f as, W, X, sc, e, k, h => by
    obtain ⟨x, p, a, args, pos, rfl, h1, h2, h3⟩ := chk_call h
    have z : SE Φ W X (.call f as) (.Call (.Name x p) (a :: args) [] pos) := se_call k h1 h2 (sndA as k h3) h3
    exact ⟨z, st_plain z rfl⟩
  | .bin o a b, W, X, sc, e, k, h => by
    cases e <;> first | (cases h; done) | skip
    rename_i x op y p
    have h : (bopIs o op && (chk Γ N sc a x && chk Γ N sc b y)) = true := h
    simp only [Bool.and_eq_true] at h
    have := opOf_eq h.1
    subst this
    have z : SE Φ W X (.bin o a b) (.BinOp x (opOf o) y p) := se_bin (snd a k h.2.1).1 (snd b k h.2.2).1
    exact ⟨z, st_plain z rfl⟩
  | .neg a, W, X, sc, e, k, h => by
    cases e <;> first | (cases h; done) | skip
    rename_i op x p
    cases op <;> first | (cases h; done) | skip
    have z : SE Φ W X (.neg a) (.UnaryOp .USub x p) := se_neg (snd a k h).1
    exact ⟨z, st_plain z rfl⟩
  | .not a, W, X, sc, e, k, h => by
    cases e <;> first | (cases h; done) | skip
    rename_i op x p
    cases op <;> first | (cases h; done) | skip
    exact ⟨se_not (snd a k h).1, st_not (snd a k h).2⟩
  | .bool b as, W, X, sc, e, k, h => by
    cases e <;> first | (cases h; done) | skip
    rename_i op xs p
    have hb : op = bopP b ∧ chks' Γ N sc as xs = true := by
      cases op <;> cases b <;> first | (cases h; done) | exact ⟨rfl, h⟩
    obtain ⟨rfl, hb⟩ := hb
    obtain ⟨z1, z2⟩ := sndB as (b := b) k hb
    exact ⟨fun H0 S σ F H Q r hw => z1 p H0 S σ F H Q r hw, fun H0 S σ F H Q r hw pins s I => z2 p H0 S σ F H Q r hw _ pins s I⟩
  | .ite c a b, W, X, sc, e, k, h => by
    cases e <;> first | (cases h; done) | skip
    rename_i x y z p
    have h : (chk Γ N sc c x && (chk Γ N sc a y && (chk Γ N sc b z && (!isPk a && !isPk b)))) = true := h
    simp only [Bool.and_eq_true] at h
    exact ⟨se_ite (snd c k h.1).2 (snd a k h.2.1).1 (snd b k h.2.2.1).1 (notPk h.2.2.2.1) (notPk h.2.2.2.2), st_ite (snd c k h.1).2 (snd a k h.2.1).2 (snd b k h.2.2.1).2⟩
  | .cmp o a b, W, X, sc, e, k, h => by
    cases e <;> first | (cases h; done) | skip
    rename_i x ops ys p
    cases ops with
    | nil => cases h
    | cons op ops =>
      cases ops with
      | cons _ _ => cases ys <;> first | (cases h; done) | (rename_i q r; cases r <;> cases h)
      | nil =>
        cases ys with
        | nil => cases h
        | cons y ys =>
          cases ys with
          | cons _ _ => cases h
          | nil =>
            have h : (copIs o op && (chk Γ N sc a x && (chk Γ N sc b y && nsetB y))) = true := h
            simp only [Bool.and_eq_true] at h
            have := cmOf_eq h.1
            subst this
            exact ⟨se_cmp k (snd a k h.2.1).1 (snd b k h.2.2.1).1 (nset_marks h.2.2.2), st_cmp k (snd a k h.2.1).1 (snd b k h.2.2.1).1 (nset_marks h.2.2.2)⟩
  | .chn o q a b c, W, X, sc, e, k, h => by
    cases e <;> first | (cases h; done) | skip
    rename_i x ops ys p
    cases ops with
    | nil => cases h
    | cons op ops =>
      cases ops with
      | nil => cases ys <;> first | (cases h; done) | (rename_i q r; cases r <;> cases h)
      | cons op' ops =>
        cases ops with
        | cons _ _ => cases h
        | nil =>
          cases ys with
          | nil => cases h
          | cons y ys =>
            cases ys with
            | nil => cases h
            | cons z ys =>
              cases ys with
              | cons _ _ => cases h
              | nil =>
                have h : (copIs o op && (copIs q op' && (chk Γ N sc a x && (chk Γ N sc b y && (chk Γ N sc c z && nsetB z))))) = true := h
                simp only [Bool.and_eq_true] at h
                have := cmOf_eq h.1
                subst this
                have := cmOf_eq h.2.1
                subst this
                have m : lastMarks [cmOf o, cmOf q] [y, z] = false := nset_marks h.2.2.2.2.2
                exact ⟨se_chn k (snd a k h.2.2.1).1 (snd b k h.2.2.2.1).1 (snd c k h.2.2.2.2.1).1 m, st_chn k (snd a k h.2.2.1).1 (snd b k h.2.2.2.1).1 (snd c k h.2.2.2.2.1).1 m⟩
  | .isN yes a, W, X, sc, e, k, h => by
    have hi : ∃ x j p pos, e = .Compare x [if yes = true then .Is else .IsNot] [.Constant .none j p] pos ∧ chk Γ N sc a x = true := by
      unfold chk at h
      split at h
      · split at h
        · exact ⟨_, _, _, _, rfl, h⟩
        · exact ⟨_, _, _, _, rfl, h⟩
        · cases h
      · cases h
    obtain ⟨x, j, p, pos, rfl, h1⟩ := hi
    exact ⟨se_isN (snd a k h1).1, st_isN (snd a k h1).1⟩
  | .tup as, W, X, sc, e, k, h => by
    cases e <;> first | (cases h; done) | skip
    rename_i xs j p
    have z : SE Φ W X (.tup as) (.Tuple xs j p) := se_tup (sndA as k h)
    exact ⟨z, st_plain z rfl⟩
  | .lst as, W, X, sc, e, k, h => by
    cases e <;> first | (cases h; done) | skip
    rename_i xs p
    have z : SE Φ W X (.lst as) (.List xs p) := se_lst (sndA as k h)
    exact ⟨z, st_plain z rfl⟩
  | .idx a b, W, X, sc, e, k, h => by
    cases e <;> first | (cases h; done) | skip
    rename_i x y p
    have h : (chk Γ N sc a x && (chk Γ N sc b y && nslB y)) = true := h
    simp only [Bool.and_eq_true] at h
    have z : SE Φ W X (.idx a b) (.Subscript x y p) := se_idx k (snd a k h.1).1 (snd b k h.2.1).1 h.2.2
    exact ⟨z, st_plain z rfl⟩
  | .slc a lo hi, W, X, sc, e, k, h => by
    have hi' : ∃ x l h' p2 p, e = .Subscript x (.Slice l h' none p2) p ∧ chk Γ N sc a x = true ∧ chko Γ N sc lo l = true ∧ chko Γ N sc hi h' = true := by
      unfold chk at h
      split at h
      · simp only [Bool.and_eq_true] at h
        exact ⟨_, _, _, _, _, rfl, h.1, h.2.1, h.2.2⟩
      · cases h
    obtain ⟨x, l, h', p2, p, rfl, h1, h2, h3⟩ := hi'
    have z : SE Φ W X (.slc a lo hi) (.Subscript x (.Slice l h' none p2) p) := se_slc (snd a k h1).1 (sndO lo k h2) (sndO hi k h3)
    exact ⟨z, st_plain z rfl⟩
  | .rev a, W, X, sc, e, k, h => by
    have hi' : ∃ x j p1 p2 p3 p, e = .Subscript x (.Slice none none (some (.UnaryOp .USub (.Constant (.int 1) j p1) p2)) p3) p ∧ chk Γ N sc a x = true := by
      unfold chk at h
      split at h
      · simp only [Bool.and_eq_true, decide_eq_true_eq] at h
        obtain ⟨rfl, h⟩ := h
        exact ⟨_, _, _, _, _, _, rfl, h⟩
      · cases h
    obtain ⟨x, j, p1, p2, p3, p, rfl, h1⟩ := hi'
    have z : SE Φ W X (.rev a) (.Subscript x (.Slice none none (some (.UnaryOp .USub (.Constant (.int 1) j p1) p2)) p3) p) := se_rev (snd a k h1).1
    exact ⟨z, st_plain z rfl⟩
  | .lc it tg t el, W, X, sc, e, k, h => by
    obtain ⟨elt, te, iter, ifs, scope, pos, rfl, h1, h2, h2', h3, h4, h5, h6, h7⟩ := chk_lc h
    have z : SE Φ W X (.lc it tg t el) (.ListComp elt [⟨te, iter, ifs, 0⟩] scope pos) := se_lc k (sndI it k h1 h2') h2 h3 h7 h6 (fun X' k' => sndT t k' h4) (fun X' k' => (snd el k' h5).1)
    exact ⟨z, st_plain z rfl⟩
  | .b1 f a, W, X, sc, e, k, h => by
    have hi' : ∃ x, b1Arg sc f e = some x ∧ chk Γ N sc a x = true ∧ (b1Vals f && isPk a) = false := by
      unfold chk at h
      split at h
      · rw [Bool.and_eq_true] at h
        exact ⟨_, by assumption, h.1, notPk h.2⟩
      · cases h
    obtain ⟨x, h1, h2, hpk⟩ := hi'
    rcases b1_arg h1 with ⟨y, p, pos, q1, rfl, q2, q3⟩ | ⟨y, p, p2, pos, q1, rfl, q2, q3, q4⟩ | ⟨p, p2, pos2, pos, rfl, rfl, q2, q3, q4⟩ | ⟨p, ap, cp, pos, rfl, rfl, q2, q3, q4⟩ | ⟨p, ap, cp, pos, rfl, rfl, q2, q3, q4⟩ | ⟨p, p2, pos2, pos, rfl, rfl, q2, q3, q4⟩ | ⟨p, p2, pos2, pos, rfl, rfl, q2, q3, q4⟩
    · have z : SE Φ W X (.b1 f a) (.Call (.Name y p) [x] [] pos) := se_b1 k q1 q2 (snd a k h2).1 q3
      exact ⟨z, st_plain z rfl⟩
    · have z : SE Φ W X (.b1 f a) (.Call (.Name "isinstance" p) [x, .Name y p2] [] pos) := se_isi k q1 q2 q3 (snd a k h2).1 q4
      exact ⟨z, st_plain z rfl⟩
    · have z : SE Φ W X (.b1 .listrange a) (.Call (.Name "list" p) [.Call (.Name "range" p2) [x] [] pos2] [] pos) := se_listrange k q2 q3 (snd a k h2).1 q4
      exact ⟨z, st_plain z rfl⟩
    · have z : SE Φ W X (.b1 .sortedvals a) (.Call (.Name "sorted" p) [.Call (.Attribute x "values" ap) [] [] cp] [] pos) := se_sortedvals k q2 (snd a k h2).1 hpk q3 q4
      exact ⟨z, st_plain z rfl⟩
    · have z : SE Φ W X (.b1 .listvals a) (.Call (.Name "list" p) [.Call (.Attribute x "values" ap) [] [] cp] [] pos) := se_listvals k q2 (snd a k h2).1 hpk q3 q4
      exact ⟨z, st_plain z rfl⟩
    · have z : SE Φ W X (.b1 .sortedset a) (.Call (.Name "sorted" p) [.Call (.Name "set" p2) [x] [] pos2] [] pos) := se_sortedset k q2 q3 (snd a k h2).1 q4
      exact ⟨z, st_plain z rfl⟩
    · have z : SE Φ W X (.b1 .lenset a) (.Call (.Name "len" p) [.Call (.Name "set" p2) [x] [] pos2] [] pos) := se_lenset k q2 q3 (snd a k h2).1 q4
      exact ⟨z, st_plain z rfl⟩
  | .hole, W, X, sc, e, k, h => ⟨fun H0 S σ F H Q r hw => (show False from hw).elim, fun H0 S σ F H Q r hw => (show False from hw).elim⟩
  | .mth m a as, W, X, sc, e, k, h => by
    have hi' : ∃ x ap b bs cp, e = .Call (.Attribute x (mthN m) ap) (b :: bs) [] cp ∧ atB x = true ∧ (ap.endLine == cp.line) = true ∧ bs.length ≤ 5 ∧ chk Γ N sc a x = true ∧ chks Γ N sc as (b :: bs) = true := by
      unfold chk at h
      split at h
      · simp only [Bool.and_eq_true, decide_eq_true_eq] at h
        obtain ⟨rfl, h1, h2, h3, h4, h5⟩ := h
        exact ⟨_, _, _, _, _, rfl, h1, h2, h3, h4, h5⟩
      · cases h
    obtain ⟨x, ap, b, bs, cp, rfl, h1, h2, h3, h4, h5⟩ := hi'
    have z : SE Φ W X (.mth m a as) (.Call (.Attribute x (mthN m) ap) (b :: bs) [] cp) := se_mth k (snd a k h4).1 (sndA as k h5) h5 h1 h2 h3
    exact ⟨z, st_plain z rfl⟩
  | .dsp ks vs, W, X, sc, e, k, h => by
    have hi' : ∃ kes ves p, e = .Dict kes ves p ∧ chkK ks kes = true ∧ chks Γ N sc vs ves = true := by
      unfold chk at h
      split at h
      · simp only [Bool.and_eq_true] at h
        exact ⟨_, _, _, rfl, h.1, h.2⟩
      · cases h
    obtain ⟨kes, ves, p, rfl, h1, h2⟩ := hi'
    have z : SE Φ W X (.dsp ks vs) (.Dict kes ves p) := se_dsp (sndE vs k h2) h1 h2
    exact ⟨z, st_plain z rfl⟩
theorem sndE : ∀ (cs : CEs) {W : L2.St → Nat → Hp → Prop} {X : Cx} {sc : Scope} {es : List Expr}, Cok Γ Φ n W N sc X → chks Γ N sc cs es = true → SEs Φ W X cs es
  | .nil, W, X, sc, es, k, h => by
    cases es with
    | nil => exact trivial
    | cons e es => cases h
  | .cons c cs, W, X, sc, es, k, h => by
    cases es with
    | nil => cases h
    | cons e es =>
      have h : (chk Γ N sc c e && (!isPk c && (nstB e && chks Γ N sc cs es))) = true := h
      simp only [Bool.and_eq_true] at h
      exact ⟨(snd c k h.1).1, sndE cs k h.2.2.2⟩
theorem sndO : ∀ (c : CO) {W : L2.St → Nat → Hp → Prop} {X : Cx} {sc : Scope} {e : Option Expr}, Cok Γ Φ n W N sc X → chko Γ N sc c e = true → SO Φ W X c e
  | .no, W, X, sc, e, k, h => by
    cases e with
    | none => exact so_no
    | some e => cases h
  | .so a, W, X, sc, e, k, h => by
    cases e with
    | none => cases h
    | some e => exact so_so (snd a k h).1
theorem sndT : ∀ (c : CO) {X : Cx} {sc : Scope} {es : List Expr}, Cok Γ Φ n W0 N sc X → chkt Γ N sc c es = true → STs Φ X c es
  | .no, X, sc, es, k, h => by
    cases es with
    | nil => exact sts_no
    | cons e es => cases h
  | .so a, X, sc, es, k, h => by
    cases es with
    | nil => cases h
    | cons e es =>
      cases es with
      | nil => exact sts_so (snd a k h).2
      | cons _ _ => cases h
theorem sndA : ∀ (cs : CEs) {W : L2.St → Nat → Hp → Prop} {X : Cx} {sc : Scope} {es : List Expr}, Cok Γ Φ n W N sc X → chks Γ N sc cs es = true → SA Φ W X cs es
  | .nil, W, X, sc, es, k, h => by
    cases es with
    | nil => exact sa_nil
    | cons e es => cases h
  | .cons c cs, W, X, sc, es, k, h => by
    cases es with
    | nil => cases h
    | cons e es =>
      have h : (chk Γ N sc c e && (!isPk c && (nstB e && chks Γ N sc cs es))) = true := h
      simp only [Bool.and_eq_true] at h
      exact sa_cons (snd c k h.1).1 (sndA cs k h.2.2.2) (notPk h.2.1) h.2.2.1
theorem sndB : ∀ (cs : CEs) {b : Bool} {W : L2.St → Nat → Hp → Prop} {X : Cx} {sc : Scope} {es : List Expr}, Cok Γ Φ n W N sc X → chks' Γ N sc cs es = true → SB Φ W X b cs es
  | .nil, b, W, X, sc, es, k, h => sb_nil
  | .cons c cs, b, W, X, sc, es, k, h => by
    cases es with
    | nil => cases h
    | cons e es =>
      have h : (chk Γ N sc c e && (!isPk c && chks' Γ N sc cs es)) = true := h
      simp only [Bool.and_eq_true] at h
      have ih : SB Φ W X b cs es := sndB cs k h.2.2
      have z := snd c k h.1
      have h3 := h.2.2
      cases cs with
      | nil =>
        cases es with
        | nil => exact sb_one z.1 z.2 (notPk h.2.1)
        | cons _ _ => cases h3
      | cons c' cs =>
        cases es with
        | nil => cases h3
        | cons e' es => exact sb_cons z.1 z.2 (notPk h.2.1) ih
theorem sndI : ∀ (it : CI) {W : L2.St → Nat → Hp → Prop} {X : Cx} {sc : Scope} {e te : Expr}, Cok Γ Φ n W N sc X → chki Γ N sc it e = true → itTg it te = true → SI Φ W X it e te
  | .seq a, W, X, sc, e, te, k, h, ht => by
    have h : (chk Γ N sc a e && !isPk a) = true := h
    simp only [Bool.and_eq_true] at h
    exact si_seq (snd a k h.1).1 (notPk h.2)
  | .rng a, W, X, sc, e, te, k, h, ht => by
    have hi' : ∃ p b pos, e = .Call (.Name "range" p) [b] [] pos ∧ glB sc "range" = true ∧ chk Γ N sc a b = true ∧ nstB b = true := by
      unfold chki at h
      split at h
      · simp only [Bool.and_eq_true, decide_eq_true_eq] at h
        obtain ⟨rfl, h1, h2, h3⟩ := h
        exact ⟨_, _, _, rfl, h1, h2, h3⟩
      · cases h
    obtain ⟨p, b, pos, rfl, h1, h2, h3⟩ := hi'
    exact si_rng k h1 (snd a k h2).1 h3
  | .zip a b, W, X, sc, e, te, k, h, ht => by
    have hi' : ∃ p x y pos, e = .Call (.Name "zip" p) [x, y] [] pos ∧ glB sc "zip" = true ∧ chk Γ N sc a x = true ∧ chk Γ N sc b y = true ∧ nstB x = true ∧ nstB y = true ∧ isPk a = false ∧ isPk b = false := by
      unfold chki at h
      split at h
      · simp only [Bool.and_eq_true, decide_eq_true_eq] at h
        obtain ⟨rfl, h1, h2, h3, h4, h5, h6, h7⟩ := h
        exact ⟨_, _, _, _, rfl, h1, h2, h3, h4, h5, notPk h6, notPk h7⟩
      · cases h
    obtain ⟨p, x, y, pos, rfl, h1, h2, h3, h4, h5, h6, h7⟩ := hi'
    cases te <;> first | (cases ht; done) | skip
    exact si_zip k h1 (snd a k h2).1 (snd b k h3).1 h6 h7 h4 h5
  | .vals a, W, X, sc, e, te, k, h, ht => by
    have hi' : ∃ x ap cp, e = .Call (.Attribute x "values" ap) [] [] cp ∧ chk Γ N sc a x = true ∧ isPk a = false ∧ atB x = true ∧ (ap.endLine == cp.line) = true := by
      unfold chki at h
      split at h
      · simp only [Bool.and_eq_true, decide_eq_true_eq] at h
        obtain ⟨rfl, h1, h2, h3, h4⟩ := h
        exact ⟨_, _, _, rfl, h1, notPk h2, h3, h4⟩
      · cases h
    obtain ⟨x, ap, cp, rfl, h1, h2, h3, h4⟩ := hi'
    exact si_vals (snd a k h1).1 h2 (at_base h3 _ _ _) h4
  | .enum a, W, X, sc, e, te, k, h, ht => by
    have hi' : ∃ p x pos, e = .Call (.Name "enumerate" p) [x] [] pos ∧ glB sc "enumerate" = true ∧ chk Γ N sc a x = true ∧ nstB x = true ∧ isPk a = false := by
      unfold chki at h
      split at h
      · simp only [Bool.and_eq_true, decide_eq_true_eq] at h
        obtain ⟨rfl, h1, h2, h3, h4⟩ := h
        exact ⟨_, _, _, rfl, h1, h2, h3, notPk h4⟩
      · cases h
    obtain ⟨p, x, pos, rfl, h1, h2, h3, h4⟩ := hi'
    cases te <;> first | (cases ht; done) | skip
    exact si_enum k h1 (snd a k h2).1 h4 h3
end
end
end FL

set_option Elab.async false
set_option maxRecDepth 100000
set_option maxHeartbeats 4000000
/-! FLs10: statements. -/
namespace FL
open PySem PySem.Spec PyProof.Rows L2

structure Sok (Γ : Gm) (Φ : Nat → List D → Out D) (n : Nat) (W : Nat → Hp → Prop) (N : List Str) (sc : Scope) (X : Cx) : Prop where
  c : Cok Γ Φ n (fun _ => W) N sc X
  fnT : ∀ x, X.fn x = true
  tk : Takes X (fun cls d _ H => EW Γ X.mg W cls d H)
  own : PassesOwn (model X.prog X.w) X.A X.env X.xe
  exs : ∀ k x, Γ.ex k = some x → ∃ C, X.mg x = some (.ref C) ∧ PySem.W.excIn X.K C He.veBase "ValueError.__new__" = true ∧ PySem.W.keepIn X.K (.ref C) = true ∧ Raises X (.ref C)
  stk : X.stack = X.env :: X.outer
  frm : X.env.frame = some X.env.locals
  sub : ∀ j k x y, Γ.ex j = some x → Γ.ex k = some y → ∃ C D, X.mg x = some (.ref C) ∧ X.mg y = some (.ref D) ∧ PySem.W.exmOne X.K (.ref C) (.ref D) = some (subX j k)

def WnS (K : PySem.W.Frag) (F0 H0 : Hp) (W : Nat → Hp → Prop) (E : Ends) : Out Fl → Prop
  | .ok (.nx S') => ∀ σ' F' H', Ext F0 H0 F' H' → Rp K H0 S' σ' F' H' → E.nx σ' H'
  | .ok (.rt d) => ∀ v F' H', Ext F0 H0 F' H' → DD K F' v d → E.rt v H'
  | .exc k => ∀ H', Same H0 H' → W k H'
  | .bad => False
theorem WnS.e {α : Type} {K : PySem.W.Frag} {F0 H0 F H : Hp} {W : Nat → Hp → Prop} {E : Ends} {o : Out α} {f : α → Out Fl} (e : Ext F0 H0 F H) (h : WnS K F0 H0 W E (o.bind f)) : Wn F H W (fun a _ _ => WnS K F0 H0 W E (f a)) o := by
  cases o with
  | ok a => exact fun _ _ _ => h
  | exc k => exact fun H' s => h H' (e.hh.trans s)
  | bad => exact h
section
variable (Φ : Nat → List D → Out D) (wf : Nat) (W : Nat → Hp → Prop) (X : Cx)
def S1 (c : CS) (st : Stmt) : Prop := ∀ (F0 H0 : Hp) (S : St) (σ : L2.St) (F H : Hp) (E : Ends), Ext F0 H0 F H → Rp X.K H0 S σ F H → WnS X.K F0 H0 W E (evS Φ wf c S) → wS X st E σ H
def SSs (cs : CSs) (sts : List Stmt) : Prop := ∀ (F0 H0 : Hp) (S : St) (σ : L2.St) (F H : Hp) (E : Ends), Ext F0 H0 F H → Rp X.K H0 S σ F H → WnS X.K F0 H0 W E (evSs Φ wf cs S) → wSs X sts E σ H
end

/-! ### owned objects, again -/
section
variable {K : PySem.W.Frag} {H0 : Hp} {S : St} {σ : L2.St} {F H : Hp}
theorem set_get {α : Type} {l : List α} {i : Nat} {x : α} {m : Nat} {z : α} (h : (l.set i x)[m]? = some z) : (m = i ∧ z = x ∧ i < l.length) ∨ (m ≠ i ∧ l[m]? = some z) := by
  by_cases e : i = m
  · subst e
    have hl : i < l.length := by
      rcases Nat.lt_or_ge i l.length with z | z
      · exact z
      · rw [List.getElem?_eq_none (by simpa using z)] at h
        cases h
    rw [List.getElem?_set_self hl] at h
    exact .inl ⟨rfl, (Option.some.inj h).symm, hl⟩
  · rw [List.getElem?_set_ne e] at h
    exact .inr ⟨fun z => e z.symm, h⟩
/-- a slot is given a new object of its own -/
theorem Rp.setO {d : D} {p : Addr} {o : HO} {i : Nat} (r : Rp K H0 S σ F H) (s0 : Same H0 H) (np : H p = none) (ho : Own K F (upd H p o) p d) : Rp K H0 (S.set i (.ow d)) (σ.set i (some (.ref p))) F (upd H p o) := by
  have sm : Same H (upd H p o) := same_upd np
  refine ⟨r.fh.trans sm, by simp [r.len], fun j e hj => ?_, fun j e hj => ?_, fun j k d1 d2 a h1 h2 h3 h4 => ?_⟩
  · rcases set_get hj with ⟨_, z, _⟩ | ⟨nj, z⟩
    · cases z
    · obtain ⟨v, q1, q2⟩ := r.fz j e z
      exact ⟨v, by rw [List.getElem?_set_ne (Ne.symm nj)]; exact q1, q2⟩
  · rcases set_get hj with ⟨ej, z, hl⟩ | ⟨nj, z⟩
    · subst ej
      cases z
      exact ⟨p, by rw [List.getElem?_set_self (by rw [← r.len]; exact hl)], s0.free np, r.fh.free np, ho⟩
    · obtain ⟨a, q1, q2, q3, q4⟩ := r.ow j e z
      exact ⟨a, by rw [List.getElem?_set_ne (Ne.symm nj)]; exact q1, q2, q3, q4.mono (Same.refl F) fun _ z => sm _ _ z⟩
  · have other : ∀ (m : Nat) (e : D), m ≠ i → S[m]? = some (.ow e) → σ[m]? ≠ some (some (.ref p)) := fun m e nm z q => by
      obtain ⟨a, q1, _, _, q4⟩ := r.ow m e z
      rw [q] at q1
      cases q1
      obtain ⟨o', z'⟩ := q4.some
      rw [np] at z'
      cases z'
    rcases set_get h1 with ⟨e1, z1, l1⟩ | ⟨n1, z1⟩
    · rcases set_get h2 with ⟨e2, z2, _⟩ | ⟨n2, z2⟩
      · omega
      · subst e1
        rw [List.getElem?_set_self (by rw [← r.len]; exact l1)] at h3
        cases h3
        rw [List.getElem?_set_ne (Ne.symm n2)] at h4
        exact absurd h4 (other k d2 n2 z2)
    · rcases set_get h2 with ⟨e2, z2, l2⟩ | ⟨n2, z2⟩
      · subst e2
        rw [List.getElem?_set_self (by rw [← r.len]; exact l2)] at h4
        cases h4
        rw [List.getElem?_set_ne (Ne.symm n1)] at h3
        exact absurd h3 (other j d1 n1 z1)
      · rw [List.getElem?_set_ne (Ne.symm n1)] at h3
        rw [List.getElem?_set_ne (Ne.symm n2)] at h4
        exact r.ne j k d1 d2 a z1 z2 h3 h4
/-- an owned object is changed -/
theorem Rp.mut {d d' : D} {a : Addr} {o : HO} {i : Nat} (r : Rp K H0 S σ F H) (hi : S[i]? = some (.ow d)) (ha : σ[i]? = some (some (.ref a))) (nF : F a = none) (ho : Own K F (upd H a o) a d') : Rp K H0 (S.set i (.ow d')) σ F (upd H a o) := by
  have h0 : H0 a = none := by
    obtain ⟨b, q1, q2, _⟩ := r.ow i d hi
    rw [ha] at q1
    cases q1
    exact q2
  refine ⟨fun b u z => ?_, by simp [r.len], fun j e hj => ?_, fun j e hj => ?_, fun j k d1 d2 b h1 h2 h3 h4 => ?_⟩
  · rw [upd_ne (ne_of_none z nF)]
    exact r.fh b u z
  · rcases set_get hj with ⟨_, z, _⟩ | ⟨nj, z⟩
    · cases z
    · exact r.fz j e z
  · rcases set_get hj with ⟨ej, z, hl⟩ | ⟨nj, z⟩
    · subst ej
      cases z
      exact ⟨a, ha, h0, nF, ho⟩
    · obtain ⟨b, q1, q2, q3, q4⟩ := r.ow j e z
      refine ⟨b, q1, q2, q3, ?_⟩
      have nb : b ≠ a := fun eb => by
        subst eb
        exact nj (r.ne j i e d b z hi q1 ha)
      exact q4.mono (Same.refl F) fun o z => by rw [upd_ne nb]; exact z
  · have un : ∀ (m : Nat) (e : D), (S.set i (.ow d'))[m]? = some (.ow e) → ∃ e', S[m]? = some (.ow e') := fun m e z => by
      rcases set_get z with ⟨em, _, _⟩ | ⟨_, z⟩
      · subst em
        exact ⟨d, hi⟩
      · exact ⟨e, z⟩
    obtain ⟨e1, z1⟩ := un j d1 h1
    obtain ⟨e2, z2⟩ := un k d2 h2
    exact r.ne j k e1 e2 b z1 z2 h3 h4
/-- an owned object is frozen -/
theorem Rp.frz {d : D} {i : Nat} (r : Rp K H0 S σ F H) (hi : S[i]? = some (.ow d)) : ∃ a o, H0 a = none ∧ F a = none ∧ H a = some o ∧ Rp K H0 (S.set i (.fz d)) σ (upd F a o) H := by
  obtain ⟨a, q1, q2, q3, q4⟩ := r.ow i d hi
  obtain ⟨o, ho⟩ := q4.some
  refine ⟨a, o, q2, q3, ho, ?_⟩
  have sf : Same F (upd F a o) := same_upd q3
  refine ⟨fun b u z => ?_, by simp [r.len], fun j e hj => ?_, fun j e hj => ?_, fun j k d1 d2 b h1 h2 h3 h4 => ?_⟩
  · by_cases hb : b = a
    · subst hb
      rw [upd_same] at z
      cases z
      exact ho
    · rw [upd_ne hb] at z
      exact r.fh b u z
  · rcases set_get hj with ⟨ej, z, _⟩ | ⟨nj, z⟩
    · subst ej
      cases z
      refine ⟨.ref a, q1, q4.dd' sf fun o' z => ?_⟩
      rw [ho] at z
      cases z
      exact upd_same
    · obtain ⟨v, w1, w2⟩ := r.fz j e z
      exact ⟨v, w1, w2.mono sf⟩
  · rcases set_get hj with ⟨ej, z, hl⟩ | ⟨nj, z⟩
    · cases z
    · obtain ⟨b, w1, w2, w3, w4⟩ := r.ow j e z
      have nb : b ≠ a := fun eb => by
        subst eb
        exact nj (r.ne j i e d b z hi w1 q1)
      exact ⟨b, w1, w2, by rw [upd_ne nb]; exact w3, w4.mono sf fun _ z => z⟩
  · rcases set_get h1 with ⟨_, z1, _⟩ | ⟨_, z1⟩
    · cases z1
    · rcases set_get h2 with ⟨_, z2, _⟩ | ⟨_, z2⟩
      · cases z2
      · exact r.ne j k d1 d2 b z1 z2 h3 h4
end

section
variable {Γ : Gm} {Φ : Nat → List D → Out D} {wf : Nat} {n : Nat} {W : Nat → Hp → Prop} {N : List Str} {sc : Scope} {X : Cx} {pos : Pos}
theorem Sok.loc' (k : Sok Γ Φ n W N sc X) {x : Str} (h : locB sc x = true) : L2.Loc X.env.scope x ∧ (X.fn x = true ∨ X.env.scope.names.lookup x = some .local) := ⟨k.c.loc h, .inl (k.fnT x)⟩
theorem nlc_swaps {v : Expr} (h : nlcB v = true) (t : Option Expr) (l : Nat) (env : Env) : swapsWith v t l env = pure false := by
  cases v <;> first | rfl | cases h
theorem bindT_noexc (t : Tg) (d : D) (S : St) (q : Nat) : bindT t d S ≠ .exc q := by
  intro hb
  cases t with
  | one i => cases hb
  | two i j =>
    cases d <;> first | (cases hb; done) | skip
    rename_i ds
    cases ds with
    | nil => cases hb
    | cons d1 ds =>
      cases ds with
      | nil => cases hb
      | cons d2 ds => cases ds <;> cases hb
/-- name = value -/
theorem s1_set {i : Nat} {c : CE} {x : Str} {v : Expr} {p : Pos} (k : Sok Γ Φ n W N sc X) (hi : N[i]? = some x) (hx : locB sc x = true) (h : SE Φ (fun _ => W) X c v) (pk : isPk c = false) (hs : swapsWith v (some (.Name x p)) pos.line X.env = pure false) :
    S1 Φ wf W X (.set i c) (.Assign [.Name x p] v pos) := fun F0 H0 S σ F H E e r hw => by
  obtain ⟨l1, l2⟩ := k.loc' hx
  refine PS.w (ps_set (i := i) (by rw [k.c.nm]; exact k.c.nd) (by rw [k.c.nm]; exact hi) l1 pe_w hs l2) ?_
  refine h H0 S σ F H _ r ((WnS.e e hw).imp fun d F1 H1 _ e1 h1 w tv dv => ?_)
  exact h1 _ F1 H1 (e.trans e1) ((r.ext e1).set (dv pk))
/-- name = [..] -/
theorem s1_setl {i : Nat} {cs : CEs} {x : Str} {es : List Expr} {p p2 : Pos} (k : Sok Γ Φ n W N sc X) (hi : N[i]? = some x) (hx : locB sc x = true) (h : SA Φ (fun _ => W) X cs es) : S1 Φ wf W X (.setl i cs) (.Assign [.Name x p] (.List es p2) pos) := fun F0 H0 S σ F H E e r hw => by
  obtain ⟨l1, l2⟩ := k.loc' hx
  refine PS.w (ps_set (i := i) (by rw [k.c.nm]; exact k.c.nd) (by rw [k.c.nm]; exact hi) l1 (pe_lst pa_w) (nlc_swaps rfl _ _ _) l2) ?_
  refine h H0 S σ F H _ r ((WnS.e e hw).imp fun ds F1 H1 _ e1 h1 vs t => ?_)
  have h1 : WnS X.K F0 H0 W E (Out.guard (fits ds.length) (.ok (.nx (S.set i (.ow (.list ds)))))) := h1
  cases g : fits ds.length with
  | false =>
    rw [g] at h1
    exact h1.elim
  | true =>
    rw [g] at h1
    refine ⟨by rw [t.length]; exact fits_le g, fun q nq => ?_⟩
    exact h1 _ F1 _ ((e.trans e1).trans (Ext.lay e1.fh nq)) ((r.ext e1).setO (e.trans e1).hh nq ⟨vs, upd_same, t⟩)
/-- a, b = value -/
theorem swapped_none {ts : List Expr} {kt : Nat} {pt : Pos} {v : Expr} {env : Env} (h : ∀ vs k2 p2, v ≠ .Tuple vs k2 p2) : swappedStores [.Tuple ts kt pt] v env = pure none := by
  cases v <;> first | rfl | exact absurd rfl (h _ _ _)
theorem swapped_cell {x y : Str} {px py pt p2 : Pos} {kt k2 : Nat} {vs : List Expr} {env : Env} (h : (decide (env.scope.names.lookup x = some .local) && decide (env.scope.names.lookup y = some .local)) = false) :
    swappedStores [.Tuple [.Name x px, .Name y py] kt pt] (.Tuple vs k2 p2) env = pure none := by
  unfold swappedStores
  simp only
  split
  · rfl
  · split
    · rfl
    · rename_i h1 h2
      have key : ¬ (env.kindOf x = some NameKind.local ∧ env.kindOf y = some NameKind.local) := fun z => by
        have z1 : env.scope.names.lookup x = some .local := z.1
        have z2 : env.scope.names.lookup y = some .local := z.2
        rw [z1, z2] at h
        simp at h
      have ne : ((List.filterMap (fun e => match e with
          | .Name id pos => if (env.kindOf id == some NameKind.local && pos.line == ((List.head? [Expr.Name x px, Expr.Name y py]).map (·.pos.line)).getD 0) = true then some id else none
          | _ => none) [Expr.Name x px, Expr.Name y py]).length != [Expr.Name x px, Expr.Name y py].length) = true := by
        simp only [List.filterMap_cons, List.filterMap_nil]
        by_cases kx : env.kindOf x = some NameKind.local
        · have ky : ¬ env.kindOf y = some NameKind.local := fun z => key ⟨kx, z⟩
          have ky' : (env.kindOf y == some NameKind.local) = false := by simpa using ky
          rw [ky']
          simp
          split <;> simp
        · have kx' : (env.kindOf x == some NameKind.local) = false := by simpa using kx
          rw [kx']
          simp
          split <;> simp
      exact if_pos (by rw [Bool.or_eq_true]; exact Or.inl ne)
theorem filterMap2 {f : Expr → Option Str} {a b : Expr} {x y : Str} (h1 : f a = some x) (h2 : f b = some y) : List.filterMap f [a, b] = [x, y] := by
  simp [List.filterMap_cons, h1, h2]
theorem any2 {f : Expr → Bool} {a b : Expr} (h1 : f a = false) (h2 : f b = false) : ¬ [a, b].any f = true := by
  simp [h1, h2]
theorem swapped_some {x y : Str} {px py pt p2 : Pos} {kt k2 : Nat} {v w : Expr} {env : Env} (hk : env.scope.kind = .function) (hx : env.scope.names.lookup x = some .local) (hy : env.scope.names.lookup y = some .local) (hl : px.line = py.line) (hn : x ≠ y)
    (nv : nstB v = true) (nw : nstB w = true) (hf : [v, w].all (foldedForSure 8) = false) (hc : [v, w].all (constantsAlone 8) = false) :
    swappedStores [.Tuple [.Name x px, .Name y py] kt pt] (.Tuple [v, w] k2 p2) env = pure (some [x, y]) := by
  have kx : env.kindOf x = some NameKind.local := hx
  have ky : env.kindOf y = some NameKind.local := hy
  have bk : env.blockKind = .function := by
    unfold Env.blockKind
    rw [hk]
    rfl
  have dup : [x, y].eraseDups = [x, y] := by
    simp [List.eraseDups_cons, List.eraseDups_nil, hn, Ne.symm hn]
  have b1 : ¬ (!([Expr.Name x px, Expr.Name y py].length == 2 || [Expr.Name x px, Expr.Name y py].length == 3) || [v, w].length != [Expr.Name x px, Expr.Name y py].length || env.blockKind != ScopeKind.function) = true := by
    rw [bk]
    simp
  unfold swappedStores
  simp only
  rw [if_neg b1, if_neg (any2 (by cases v <;> first | (cases nv; done) | rfl) (by cases w <;> first | (cases nw; done) | rfl))]
  rw [filterMap2 (x := x) (y := y) ?h1 ?h2]
  case h1 =>
    show (if (env.kindOf x == some NameKind.local && px.line == px.line) = true then some x else none) = some x
    rw [kx]
    simp
  case h2 =>
    show (if (env.kindOf y == some NameKind.local && py.line == px.line) = true then some y else none) = some y
    rw [ky, hl]
    simp
  rw [dup, if_neg (by simp), if_neg (by rw [hf]; exact Bool.false_ne_true), if_neg (by rw [hc]; exact Bool.false_ne_true)]
theorem s1_unp {i j : Nat} {c : CE} {t v : Expr} (k : Sok Γ Φ n W N sc X) (ht : tgIs N sc (.two i j) t = true) (h : SE Φ (fun _ => W) X c v) (pk : isPk c = false) (hl : nlcB v = true) (hw : swappedStores [t] v X.env = pure none) :
    S1 Φ wf W X (.unp (.two i j) c) (.Assign [t] v pos) := fun F0 H0 S σ F H E e r hww => by
  have h1 : (assignEach [t] X.env).map (·.2) = [assign t X.env] := by
    cases t <;> first | (cases ht; done) | rfl
  refine PS.w (ps_asg pe_w (pg_of k.c.calm k.c.nm k.c.nd ht fun x hx => k.loc' hx) (nlc_swaps hl _ _ _) hw h1) ?_
  refine h H0 S σ F H _ r ((WnS.e e hww).imp fun d F1 H1 _ e1 h1 w tv dv => ?_)
  cases hb : bindT (.two i j) d S with
  | ok S2 =>
    rw [hb] at h1
    exact g_ok (r.ext e1) (dv pk) hb fun σ2 r2 _ _ => h1 σ2 F1 H1 (e.trans e1) r2
  | exc q =>
    exact absurd hb (bindT_noexc _ _ _ _)
  | bad =>
    rw [hb] at h1
    exact h1.elim
end
end FL

set_option Elab.async false
set_option maxRecDepth 100000
set_option maxHeartbeats 4000000
/-! FLs11: further statements, loops, blocks. -/
namespace FL
open PySem PySem.Spec PyProof.Rows L2
section
variable {K : PySem.W.Frag} {H0 : Hp} {S : St} {σ : L2.St} {F H : Hp}
/-- a slot is given an object that stands already -/
theorem Rp.setP {d : D} {p : Addr} {i : Nat} (r : Rp K H0 S σ F H) (h0 : H0 p = none) (nF : F p = none) (ho : Own K F H p d) (un : ∀ (m : Nat) (e : D), S[m]? = some (.ow e) → σ[m]? ≠ some (some (.ref p))) : Rp K H0 (S.set i (.ow d)) (σ.set i (some (.ref p))) F H := by
  refine ⟨r.fh, by simp [r.len], fun j e hj => ?_, fun j e hj => ?_, fun j k d1 d2 a h1 h2 h3 h4 => ?_⟩
  · rcases set_get hj with ⟨_, z, _⟩ | ⟨nj, z⟩
    · cases z
    · obtain ⟨v, q1, q2⟩ := r.fz j e z
      exact ⟨v, by rw [List.getElem?_set_ne (Ne.symm nj)]; exact q1, q2⟩
  · rcases set_get hj with ⟨ej, z, hl⟩ | ⟨nj, z⟩
    · subst ej
      cases z
      exact ⟨p, by rw [List.getElem?_set_self (by rw [← r.len]; exact hl)], h0, nF, ho⟩
    · obtain ⟨a, q1, q2, q3, q4⟩ := r.ow j e z
      exact ⟨a, by rw [List.getElem?_set_ne (Ne.symm nj)]; exact q1, q2, q3, q4⟩
  · rcases set_get h1 with ⟨e1, z1, l1⟩ | ⟨n1, z1⟩
    · rcases set_get h2 with ⟨e2, z2, _⟩ | ⟨n2, z2⟩
      · omega
      · subst e1
        rw [List.getElem?_set_self (by rw [← r.len]; exact l1)] at h3
        cases h3
        rw [List.getElem?_set_ne (Ne.symm n2)] at h4
        exact absurd h4 (un k d2 z2)
    · rcases set_get h2 with ⟨e2, z2, l2⟩ | ⟨n2, z2⟩
      · subst e2
        rw [List.getElem?_set_self (by rw [← r.len]; exact l2)] at h4
        cases h4
        rw [List.getElem?_set_ne (Ne.symm n1)] at h3
        exact absurd h3 (un j d1 z1)
      · rw [List.getElem?_set_ne (Ne.symm n1)] at h3
        rw [List.getElem?_set_ne (Ne.symm n2)] at h4
        exact r.ne j k d1 d2 a z1 z2 h3 h4
/-- what is new is nobody's -/
theorem Rp.new {p : Addr} (r : Rp K H0 S σ F H) (np : H p = none) : ∀ (m : Nat) (e : D), S[m]? = some (.ow e) → σ[m]? ≠ some (some (.ref p)) := fun m e z q => by
  obtain ⟨a, q1, _, _, q4⟩ := r.ow m e z
  rw [q] at q1
  cases q1
  obtain ⟨o', z'⟩ := q4.some
  rw [np] at z'
  cases z'
end
section
variable {Γ : Gm} {Φ : Nat → List D → Out D} {wf : Nat} {n : Nat} {W : Nat → Hp → Prop} {N : List Str} {sc : Scope} {X : Cx} {pos : Pos}

/-- name = [.. for ..], the name a local on that line -/
theorem s1_setlc {i : Nat} {it : CI} {tg : Tg} {t : CO} {c : CE} {x : Str} {p p2 : Pos} {elt te iter : Expr} {ifs : List Expr} {scope : Scope} (k : Sok Γ Φ n W N sc X) (hi : N[i]? = some x) (hx : sc.names.lookup x = some .local) (hl : p.line = p2.line)
    (ho : (scope.names.any fun (n, k) => n == x && (k == .local || k == .cell)) = false) (hI : SI Φ (fun _ => W) X it iter te) (ht : tgIs N scope tg te = true) (ok : blkC N sc scope (ownOf tg te) = true) (hs : nsetB iter = true) (pk : isPk c = false)
    (htt : ∀ X', Cok Γ Φ n W0 N (relS scope sc) X' → STs Φ X' t ifs) (hc : ∀ X', Cok Γ Φ n W0 N (relS scope sc) X' → SE Φ W0 X' c elt) :
    S1 Φ wf W X (.set i (.lc it tg t c)) (.Assign [.Name x p] (.ListComp elt [⟨te, iter, ifs, 0⟩] scope p2) pos) := fun F0 H0 S σ F H E e r hw I pins Iv => by
  have hk : X.env.scope.kind = .function := Iv.ok.kind
  refine PS.w (ps_setLc (i := i) (g := gOf X.K tg) k.c.calm (by rw [k.c.nm]; exact k.c.nd) (by rw [k.c.nm]; exact hi) (by rw [k.c.sc]; exact hx) (sw_true hk (by rw [k.c.sc]; exact hx) (by rw [hl]; simp [Expr.pos]) ho) pi_w (by rw [k.c.nm, k.c.sc]; exact blkOk_by ok)
    (fun s0 Hb C cl fp => pg_of (X := X.blk s0 Hb scope (compEnvC scope cl C X.env) fp) (N := N) k.c.calm k.c.nm k.c.nd ht fun x hx => blk_loc k.c hx) pt_ttB pe_teB (nset_eq hs X.env)) ?_ I pins Iv
  refine lc_read k.c hI ht pk htt hc r ((WnS.e e hw).imp fun d F1 H1 _ e1 h1 w tv dv => ?_)
  exact h1 _ F1 H1 (e.trans e1) ((r.ext e1).set (dv rfl))
/-- the same, the list may be changed later -/
theorem s1_setc {i : Nat} {it : CI} {tg : Tg} {t : CO} {c : CE} {x : Str} {p p2 : Pos} {elt te iter : Expr} {ifs : List Expr} {scope : Scope} (k : Sok Γ Φ n W N sc X) (hi : N[i]? = some x) (hx : sc.names.lookup x = some .local) (hl : p.line = p2.line)
    (ho : (scope.names.any fun (n, k) => n == x && (k == .local || k == .cell)) = false) (hI : SI Φ (fun _ => W) X it iter te) (ht : tgIs N scope tg te = true) (ok : blkC N sc scope (ownOf tg te) = true) (hs : nsetB iter = true) (pk : isPk c = false)
    (htt : ∀ X', Cok Γ Φ n W0 N (relS scope sc) X' → STs Φ X' t ifs) (hc : ∀ X', Cok Γ Φ n W0 N (relS scope sc) X' → SE Φ W0 X' c elt) :
    S1 Φ wf W X (.setc i it tg t c) (.Assign [.Name x p] (.ListComp elt [⟨te, iter, ifs, 0⟩] scope p2) pos) := fun F0 H0 S σ F H E e r hw I pins Iv => by
  have hk : X.env.scope.kind = .function := Iv.ok.kind
  refine PS.w (ps_setLc (i := i) (g := gOf X.K tg) k.c.calm (by rw [k.c.nm]; exact k.c.nd) (by rw [k.c.nm]; exact hi) (by rw [k.c.sc]; exact hx) (sw_true hk (by rw [k.c.sc]; exact hx) (by rw [hl]; simp [Expr.pos]) ho) pi_w (by rw [k.c.nm, k.c.sc]; exact blkOk_by ok)
    (fun s0 Hb C cl fp => pg_of (X := X.blk s0 Hb scope (compEnvC scope cl C X.env) fp) (N := N) k.c.calm k.c.nm k.c.nd ht fun x hx => blk_loc k.c hx) pt_ttB pe_teB (nset_eq hs X.env)) ?_ I pins Iv
  refine lc_gen k.c hI ht pk htt hc r ((WnS.e e hw).imp fun d F1 H1 _ e1 h1 rs D vs Fi Hi ed nD e2 nF hD tD => ?_)
  subst ed
  have e12 := e1.trans e2
  exact h1 _ Fi Hi (e.trans e12) ((r.ext e12).setP ((e.trans e1).hh.free nD) nF ⟨vs, hD, tD⟩ ((r.ext e1).new nD · · ·))
/-- a, b, c = value -/
theorem s1_unp3 {i j l : Nat} {c : CE} {x y z : Str} {v : Expr} {p1 p2 p3 pt : Pos} {kt : Nat} (k : Sok Γ Φ n W N sc X) (hi : N[i]? = some x) (hx : locB sc x = true) (hj : N[j]? = some y) (hy : locB sc y = true) (hl : N[l]? = some z) (hz : locB sc z = true)
    (h : SE Φ (fun _ => W) X c v) (pk : isPk c = false) (nm : ∃ y p, v = .Name y p) : S1 Φ wf W X (.unp3 i j l c) (.Assign [.Tuple [.Name x p1, .Name y p2, .Name z p3] kt pt] v pos) := fun F0 H0 S σ F H E e r hww => by
  have nd : X.N.Nodup := by rw [k.c.nm]; exact k.c.nd
  have g1 : PG X (.Name x p1) (gName i) := pg_name nd (by rw [k.c.nm]; exact hi) (k.loc' hx).1 (k.loc' hx).2
  have g2 : PG X (.Name y p2) (gName j) := pg_name nd (by rw [k.c.nm]; exact hj) (k.loc' hy).1 (k.loc' hy).2
  have g3 : PG X (.Name z p3) (gName l) := pg_name nd (by rw [k.c.nm]; exact hl) (k.loc' hz).1 (k.loc' hz).2
  obtain ⟨ny, np, rfl⟩ := nm
  refine PS.w (ps_asg pe_w (pg_tup k.c.calm (pgs_cons g1 (pgs_cons g2 (pgs_cons g3 pgs_nil)))) rfl (swapped_none fun _ _ _ z => by cases z) rfl) ?_
  refine h H0 S σ F H _ r ((WnS.e e hww).imp fun d F1 H1 _ e1 h1 w tv dv => ?_)
  have dv := dv pk
  cases d with
  | tuple ds =>
    cases ds with
    | nil => exact h1.elim
    | cons d1 ds =>
      cases ds with
      | nil => exact h1.elim
      | cons d2 ds =>
        cases ds with
        | nil => exact h1.elim
        | cons d3 ds =>
          cases ds with
          | cons _ _ => exact h1.elim
          | nil =>
            cases dv with
            | tup sq t =>
              cases t with
              | cons q1 t =>
                cases t with
                | cons q2 t =>
                  cases t with
                  | cons q3 t =>
                    cases t
                    refine ⟨_, _, rfl, Same.sqt e1.fh sq, rfl, _, _, rfl, _, _, rfl, _, _, rfl, rfl, ?_⟩
                    exact h1 _ F1 H1 (e.trans e1) ((((r.ext e1).set q1).set q2).set q3)
  | _ => exact h1.elim
/-- a, b = x, y -/
theorem s1_par {i j : Nat} {ca cb : CE} {x y : Str} {v w : Expr} {px py pt p2 : Pos} {kt k2 : Nat} (k : Sok Γ Φ n W N sc X) (hi : N[i]? = some x) (hj : N[j]? = some y) (hij : i ≠ j) (hn : x ≠ y) (hx : sc.names.lookup x = some .local) (hy : sc.names.lookup y = some .local)
    (hl : px.line = py.line) (nv : nstB v = true) (nw : nstB w = true) (hf : [v, w].all (foldedForSure 8) = false) (hc : [v, w].all (constantsAlone 8) = false) (ha : SE Φ (fun _ => W) X ca v) (hb : SE Φ (fun _ => W) X cb w) (pa : isPk ca = false) (pb : isPk cb = false) :
    S1 Φ wf W X (.par i j ca cb) (.Assign [.Tuple [.Name x px, .Name y py] kt pt] (.Tuple [v, w] k2 p2) pos) := fun F0 H0 S σ F H E e r hww pins s I => by
  have hk : X.env.scope.kind = .function := I.ok.kind
  have lx : X.env.scope.names.lookup x = some .local := by rw [k.c.sc]; exact hx
  have ly : X.env.scope.names.lookup y = some .local := by rw [k.c.sc]; exact hy
  refine PS.w (ps_par (i := i) (j := j) k.c.calm (by rw [k.c.nm]; exact k.c.nd) (by rw [k.c.nm]; exact hi) (by rw [k.c.nm]; exact hj) hij lx ly (pa_cons pe_w (pa_cons pe_w pa_nil (nst_eq nw _ _)) (nst_eq nv _ _)) (swapped_some hk lx ly hl hn nv nw hf hc) rfl) ?_ pins s I
  refine ha H0 S σ F H _ r ((WnS.e e hww).imp fun d F1 H1 _ e1 h1 u tu du => ?_)
  refine hb H0 S σ F1 H1 _ (r.ext e1) ((WnS.e (e.trans e1) h1).imp fun d' F2 H2 _ e2 h2 u' tu' du' => ?_)
  exact ⟨u, u', rfl, h2 _ F2 H2 ((e.trans e1).trans e2) (((r.ext (e1.trans e2)).set ((du pa).mono e2.ff)).set (du' pb))⟩
/-- x += e -/
theorem s1_aug {i : Nat} {c : CE} {x : Str} {v : Expr} {p : Pos} (k : Sok Γ Φ n W N sc X) (hi : N[i]? = some x) (hx : locB sc x = true) (h : SE Φ (fun _ => W) X c v) (pk : isPk c = false) : S1 Φ wf W X (.aug i c) (.AugAssign (.Name x p) .Add v pos) := fun F0 H0 S σ F H E e r hw => by
  obtain ⟨l1, l2⟩ := k.loc' hx
  refine PS.w (ps_aug (i := i) (by rw [k.c.nm]; exact k.c.nd) (by rw [k.c.nm]; exact hi) l1 pe_w ip_add l2) ?_
  have hw : WnS X.K F0 H0 W E ((getF S i).bind fun x => (asInt x).bind fun m => (ev Φ c S).bind fun y => (asInt y).bind fun n => .ok (.nx (S.set i (.fz (.int (m + n)))))) := hw
  unfold getF at hw
  split at hw
  · rename_i d q
    obtain ⟨u, e1, e2⟩ := r.fz i d q
    cases d with
    | int m =>
      cases e2
      refine ⟨_, e1, ?_⟩
      have hw : WnS X.K F0 H0 W E ((ev Φ c S).bind fun y => (asInt y).bind fun n => .ok (.nx (S.set i (.fz (.int (m + n)))))) := hw
      refine h H0 S σ F H _ r ((WnS.e e hw).imp fun d F1 H1 _ e1 h1 w tv dv => ?_)
      cases d with
      | int j =>
        obtain rfl := tv.int
        exact ⟨m, j, rfl, rfl, h1 _ F1 H1 (e.trans e1) ((r.ext e1).set (.int _))⟩
      | _ => exact h1.elim
    | _ => exact hw.elim
  · exact hw.elim
theorem attr_name (x : Str) (p : Pos) (m : Str) (env : Env) : attributeBase (.Name x p) m env (eval (.Name x p) env) = eval (.Name x p) env := rfl
theorem few_ok {v : Expr} (ns : nstB v = true) (cp : Pos) (env : Env) : ((backTo cp (starEach [v] env)).all (fun x => !x.1) && (backToKw cp (keywordEach [] env)).all (fun x => x.1.isSome) && decide ([v].length + ([] : List Keyword).length + (if ([] : List Keyword).isEmpty then 0 else 1) < 30)) = true := by
  rw [nst_eq ns]
  rfl
theorem ownL_w {K : PySem.W.Frag} {F0 H0 : Hp} {E : Ends} {S : St} {i : Nat} {f : List D → Out Fl} (h : WnS K F0 H0 W E ((ownL S i).bind f)) : ∃ xs, S[i]? = some (.ow (.list xs)) ∧ WnS K F0 H0 W E (f xs) := by
  unfold ownL at h
  split at h
  · exact ⟨_, by assumption, h⟩
  · exact h.elim
theorem Ext.mutO {F0 H0 F H : Hp} {a : Addr} {o : HO} (e : Ext F0 H0 F H) (h0 : H0 a = none) (nF : F a = none) : Ext F0 H0 F (upd H a o) :=
  ⟨e.ff, fun b u z => by
    rw [upd_ne (ne_of_none z h0)]
    exact e.hh b u z, fun b u z => by
    rw [upd_ne (ne_of_none z nF)]
    exact e.fh b u z, e.nw⟩
/-- x.append(e) -/
theorem s1_app {i : Nat} {c : CE} {x : Str} {v : Expr} {p ap cp : Pos} (k : Sok Γ Φ n W N sc X) (hi : N[i]? = some x) (hx : visB sc x = true) (hd : ndB x = true) (h : SE Φ (fun _ => W) X c v) (pk : isPk c = false) (ns : nstB v = true) (hl : (ap.endLine == cp.line) = true) :
    S1 Φ wf W X (.app i c) (.Expr (.Call (.Attribute (.Name x p) "append" ap) [v] [] cp) pos) := fun F0 H0 S σ F H E e r hw => by
  obtain ⟨d1, d2⟩ := nd_of hd
  refine PS.w (ps_expr (pe_bm PySem.F.plainAttrs_list PySem.F.slot_list_append PySem.F.type_list_append mt_append (pe_var (i := i) (by rw [k.c.nm]; exact hi) (k.c.vis hx) d1 d2) (pa_cons pe_w pa_nil (nst_eq ns _ _)) (attr_name _ _ _ _) (few_ok ns _ _) hl (nst_eq ns _ _) rfl)) ?_
  obtain ⟨xs, q, hw⟩ := ownL_w hw
  obtain ⟨a, e1, h0, nF, vs, ha, t⟩ := r.ow i _ q
  refine ⟨.ref a, e1, .inl ⟨rfl, vs, .inl (.inl ha)⟩, ?_⟩
  refine h H0 S σ F H _ r ((WnS.e e hw).imp fun d F1 H1 _ e2 h1 w tv dv => ?_)
  have ha1 := e2.hh a _ ha
  have h1 : WnS X.K F0 H0 W E (Out.guard (fits xs.length) (.ok (.nx (S.set i (.ow (.list (xs ++ [d]))))))) := h1
  cases g : fits xs.length with
  | false =>
    rw [g] at h1
    exact h1.elim
  | true =>
    rw [g] at h1
    refine ⟨a, vs, w, rfl, rfl, ha1, by rw [t.length]; exact fits_lt g, ?_⟩
    have nF1 : F1 a = none := e2.notF nF ha
    exact h1 _ F1 _ (Ext.mutO (e.trans e2) h0 nF1) ((r.ext e2).mut q e1 nF1 ⟨_, upd_same, (t.mono e2.ff).append (.cons (dv pk) .nil)⟩)
/-- x.extend(e) -/
theorem s1_ext {i : Nat} {c : CE} {x : Str} {v : Expr} {p ap cp : Pos} (k : Sok Γ Φ n W N sc X) (hi : N[i]? = some x) (hx : visB sc x = true) (hd : ndB x = true) (h : SE Φ (fun _ => W) X c v) (pk : isPk c = false) (ns : nstB v = true) (hl : (ap.endLine == cp.line) = true) :
    S1 Φ wf W X (.ext i c) (.Expr (.Call (.Attribute (.Name x p) "extend" ap) [v] [] cp) pos) := fun F0 H0 S σ F H E e r hw => by
  obtain ⟨d1, d2⟩ := nd_of hd
  refine PS.w (ps_expr (pe_bm PySem.F.plainAttrs_list PySem.F.slot_list_extend PySem.F.type_list_extend mt_extR (pe_var (i := i) (by rw [k.c.nm]; exact hi) (k.c.vis hx) d1 d2) (pa_cons pe_w pa_nil (nst_eq ns _ _)) (attr_name _ _ _ _) (few_ok ns _ _) hl (nst_eq ns _ _) rfl)) ?_
  obtain ⟨xs, q, hw⟩ := ownL_w hw
  obtain ⟨a, e1, h0, nF, vs, ha, t⟩ := r.ow i _ q
  refine ⟨.ref a, e1, .inl ⟨rfl, vs, .inl (.inl ha)⟩, ?_⟩
  refine h H0 S σ F H _ r ((WnS.e e hw).imp fun d F1 H1 _ e2 h1 w tv dv => ?_)
  have ha1 := e2.hh a _ ha
  cases d with
  | list ys =>
    have h1 : WnS X.K F0 H0 W E (Out.guard (fits (xs.length + ys.length)) (.ok (.nx (S.set i (.ow (.list (xs ++ ys))))))) := h1
    cases g : fits (xs.length + ys.length) with
    | false =>
      rw [g] at h1
      exact h1.elim
    | true =>
      rw [g] at h1
      have dv := dv pk
      cases dv with
      | @lst b ws _ r2 t2 =>
        refine ⟨a, b, vs, ws, rfl, rfl, ha1, Same.rd e2.fh r2, by rw [t.length, t2.length]; exact fits_le g, ?_⟩
        have nF1 : F1 a = none := e2.notF nF ha
        exact h1 _ F1 _ (Ext.mutO (e.trans e2) h0 nF1) ((r.ext e2).mut q e1 nF1 ⟨_, upd_same, (t.mono e2.ff).append t2⟩)
  | _ => exact h1.elim
theorem s1_exp {c : CE} {v : Expr} (h : SE Φ (fun _ => W) X c v) (hl : nlcB v = true) : S1 Φ wf W X (.exp c) (.Expr v pos) := fun F0 H0 S σ F H E e r hw => by
  refine PS.w (ps_expr pe_w (nlc_swaps hl _ _ _)) ?_
  refine h H0 S σ F H _ r ((WnS.e e hw).imp fun d F1 H1 _ e1 h1 w tv dv => ?_)
  exact h1 _ F1 H1 (e.trans e1) (r.ext e1)
theorem s1_ret {c : CE} {v : Expr} (h : SE Φ (fun _ => W) X c v) (pk : isPk c = false) : S1 Φ wf W X (.ret c) (.Return (some v) pos) := fun F0 H0 S σ F H E e r hw => by
  refine PS.w (ps_ret pe_w) ?_
  refine h H0 S σ F H _ r ((WnS.e e hw).imp fun d F1 H1 _ e1 h1 w tv dv => ?_)
  exact h1 _ F1 H1 (e.trans e1) (dv pk)
theorem s1_iff {c : CE} {v : Expr} {a b : CSs} {x y : List Stmt} (hc : ST Φ (fun _ => W) X c v) (ha : SSs Φ wf W X a x) (hb : SSs Φ wf W X b y) : S1 Φ wf W X (.iff c a b) (.If v x y pos) := fun F0 H0 S σ F H E e r hw => by
  refine PS.w (ps_if pt_w pss_w pss_w) ?_
  have e0 : evS Φ wf (.iff c a b) S = ((ev Φ c S).bind tru).bind fun t => if t = true then evSs Φ wf a S else evSs Φ wf b S := by
    show ((ev Φ c S).bind fun x => (tru x).bind fun t => if t = true then evSs Φ wf a S else evSs Φ wf b S) = _
    cases ev Φ c S <;> rfl
  rw [e0] at hw
  refine hc H0 S σ F H _ r ((WnS.e e hw).imp fun t F1 H1 _ e1 h1 => ?_)
  cases t with
  | true => exact ha F0 H0 S σ F1 H1 E (e.trans e1) (r.ext e1) h1
  | false => exact hb F0 H0 S σ F1 H1 E (e.trans e1) (r.ext e1) h1
theorem s1_rai {j : Nat} {x : Str} {m : Str} {q : Nat} {p p2 p3 : Pos} (k : Sok Γ Φ n W N sc X) (hj : Γ.ex j = some x) (hx : glB sc x = true) : S1 Φ wf W X (.rai j) (.Raise (some (.Call (.Name x p) [.Constant (.str m) q p2] [] p3)) none pos) := fun F0 H0 S σ F H E e r hw => by
  obtain ⟨C, h1, h2, h3, h4⟩ := k.exs j x hj
  obtain ⟨g1, g2, g3⟩ := k.c.gl hx
  refine PS.w (ps_raise k.c.calm k.tk (pmk_own PySem.F.excBase_ValueError h2 h1 h3 h4 g1 g2)) ?_
  refine ⟨rfl, j, ?_, hw H e.hh⟩
  show (Γ.ex j).bind X.mg = _
  rw [hj]
  exact h1
/-- for -/
theorem s1_for {tg : Tg} {it : CI} {b : CSs} {t iter : Expr} {x : List Stmt} (k : Sok Γ Φ n W N sc X) (hI : SI Φ (fun _ => W) X it iter t) (ht : tgIs N sc tg t = true) (hs : nsetB iter = true) (hb : SSs Φ wf W X b x) : S1 Φ wf W X (.for_ tg it b) (.For t iter x [] pos) := fun F0 H0 S σ F H E e r hw => by
  refine PS.w (ps_for (g := gOf X.K tg) k.own k.c.calm pi_w (pg_of k.c.calm k.c.nm k.c.nd ht fun x hx => k.loc' hx) pss_w (nset_eq hs X.env)) ?_
  let f : FL.D → St → Out Fl := fun x S => (bindT tg x S).bind fun S2 => evSs Φ wf b S2
  have hw : WnS X.K F0 H0 W E ((evi Φ it S).bind fun xs => forM f xs S) := hw
  refine hI H0 S σ F H _ r ((WnS.e e hw).imp fun ds F1 H1 _ e1 h1 hz J wk => ?_)
  have hb1 : Ext F0 H0 F1 H1 := e.trans e1
  have conv : ∀ {F' H' : Hp}, Ext F1 H0 F' H' → Ext F0 H0 F' H' := fun {F' H'} z => ⟨hb1.ff.trans z.ff, z.hh, z.fh, fun b o w => by
    rcases z.nw b o w with q | q
    · exact hb1.nw b o q
    · exact .inr q⟩
  refine for_it wk (fun i σ' H' => ∃ S' F', Ext F1 H0 F' H' ∧ Rp X.K H0 S' σ' F' H' ∧ WnS X.K F0 H0 W E (forM f (ds.drop i) S')) ?_ ?_ ?_ ?_
  · exact ⟨S, F1, ⟨Same.refl F1, hb1.hh, hb1.fh, fun b o z => .inl z⟩, r.ext e1, h1⟩
  · rintro i σ' H' _ ⟨S', F', e2, _⟩
    exact fun b o z => e2.fh b o (e2.ff b o z)
  · rintro i x σ' Hi Hi' hlt ⟨S', F', e2, r2, h2⟩ y
    obtain ⟨d, F2, hd, e3, dx⟩ := y F' e2.ff e2.fh
    have ed : ds.drop i = d :: ds.drop (i + 1) := by
      have := List.drop_eq_getElem_cons hlt
      rw [this]
      rw [List.getElem?_eq_getElem hlt] at hd
      rw [Option.some.inj hd]
    rw [ed] at h2
    have h2 : WnS X.K F0 H0 W E (((bindT tg d S').bind fun S2 => evSs Φ wf b S2).bind fun r => match r with
      | .nx S' => forM f (ds.drop (i + 1)) S'
      | .rt d => .ok (.rt d)) := h2
    cases hbd : bindT tg d S' with
    | exc q => exact absurd hbd (bindT_noexc _ _ _ _)
    | bad =>
      rw [hbd] at h2
      exact h2.elim
    | ok S2 =>
      rw [hbd] at h2
      have h2 : WnS X.K F0 H0 W E ((evSs Φ wf b S2).bind fun r => match r with
        | .nx S' => forM f (ds.drop (i + 1)) S'
        | .rt d => .ok (.rt d)) := h2
      refine g_ok (r2.ext e3) dx hbd fun σ2 r3 _ _ => ?_
      have e4 : Ext F1 H0 F2 Hi' := e2.trans e3
      refine hb F1 H0 S2 σ2 F2 Hi' _ e4 r3 ?_
      cases q : evSs Φ wf b S2 with
      | ok fl =>
        rw [q] at h2
        cases fl with
        | nx S3 => exact fun σ3 F3 H3 e5 r5 => ⟨S3, F3, e5, r5, h2⟩
        | rt dd => exact fun v F3 H3 e5 dv => h2 v F3 H3 (conv e5) dv
      | exc j =>
        rw [q] at h2
        exact h2
      | bad =>
        rw [q] at h2
        exact h2.elim
  · rintro σ' H' ⟨S', F', e2, r2, h2⟩
    rw [List.drop_length] at h2
    exact h2 σ' F' H' (conv e2) r2
/-- while -/
theorem s1_whl {c : CE} {v : Expr} {b : CSs} {x : List Stmt} (k : Sok Γ Φ n W N sc X) (hc : ST Φ (fun _ => W) X c v) (hb : SSs Φ wf W X b x) : S1 Φ wf W X (.whl c b) (.While v x [] pos) := fun F0 H0 S σ F H E e r hw => by
  refine PS.w (ps_while k.own pt_w pss_w) ?_
  refine ⟨fun m σ' H' => ∃ S' F', Ext F0 H0 F' H' ∧ Rp X.K H0 S' σ' F' H' ∧ WnS X.K F0 H0 W E (whlM (fun S => (ev Φ c S).bind tru) (fun S => evSs Φ wf b S) m S'), ⟨wf, S, F, e, r, hw⟩, ?_⟩
  rintro m σ' H' ⟨S', F', e2, r2, h2⟩
  cases m with
  | zero => exact h2.elim
  | succ m =>
    have h2 : WnS X.K F0 H0 W E (((ev Φ c S').bind tru).bind fun t => if t = true then (evSs Φ wf b S').bind fun r => (match r with
      | .nx S' => whlM (fun S => (ev Φ c S).bind tru) (fun S => evSs Φ wf b S) m S'
      | .rt d => .ok (.rt d)) else .ok (.nx S')) := h2
    refine hc H0 S' σ' F' H' _ r2 ((WnS.e e2 h2).imp fun t F1 H1 _ e3 h3 => ?_)
    cases t with
    | false => exact h3 σ' F1 H1 (e2.trans e3) (r2.ext e3)
    | true =>
      rw [if_pos rfl] at h3 ⊢
      refine ⟨fun σ3 H3 => ∃ S3 F3, Ext F0 H0 F3 H3 ∧ Rp X.K H0 S3 σ3 F3 H3 ∧ WnS X.K F0 H0 W E (whlM (fun S => (ev Φ c S).bind tru) (fun S => evSs Φ wf b S) m S3), fun σ3 H3 z => ⟨m, Nat.lt_succ_self m, z⟩, ?_⟩
      refine hb F0 H0 S' σ' F1 H1 _ (e2.trans e3) (r2.ext e3) ?_
      cases q : evSs Φ wf b S' with
      | ok fl =>
        rw [q] at h3
        cases fl with
        | nx S3 => exact fun σ3 F3 H3 e5 r5 => ⟨S3, F3, e5, r5, h3⟩
        | rt dd => exact h3
      | exc j =>
        rw [q] at h3
        exact h3
      | bad =>
        rw [q] at h3
        exact h3.elim
/-! ### blocks -/
theorem ss_nil : SSs Φ wf W X .nil [] := fun F0 H0 S σ F H E e r hw => PSs.w pss_nil (hw σ F H e r)
theorem ss_cons {c : CS} {cs : CSs} {st : Stmt} {sts : List Stmt} (h : S1 Φ wf W X c st) (hs : SSs Φ wf W X cs sts) : SSs Φ wf W X (.cons c cs) (st :: sts) := fun F0 H0 S σ F H E e r hw => by
  refine PSs.w (pss_cons ps_w pss_w) ?_
  have hw : WnS X.K F0 H0 W E ((evS Φ wf c S).bind fun r => match r with
    | .nx S' => evSs Φ wf cs S'
    | .rt d => .ok (.rt d)) := hw
  refine h F0 H0 S σ F H _ e r ?_
  cases q : evS Φ wf c S with
  | ok fl =>
    rw [q] at hw
    cases fl with
    | nx S' => exact fun σ' F' H' e' r' => hs F0 H0 S' σ' F' H' E e' r' hw
    | rt d => exact hw
  | exc j =>
    rw [q] at hw
    exact hw
  | bad =>
    rw [q] at hw
    exact hw.elim
theorem ss_frz {i : Nat} {cs : CSs} {sts : List Stmt} (hs : SSs Φ wf W X cs sts) : SSs Φ wf W X (.cons (.frz i) cs) sts := fun F0 H0 S σ F H E e r hw => by
  have hw : WnS X.K F0 H0 W E ((match S[i]? with
      | some (.ow d) => Out.ok (Fl.nx (S.set i (.fz d)))
      | some (.fz _) => .ok (.nx S)
      | _ => .bad).bind fun r => match r with
    | .nx S' => evSs Φ wf cs S'
    | .rt d => .ok (.rt d)) := hw
  cases q : S[i]? with
  | none =>
    rw [q] at hw
    exact hw.elim
  | some sl =>
    rw [q] at hw
    cases sl with
    | no => exact hw.elim
    | fz d => exact hs F0 H0 S σ F H E e r hw
    | ow d =>
      obtain ⟨a, o, h0, nF, ha, r2⟩ := r.frz q
      exact hs F0 H0 _ σ _ H E (e.freeze nF ha h0) r2 hw
end
end FL

set_option Elab.async false
set_option maxRecDepth 100000
set_option maxHeartbeats 4000000
/-! FLtry: try with except clauses that store a constant. -/
namespace FL
open PySem PySem.Spec PyProof.Rows L2
def STB (Φ : Nat → List D → Out D) (W : L2.St → Nat → Hp → Prop) (X : Cx) (b : TB) (sts : List Stmt) : Prop := ∀ (Wo : Nat → Hp → Prop) (F0 H0 : Hp) (S : St) (σ : L2.St) (F H : Hp) (E : Ends), Ext F0 H0 F H → Rp X.K H0 S σ F H →
  Wn F H (W σ) (fun fl _ _ => WnS X.K F0 H0 Wo E (.ok fl)) (evT Φ b S) → wSs X sts E σ H
section
variable {Γ : Gm} {Φ : Nat → List D → Out D} {wf : Nat} {n : Nat} {W : L2.St → Nat → Hp → Prop} {N : List Str} {sc : Scope} {X : Cx} {pos : Pos}
theorem stb_set {i : Nat} {c : CE} {x : Str} {v : Expr} {p : Pos} (k : Cok Γ Φ n W N sc X) (fnT : ∀ x, X.fn x = true) (hi : N[i]? = some x) (hx : locB sc x = true) (h : SE Φ W X c v) (pk : isPk c = false) (hl : nlcB v = true) :
    STB Φ W X (.set i c) [.Assign [.Name x p] v pos] := fun Wo F0 H0 S σ F H E e r hw => by
  refine PSs.w (pss_cons (ps_set (i := i) (by rw [k.nm]; exact k.nd) (by rw [k.nm]; exact hi) (k.loc hx) pe_w (nlc_swaps hl _ _ _) (.inl (fnT x))) pss_nil) ?_
  have hw : Wn F H (W σ) (fun fl _ _ => WnS X.K F0 H0 Wo E (.ok fl)) ((ev Φ c S).bind fun d => .ok (.nx (S.set i (.fz d)))) := hw
  refine h H0 S σ F H _ r (hw.bind.imp fun d F1 H1 _ e1 h1 w tv dv => ?_)
  exact h1 F1 H1 (Ext.refl e1.fh) _ F1 H1 (e.trans e1) ((r.ext e1).set (dv pk))
theorem stb_exp {c : CE} {v : Expr} (h : SE Φ W X c v) (hl : nlcB v = true) : STB Φ W X (.exp c) [.Expr v pos] := fun Wo F0 H0 S σ F H E e r hw => by
  refine PSs.w (pss_cons (ps_expr pe_w (nlc_swaps hl _ _ _)) pss_nil) ?_
  have hw : Wn F H (W σ) (fun fl _ _ => WnS X.K F0 H0 Wo E (.ok fl)) ((ev Φ c S).bind fun d => .ok (.nx S)) := hw
  refine h H0 S σ F H _ r (hw.bind.imp fun d F1 H1 _ e1 h1 w tv dv => ?_)
  exact h1 F1 H1 (Ext.refl e1.fh) _ F1 H1 (e.trans e1) (r.ext e1)
theorem stb_iff {c : CE} {v : Expr} {a b : TB} {x y : List Stmt} (hc : ST Φ W X c v) (ha : STB Φ W X a x) (hb : STB Φ W X b y) : STB Φ W X (.iff c a b) [.If v x y pos] := fun Wo F0 H0 S σ F H E e r hw => by
  refine PSs.w (pss_cons (ps_if pt_w pss_w pss_w) pss_nil) ?_
  have e0 : evT Φ (.iff c a b) S = ((ev Φ c S).bind tru).bind fun t => if t = true then evT Φ a S else evT Φ b S := by
    show ((ev Φ c S).bind fun x => (tru x).bind fun t => if t = true then evT Φ a S else evT Φ b S) = _
    cases ev Φ c S <;> rfl
  rw [e0] at hw
  refine hc H0 S σ F H _ r (hw.bind.imp fun t F1 H1 _ e1 h1 => ?_)
  cases t with
  | true => exact ha Wo F0 H0 S σ F1 H1 E (e.trans e1) (r.ext e1) h1
  | false => exact hb Wo F0 H0 S σ F1 H1 E (e.trans e1) (r.ext e1) h1
end
section
variable {Γ : Gm} {Φ : Nat → List D → Out D} {wf : Nat} {n : Nat} {W : Nat → Hp → Prop} {N : List Str} {sc : Scope} {X : Cx} {pos : Pos}
/-- the reading of a suite, in every context of one -/
def tsB (X : Cx) (suite : List Stmt) : Addr → Value → Option Addr → TS := fun a cls d D σ H => ∀ (oe : Obj) (pn : List (Addr × Obj)), Zc cls d oe → (∃ vs, oe.data = .fields vs) → wSs (X.suite a ((a, oe) :: pn)) suite D σ H
inductive HdR (Γ : Gm) (N : List Str) (sc : Scope) (X : Cx) : List (Nat × Nat × D) → List ExceptHandler → List (Value × (Addr → Value → Option Addr → TS)) → Prop
  | nil : HdR Γ N sc X [] [] []
  | cons {j i : Nat} {d : D} {x y : Str} {cv : Value} {c : Const} {kc : Nat} {p1 p2 p3 p4 p5 : Pos} {r : List (Nat × Nat × D)} {hs : List ExceptHandler} {l : List (Value × (Addr → Value → Option Addr → TS))}
      (h1 : Γ.ex j = some x) (h2 : glB sc x = true) (h3 : N[i]? = some y) (h4 : locB sc y = true) (h5 : constIs c d = true) (h6 : X.mg x = some cv) (t : HdR Γ N sc X r hs l) :
      HdR Γ N sc X ((j, i, d) :: r) (.ExceptHandler (some (.Name x p1)) none [.Assign [.Name y p2] (.Constant c kc p3) p4] p5 :: hs) ((cv, tsB X [.Assign [.Name y p2] (.Constant c kc p3) p4]) :: l)
theorem hdR_of (k : Sok Γ Φ n W N sc X) : ∀ (hs : List (Nat × Nat × D)) (hds : List ExceptHandler), chkH Γ N sc hs hds = true → ∃ l, HdR Γ N sc X hs hds l
  | [], [], _ => ⟨[], .nil⟩
  | [], _ :: _, h => by simp [chkH] at h
  | (j, i, d) :: r, hds, h => by
    unfold chkH at h
    split at h
    · exact absurd (by assumption : (j, i, d) :: r = []) (by simp)
    · rename_i j' i' d' r' x p1 y p2 c kc p3 p4 p5 hs e1
      cases e1
      split at h
      · rename_i x' hx
        simp only [Bool.and_eq_true, decide_eq_true_eq] at h
        obtain ⟨rfl, h2, h3, h4, h5, h6⟩ := h
        obtain ⟨l, hl⟩ := hdR_of k r hs h6
        obtain ⟨C, hC, _⟩ := k.exs j x hx
        exact ⟨_, .cons hx h2 h3 h4 h5 hC hl⟩
      · cases h
    · cases h
theorem hdR_ok (k : Sok Γ Φ n W N sc X) {hs : List (Nat × Nat × D)} {hds : List ExceptHandler} {l : List (Value × (Addr → Value → Option Addr → TS))} (h : HdR Γ N sc X hs hds l) : HdsOk X hds l := by
  induction h with
  | nil => exact .nil
  | cons h1 h2 h3 h4 h5 h6 t ih =>
    obtain ⟨g1, g2, g3⟩ := k.c.gl h2
    exact .cons ⟨g1, g2, .inl h6⟩ (fun a oe cls d pn hz hf => ⟨fun pins s σ H D I h => h oe pn hz hf pins s I⟩) ih
theorem hnd_ok (k : Sok Γ Φ n W N sc X) {j : Nat} {cls : Value} (hj : exv Γ X.mg j = some cls) {F0 H0 : Hp} {S : St} {σ : L2.St} {F H H' : Hp} {E : Ends} (e : Ext F0 H0 F H) (r : Rp X.K H0 S σ F H) (sm : Same H H')
    {hs : List (Nat × Nat × D)} {hds : List ExceptHandler} {l : List (Value × (Addr → Value → Option Addr → TS))} (h : HdR Γ N sc X hs hds l) : WnS X.K F0 H0 W E (hnd hs j S) → wMany X.K (fun cls d _ H => EW Γ X.mg W cls d H) E l cls none σ H' := by
  have e' : Ext F H F H' := ⟨Same.refl F, sm, r.fh.trans sm, fun _ _ z => .inl z⟩
  induction h with
  | nil => exact fun hw => ⟨rfl, j, hj, hw H' (e.hh.trans sm)⟩
  | @cons j' i d x y cv c kc p1 p2 p3 p4 p5 r' hs' l' h1 h2 h3 h4 h5 h6 t ih =>
    intro hw
    cases q : Γ.ex j with
    | none =>
      unfold exv at hj
      rw [q] at hj
      cases hj
    | some z =>
      obtain ⟨C, D', m1, m2, m3⟩ := k.sub j j' z x q h1
      have ec : cls = .ref C := by
        unfold exv at hj
        rw [q] at hj
        have hj : X.mg z = some cls := hj
        rw [m1] at hj
        exact (Option.some.inj hj).symm
      have ed : cv = .ref D' := by
        rw [m2] at h6
        exact (Option.some.inj h6).symm
      subst ec ed
      have hw : WnS X.K F0 H0 W E (if subX j j' = true then .ok (.nx (S.set i (.fz d))) else hnd r' j S) := hw
      refine ⟨subX j j', m3, fun b a na oe pn hz hf => ?_, fun b => ?_⟩
      · rw [if_pos b] at hw
        refine PSs.w (pss_cons (ps_set (X := X.suite a ((a, oe) :: pn)) (i := i) (by show X.N.Nodup; rw [k.c.nm]; exact k.c.nd) (by show X.N[i]? = some y; rw [k.c.nm]; exact h3) (k.c.loc h4) pe_w (nlc_swaps rfl _ _ _) (.inl (k.fnT y))) pss_nil) ?_
        refine (se_con (Φ := Φ) (W := W0) (X := X.suite a ((a, oe) :: pn)) h5) H0 S σ F H' _ (r.ext e') ?_
        intro F1 H1 e1 v tv dv
        exact hw _ F1 H1 ((e.trans e').trans e1) (((r.ext e').ext e1).set (dv rfl))
      · rw [b] at hw
        exact ih hw
theorem s1_try {b : TB} {hs : List (Nat × Nat × D)} {body : List Stmt} {h₀ : ExceptHandler} {hds : List ExceptHandler} (k : Sok Γ Φ n W N sc X) (hb : ∀ W' X', Cok Γ Φ n W' N sc X' → (∀ x, X'.fn x = true) → STB Φ W' X' b body) (hh : chkH Γ N sc hs (h₀ :: hds) = true) :
    S1 Φ wf W X (.try_ b hs) (.Try body (h₀ :: hds) [] [] pos) := fun F0 H0 S σ F H E e r hw => by
  obtain ⟨l, hl⟩ := hdR_of k hs (h₀ :: hds) hh
  refine PS.w (ps_try_many (tb := fun W' D σ H => ∀ (pn : List (Addr × Obj)) (xe : Value → Shared → Prop), Takes (X.tr pn xe) W' → PassesOwn (model X.prog X.w) X.A X.env xe → wSs (X.tr pn xe) body D σ H) k.stk k.frm k.tk (fun W' pn xe tk' ow => ⟨fun pins s σ H D I h => h pn xe tk' ow pins s I⟩) (hdR_ok k hl)) ?_
  intro pn xe tk' ow
  let W' : L2.St → Nat → Hp → Prop := fun σ' j H' => ∀ cls, exv Γ X.mg j = some cls → wMany X.K (fun cls d _ H => EW Γ X.mg W cls d H) E l cls none σ' H'
  have tk2 : Takes (X.tr pn xe) (fun cls d σ' H' => EW Γ X.mg (W' σ') cls d H') := tk'.imp fun cls d σ' H' q => by
    obtain ⟨rfl, j, q1, q2⟩ := q
    exact q2 cls q1
  have k' : Cok Γ Φ n W' N sc (X.tr pn xe) := ⟨k.c.nm, k.c.nd, k.c.sc, k.c.calm, k.c.room, k.c.fns, k.c.free, k.c.glo, fun σ' => passAt tk2 σ'⟩
  refine hb W' _ k' k.fnT W F0 H0 S σ F H E e r ?_
  have hw : WnS X.K F0 H0 W E (tryM (evT Φ b S) fun k => hnd hs k S) := hw
  cases q : evT Φ b S with
  | ok fl =>
    rw [q] at hw
    exact fun _ _ _ => hw
  | exc j =>
    rw [q] at hw
    exact fun H' sm cls hj => hnd_ok k hj e r sm hl hw
  | bad =>
    rw [q] at hw
    exact hw.elim
end
end FL

set_option Elab.async false
set_option maxRecDepth 100000
set_option maxHeartbeats 4000000
/-! FLd4: statements that make and change dicts. -/
namespace FL
open PySem PySem.Spec PyProof.Rows L2
section
variable {X : Cx} {pos : Pos}
theorem dN_empty (w : World) {h : Heap} (hb : sysModules < h.objs.size) : dNφ h.objs.size [] 0 (h.push { cls := .type "dict", data := .dict #[] }) :=
  ⟨beq_eq_false_iff_ne.mpr (Ne.symm (Nat.ne_of_lt hb)), Nat.zero_le _, List.nodup_nil, fun x hx => (by cases hx), ⟨w, [], _, #[], .nil, Heap.get?_push_size _ rfl, ⟨rfl, rfl, rfl⟩, rfl, rfl⟩⟩
/-- {} -/
def tNew0 : TE := fun _ H Q => ∀ p, H p = none → Q (.ref p) (upd H p (dN p [] 0))
theorem inv_emptyN {pins : List (Addr × Obj)} {σ : L2.St} {H : Hp} {s : Shared} (J : Inv X pins σ H s) : Inv X pins σ (upd H s.heap.objs.size (dN s.heap.objs.size [] 0)) { s with heap := s.heap.push { cls := .type "dict", data := .dict #[] } } :=
  J.laid (a := s.heap.objs.size) (o := dN _ [] 0) (t' := s.toks) (fun c o z => Heap.get?_push_of_some _ z) (Nat.le_refl _) (dN_new (dN_empty X.w J.big))
theorem pe_new0 : PE X (.Dict [] [] pos) tNew0 := ⟨fun pins s σ H Q J q => wpAny_Dict_empty ⟨.ref s.heap.objs.size, _, inv_emptyN J, rfl, q _ (J.hok.fresh (Nat.le_refl _))⟩⟩
/-- {k: v}: k a tuple -/
def qNew1 (X : Cx) (p : Addr) (Q : VK) : List (V × V) → Hp → Prop := fun ps H2 => ∃ (x y : V) (F2 : Hp) (b : Addr) (d : D), ps = [(x, y)] ∧ x = .ref b ∧ Same F2 H2 ∧ tkD d = true ∧ DD X.K F2 (.ref b) d ∧ H2 p = some (dN p [] 0) ∧
  ∀ (k : NestedKey) (ep : Nat), nk d = some k → Q (.ref p) (upd H2 p (dN p [(k, b, y)] ep))
def tNew1 (X : Cx) (tk tv : TE) : TE := fun σ H Q => ∀ p, H p = none → tPairs [(tk, tv)] σ (upd H p (dN p [] 0)) (qNew1 X p Q)
theorem pe_new1 {k v : Expr} {tk tv : TE} (hu : X.A.units + 66 < cLine) (hk : PE X k tk) (hv : PE X v tv) : PE X (.Dict [some k] [v] pos) (tNew1 X tk tv) := by
  refine ⟨fun pins s σ H Q J h => ?_⟩
  have np := J.hok.fresh (Nat.le_refl s.heap.objs.size)
  have J1 := inv_emptyN J
  rw [arm_eval_Dict]
  have shape : (evalEachOpt [some k] X.env).zip ((evalEach [v] X.env).map fun c => do let x ← c; standAt pos; pure x) = (pairTrees [some k] [v] X.env pos).map fun q => (some q.1, q.2) := rfl
  rw [shape, dictDisplay_pairs (pairTrees [some k] [v] X.env pos) (by intro z; cases z) (by show 1 < 17; decide)]
  refine wpAny_bind (wpAny_standAt (wpAny_bind (wpAny_subDictH (knd := nestedKind X.prog X.w) (by show X.A.units + 8 < cLine; omega) (by show 1 ≤ 15; decide) ?_)))
  refine thn ((pps_cons hk hv pps_nil).run pins _ σ _ _ J1 (h _ np)) fun ws s2 ⟨ps, H2, J2, rel, x, y, F2, b, d, eps, ex, sm, tkd, hb, hp, q2⟩ => ?_
  subst ex
  subst eps
  cases rel with
  | @cons _ w _ ws' rw' rt =>
    cases rt
    obtain ⟨w1, w2⟩ := w
    obtain ⟨ra, rb⟩ := rw'
    obtain rfl : w1 = Value.ref b := ra
    obtain ⟨ds, ks, rfl, _, e, _⟩ := tkD_of tkd
    have is := tk_is J2 sm hb tkd e
    obtain ⟨ys, ry, dd, _⟩ := dN_of (P := X.prog) (w := X.w) (dN_at J2 hp) (fun x hx => (by cases hx))
    cases ry
    refine ⟨[(.tup ks, b, w2)], ⟨rfl, rfl, is, trivial⟩, dd, fun h' t' dd' same => wpAny_pure ?_⟩
    obtain ⟨ep, x'⟩ := dN_is (xs := [(.tup ks, b, y)]) (dN_at J2 hp).1 (by simp; decide) (fun x hx => by
      have ee : x = (.tup ks, b, y) := by simpa using hx
      rw [ee]
      exact nk_num e) (.cons ⟨rfl, rfl, rb⟩ .nil) dd'
    refine ⟨.ref s.heap.objs.size, _, d_write J2 (by rw [hp]; exact trivial) same ?_ (dN_new x'), rfl, q2 _ ep e⟩
    obtain ⟨o, _, _, ho, _⟩ := dd'
    exact ⟨o, ho⟩
/-- o[i] = v, by its meaning -/
def wSet (X : Cx) : V → V → V → Hp → (Hp → Prop) → Prop := fun x y v H Q => ∀ (pins : List (Addr × Obj)) (s : Shared) (σ : L2.St) (ux uy uv : Value), Inv X pins σ H s → RelV x ux → RelV y uy → RelV v uv → wpAny (model X.prog X.w) X.A (setItem ux uy uv) (fun _ s' => ∃ H', Inv X pins σ H' s' ∧ Q H') X.xe s
def tSetI (X : Cx) (td ty tv : TE) : TS := fun D σ H => tv σ H fun v H1 => td σ H1 fun x H2 => ty σ H2 fun y H3 => wSet X x y v H3 fun H4 => D.nx σ H4
theorem ps_setI {o i value : Expr} {td ty tv : TE} {p : Pos} (ho : PE X o td) (hi : PE X i ty) (hv : PE X value tv) (hs : swapsWith value (some (.Subscript o i p)) pos.line X.env = pure false) : PS X (.Assign [.Subscript o i p] value pos) (tSetI X td ty tv) := by
  refine ⟨fun pins s σ H D J h => ?_⟩
  refine wpAny_Assign_Subscript (thn (hv.run pins s σ H _ J h) fun uv s1 ⟨v, H1, J1, rv, q1⟩ => thn (ho.run pins s1 σ H1 _ J1 q1) fun ux s2 ⟨x, H2, J2, rx, q2⟩ => thn (hi.run pins s2 σ H2 _ J2 q2) fun uy s3 ⟨y, H3, J3, ry, q3⟩ => ?_) hs
  exact thn (q3 pins s3 σ ux uy uv J3 rx ry rv) fun _ s4 ⟨H4, J4, q4⟩ => ⟨σ, H4, J4, q4⟩
end
section
variable {Γ : Gm} {Φ : Nat → List D → Out D} {wf : Nat} {n : Nat} {W : Nat → Hp → Prop} {N : List Str} {sc : Scope} {X : Cx} {pos : Pos}
/-- name = {} -/
theorem s1_setd0 {i : Nat} {x : Str} {p p2 : Pos} (k : Sok Γ Φ n W N sc X) (hi : N[i]? = some x) (hx : locB sc x = true) : S1 Φ wf W X (.setd i .nil .nil) (.Assign [.Name x p] (.Dict [] [] p2) pos) := fun F0 H0 S σ F H E e r hw => by
  obtain ⟨l1, l2⟩ := k.loc' hx
  refine PS.w (ps_set (i := i) (by rw [k.c.nm]; exact k.c.nd) (by rw [k.c.nm]; exact hi) l1 pe_new0 (nlc_swaps rfl _ _ _) l2) ?_
  intro q nq
  exact hw _ F _ (e.trans (Ext.lay r.fh nq)) (r.setO e.hh nq (.inr ⟨[], 0, [], rfl, upd_same, .nil⟩))
/-- what a dict of one tuple wants -/
theorem new1_w {ck cv : CE} {ke ve : Expr} {H0 : Hp} {S : St} {σ : L2.St} {F H : Hp} {Q : VK} {W' : L2.St → Nat → Hp → Prop} {R : D → D → Hp → Hp → Prop} (hk : SE Φ W' X ck ke) (hv : SE Φ W' X cv ve) (pk : isPk ck = false) (pv : isPk cv = false) (r : Rp X.K H0 S σ F H)
    (hw : ∀ p, H p = none → Wn F (upd H p (dN p [] 0)) (W' σ) (fun x F1 H1 => Wn F1 H1 (W' σ) (fun y F2 H2 => tkD x = true ∧ ∀ (b : Addr) (v : V) (k : NestedKey) (ep : Nat), nk x = some k → DD X.K F2 (.ref b) x → DD X.K F2 v y → F2 p = none → H2 p = some (dN p [] 0) → Q (.ref p) (upd H2 p (dN p [(k, b, v)] ep))) (ev Φ cv S)) (ev Φ ck S)) : tNew1 X (wE X ke) (wE X ve) σ H Q := by
  intro p np
  have e1 : Ext F H F (upd H p (dN p [] 0)) := Ext.lay r.fh np
  refine hk H0 S σ F _ _ (r.ext e1) ((hw p np).imp fun x F1 H1 _ e2 h1 v tv dv => ?_)
  refine hv H0 S σ F1 H1 _ ((r.ext e1).ext e2) (h1.imp fun y F2 H2 _ e3 h2 u tu du => ?_)
  obtain ⟨tk, h2⟩ := h2
  obtain ⟨ds, ks, rfl, _, e, _⟩ := tkD_of tk
  obtain ⟨b, _, rfl, _⟩ := (tv.ext e3).tup
  have hb : DD X.K F2 (.ref b) (.tuple ds) := (dv pk).mono e3.ff
  have e23 := e2.trans e3
  exact ⟨_, _, F2, b, .tuple ds, rfl, rfl, e3.fh, tk, hb, e23.hh p _ upd_same, fun k ep hk => h2 b u k ep hk hb (du pv) (e23.notF (r.fh.free np) upd_same) (e23.hh p _ upd_same)⟩
/-- name = {k: v} -/
theorem s1_setd1 {i : Nat} {ck cv : CE} {x : Str} {ke ve : Expr} {p p2 : Pos} (k : Sok Γ Φ n W N sc X) (hi : N[i]? = some x) (hx : locB sc x = true) (hk : SE Φ (fun _ => W) X ck ke) (hv : SE Φ (fun _ => W) X cv ve) (pk : isPk ck = false) (pv : isPk cv = false) :
    S1 Φ wf W X (.setd i (.cons ck .nil) (.cons cv .nil)) (.Assign [.Name x p] (.Dict [some ke] [ve] p2) pos) := fun F0 H0 S σ F H E e r hw => by
  obtain ⟨l1, l2⟩ := k.loc' hx
  refine PS.w (ps_set (i := i) (by rw [k.c.nm]; exact k.c.nd) (by rw [k.c.nm]; exact hi) l1 (pe_new1 k.c.u pe_w pe_w) (nlc_swaps rfl _ _ _) l2) ?_
  refine new1_w (R := fun _ _ _ _ => True) hk hv pk pv r fun q nq => ?_
  have e1 : Ext F0 H0 F (upd H q (dN q [] 0)) := e.trans (Ext.lay r.fh nq)
  have hw : WnS X.K F0 H0 W E ((ev Φ ck S).bind fun a => (ev Φ cv S).bind fun b => (Out.guard (tkD a) (.ok (.dict [mkD, (a, b)]))).bind fun d => .ok (.nx (S.set i (.ow d)))) := by
    have e0 : evS Φ wf (.setd i (.cons ck .nil) (.cons cv .nil)) S = ((ev Φ ck S).bind fun a => (ev Φ cv S).bind fun b => (Out.guard (tkD a) (.ok (.dict [mkD, (a, b)]))).bind fun d => .ok (.nx (S.set i (.ow d)))) := by
      show (((ev Φ ck S).bind fun x => Out.ok [x]).bind fun xs => ((ev Φ cv S).bind fun y => Out.ok [y]).bind fun ys => (newN xs ys).bind fun d => Out.ok (Fl.nx (S.set i (.ow d)))) = _
      cases ev Φ ck S with
      | ok a => cases ev Φ cv S <;> rfl
      | exc j => rfl
      | bad => rfl
    rw [e0] at hw
    exact hw
  refine (WnS.e e1 hw).imp fun a F1 H1 _ e2 h1 => ?_
  refine (WnS.e (e1.trans e2) h1).imp fun b F2 H2 _ e3 h2 => ?_
  cases g : tkD a with
  | false =>
    rw [g] at h2
    exact h2.elim
  | true =>
    rw [g] at h2
    refine ⟨rfl, fun bb v key ep hkey hb hv nF hp => ?_⟩
    have e4 := (e1.trans e2).trans e3
    have h0 : H0 q = none := e.hh.free nq
    have rr : Rp X.K H0 S σ F2 H2 := ((r.ext (Ext.lay r.fh nq)).ext e2).ext e3
    have nw := (r.ext (Ext.refl r.fh)).new nq
    have r5 : Rp X.K H0 S σ F2 (upd H2 q (dN q [(key, bb, v)] ep)) := by
      refine ⟨fun c o z => ?_, rr.len, rr.fz, fun j d z => ?_, rr.ne⟩
      · rw [upd_ne (ne_of_none z nF)]
        exact rr.fh c o z
      · obtain ⟨a', q1, q2, q3, q4⟩ := rr.ow j d z
        have ne : a' ≠ q := fun z' => by
          subst z'
          exact nw j d z q1
        exact ⟨a', q1, q2, q3, q4.mono (Same.refl F2) fun o z => by rw [upd_ne ne]; exact z⟩
    refine h2 _ F2 _ (Ext.mutO e4 h0 nF) (r5.setP h0 nF (.inr ⟨_, ep, _, rfl, upd_same, .cons hkey g hb hv .nil⟩) nw)
/-- name = {"a": x, ..} -/
theorem s1_setk {i : Nat} {ks : List D} {cs : CEs} {x : Str} {kes : List (Option Expr)} {ves : List Expr} {p p2 : Pos} (k : Sok Γ Φ n W N sc X) (hi : N[i]? = some x) (hx : locB sc x = true) (hse : SEs Φ (fun _ => W) X cs ves) (hk : chkK ks kes = true) (hv : chks Γ N sc cs ves = true) :
    S1 Φ wf W X (.setk i ks cs) (.Assign [.Name x p] (.Dict kes ves p2) pos) := fun F0 H0 S σ F H E e r hw => by
  obtain ⟨l1, l2⟩ := k.loc' hx
  refine PS.w (ps_set (i := i) (by rw [k.c.nm]; exact k.c.nd) (by rw [k.c.nm]; exact hi) l1 pe_w (nlc_swaps rfl _ _ _) l2) ?_
  have hw : WnS X.K F0 H0 W E ((evs Φ cs S).calm.bind fun ds => (dspD ks ds).bind fun d => .ok (.nx (S.set i (.ow d)))) := hw
  cases qa : evs Φ cs S with
  | bad =>
    rw [qa] at hw
    exact hw.elim
  | exc j =>
    rw [qa] at hw
    exact hw.elim
  | ok ds =>
    rw [qa] at hw
    have hw : WnS X.K F0 H0 W E ((dspD ks ds).bind fun d => .ok (.nx (S.set i (.ow d)))) := hw
    unfold dspD at hw
    cases g : (decide (ks.length = ds.length) && (ks.all keyD && (!ks.isEmpty && decide (ks.length ≤ 15)))) with
    | false =>
      rw [g] at hw
      exact hw.elim
    | true =>
      rw [g] at hw
      refine dsp_any (W := fun _ => W) hse hk hv r qa g fun q F2 H2 l nq nF2 hq2 ff hh fh nw t => ?_
      have e2 : Ext F H F2 H2 := ⟨ff, hh, fh, nw⟩
      have h0 : H0 q = none := e.hh.free nq
      have un := r.new nq
      have rr := r.ext e2
      have r5 : Rp X.K H0 S σ F2 (upd H2 q (.dK l)) := by
        refine ⟨fun c o z => ?_, rr.len, rr.fz, fun j d z => ?_, rr.ne⟩
        · rw [upd_ne (ne_of_none z nF2)]
          exact rr.fh c o z
        · obtain ⟨a', q1, q2, q3, q4⟩ := rr.ow j d z
          have ne : a' ≠ q := fun z' => by
            subst z'
            exact un j d z q1
          exact ⟨a', q1, q2, q3, q4.mono (Same.refl F2) fun o z => by rw [upd_ne ne]; exact z⟩
      exact hw _ F2 _ (Ext.mutO (e.trans e2) h0 nF2) (r5.setP h0 nF2 (.inl ⟨l, upd_same, t⟩) un)
/-- x[k] = v -/
theorem s1_put {i : Nat} {ck cv : CE} {x : Str} {ke ve : Expr} {p p2 : Pos} (k : Sok Γ Φ n W N sc X) (hi : N[i]? = some x) (hx : visB sc x = true) (hd : ndB x = true) (hk : SE Φ (fun _ => W) X ck ke) (hv : SE Φ (fun _ => W) X cv ve) (pk : isPk ck = false) (pv : isPk cv = false) (hl : nlcB ve = true) :
    S1 Φ wf W X (.put i ck cv) (.Assign [.Subscript (.Name x p) ke p2] ve pos) := fun F0 H0 S σ F H E e r hw => by
  obtain ⟨d1, d2⟩ := nd_of hd
  refine PS.w (ps_setI (pe_var (i := i) (by rw [k.c.nm]; exact hi) (k.c.vis hx) d1 d2) pe_w pe_w (nlc_swaps hl _ _ _)) ?_
  have hw : WnS X.K F0 H0 W E ((ev Φ cv S).bind fun y => (ownA S i).bind fun d => (ev Φ ck S).bind fun x => (putA d x y).bind fun d' => Out.ok (Fl.nx (S.set i (.ow d')))) := hw
  refine hv H0 S σ F H _ r ((WnS.e e hw).imp fun y F1 H1 _ e1 h1 v tv dv => ?_)
  have dv := dv pv
  have e01 := e.trans e1
  unfold ownA at h1
  split at h1
  · rename_i d q
    have h1 : WnS X.K F0 H0 W E ((ev Φ ck S).bind fun x => (putA d x y).bind fun d' => Out.ok (Fl.nx (S.set i (.ow d')))) := h1
    obtain ⟨a, s1, h0, _, _⟩ := r.ow i d q
    refine ⟨.ref a, s1, ?_⟩
    refine hk H0 S σ F1 H1 _ (r.ext e1) ((WnS.e e01 h1).imp fun kd F2 H2 _ e2 h2 u tu du => ?_)
    have du := du pk
    have dv2 : DD X.K F2 v y := dv.mono e2.ff
    have e02 := e01.trans e2
    have rr := (r.ext e1).ext e2
    obtain ⟨a', s2, _, nF, ow⟩ := rr.ow i d q
    rw [s1] at s2
    cases s2
    cases d with
    | dict es =>
      have h2 : WnS X.K F0 H0 W E ((putO kd y es).bind fun d' => Out.ok (Fl.nx (S.set i (.ow d')))) := h2
      by_cases hm : ∃ es', es = mkD :: es'
      · obtain ⟨es', rfl⟩ := hm
        have h2 : WnS X.K F0 H0 W E ((Out.guard (tkD kd && fits es'.length) (Out.ok (PyData.dict (mkD :: putD kd y es')))).bind fun d' => Out.ok (Fl.nx (S.set i (.ow d')))) := h2
        cases g : (tkD kd && fits es'.length) with
        | false =>
          rw [g] at h2
          exact h2.elim
        | true =>
          rw [g] at h2
          rw [Bool.and_eq_true] at g
          have td : TD X.K F2 H2 (.ref a) (.dict (mkD :: es')) := .inr ⟨a, rfl, ow⟩
          obtain ⟨a2, xs, ep, ea, hN, t⟩ := td.dnn rr.fh
          cases ea
          obtain ⟨ds, ks, rfl, _⟩ := tkD_of g.1
          obtain ⟨b, _, rfl, _⟩ := tu.tup
          intro pins s' σ' ux uy uv J r1 r2 r3
          obtain rfl : ux = Value.ref a := r1
          obtain rfl : uy = Value.ref b := r2
          refine dn_put (by have := k.c.u; omega) J rr.fh hN t (by rw [t.length]; exact fits_lt g.2) g.1 du r3 dv2 fun xs' ep' s'' J' t' => ?_
          exact ⟨_, J', h2 _ F2 _ (Ext.mutO e02 h0 nF) (rr.mut q s1 nF (.inr ⟨xs', ep', _, rfl, upd_same, t'⟩))⟩
      · have eo : putO kd y es = Out.guard (keyD kd && (nscr es && fits es.length)) (.ok (.dict (putD kd y es))) := by
          unfold putO
          split
          · exact absurd ⟨_, rfl⟩ hm
          · rfl
        rw [eo] at h2
        cases g : (keyD kd && (nscr es && fits es.length)) with
        | false =>
          rw [g] at h2
          exact h2.elim
        | true =>
          rw [g] at h2
          simp only [Bool.and_eq_true] at g
          have td : TD X.K F2 H2 (.ref a) (.dict es) := .inr ⟨a, rfl, ow⟩
          obtain ⟨a2, l, ea, hK, t⟩ := td.dic rr.fh g.2.1
          cases ea
          obtain ⟨key, hkey⟩ := keyD_of g.1
          obtain rfl := keyOf_V du hkey
          intro pins s' σ' ux uy uv J r1 r2 r3
          obtain rfl : ux = Value.ref a := r1
          have ll : l.length < sizeLine := by
            have := t.length
            rw [List.length_map] at this
            rw [this]
            exact fits_lt g.2.2
          have nd : (l.map (·.1)).Nodup := by
            obtain ⟨_, _, vs, rel, dd⟩ := dk_of J.hok hK
            obtain ⟨_, _, _, _, _, _, _, nd⟩ := dd
            rw [rel.keys]
            exact nd.2
          refine d_setItem (by have := k.c.u; omega) J (DPut.k hK ll) r2 r3 fun s'' J' => ?_
          exact ⟨_, J', h2 _ F2 _ (Ext.mutO e02 h0 nF) (rr.mut q s1 nF (.inl ⟨_, upd_same, putD_V hkey dv2 t nd⟩))⟩
    | list xs =>
      cases kd with
      | int m =>
        have h2 : WnS X.K F0 H0 W E ((Out.ofOpt (ixD xs.length m)).bind fun j => Out.ok (Fl.nx (S.set i (.ow (.list (xs.set j y)))))) := by
          have h2 : WnS X.K F0 H0 W E (((Out.ofOpt (ixD xs.length m)).bind fun j => Out.ok (PyData.list (xs.set j y))).bind fun d' => Out.ok (Fl.nx (S.set i (.ow d')))) := h2
          revert h2
          cases ixD xs.length m <;> exact fun h2 => h2
        obtain rfl := tu.int
        obtain ⟨vs, hL, t⟩ := ow
        cases qj : ixD xs.length m with
        | none =>
          rw [qj] at h2
          exact h2.elim
        | some j =>
          rw [qj] at h2
          intro pins s' σ' ux uy uv J r1 r2 r3
          refine set_list pins s' σ' H2 (.ref a) (.int m) v ux uy uv _ J r1 r2 r3 ⟨a, vs, m, j, rfl, rfl, hL, by rw [t.length]; exact qj, ?_⟩
          exact h2 _ F2 _ (Ext.mutO e02 h0 nF) (rr.mut q s1 nF ⟨_, upd_same, t.set j dv2⟩)
      | _ => exact h2.elim
    | _ => exact h2.elim
  · exact h1.elim
/-- x.setdefault(k, v) -/
theorem s1_sdf {i : Nat} {ck cv : CE} {x : Str} {ke ve : Expr} {p ap cp : Pos} (k : Sok Γ Φ n W N sc X) (hi : N[i]? = some x) (hx : visB sc x = true) (hd : ndB x = true) (hk : SE Φ (fun _ => W) X ck ke) (hv : SE Φ (fun _ => W) X cv ve) (pk : isPk ck = false) (pv : isPk cv = false) (n1 : nstB ke = true) (n2 : nstB ve = true) (hl : (ap.endLine == cp.line) = true) :
    S1 Φ wf W X (.sdf i ck cv) (.Expr (.Call (.Attribute (.Name x p) "setdefault" ap) [ke, ve] [] cp) pos) := fun F0 H0 S σ F H E e r hw => by
  obtain ⟨d1, d2⟩ := nd_of hd
  have few : ((backTo cp (starEach [ke, ve] X.env)).all (fun x => !x.1) && (backToKw cp (keywordEach [] X.env)).all (fun x => x.1.isSome) && decide ([ke, ve].length + ([] : List Keyword).length + (if ([] : List Keyword).isEmpty then 0 else 1) < 30)) = true := by
    rw [nst_eq n1, nst_eq n2]
    rfl
  refine PS.w (ps_expr (pe_mth (pe_var (i := i) (by rw [k.c.nm]; exact hi) (k.c.vis hx) d1 d2) (pa_cons pe_w (pa_cons pe_w pa_nil (nst_eq n2 [] _)) (nst_eq n1 _ _)) (attr_name _ _ _ _) few hl (nst_eq n1 _ _) (by rw [nst_eq n2]; rfl)) (nlc_swaps rfl _ _ _)) ?_
  have hw : WnS X.K F0 H0 W E ((ownN S i).bind fun es => (ev Φ ck S).bind fun x => (ev Φ cv S).bind fun y => (sdfN x y es).bind fun d' => Out.ok (Fl.nx (S.set i (.ow d')))) := hw
  unfold ownN at hw
  split at hw
  · rename_i es q
    have q : S[i]? = some (.ow (.dict (mkD :: es))) := q
    obtain ⟨a, s1, h0, _, ow0⟩ := r.ow i _ q
    have td0 : TD X.K F H (.ref a) (.dict (mkD :: es)) := .inr ⟨a, rfl, ow0⟩
    obtain ⟨a0, xs0, ep0, ea0, hN0, t0⟩ := td0.dnn r.fh
    cases ea0
    refine ⟨.ref a, s1, "dict.setdefault", ⟨"dict", PySem.F.plainAttrs_dict, PySem.F.slot_dict_setdefault, PySem.F.type_dict_setdefault, fun pins s σ v I rv => ?_⟩, ?_⟩
    · obtain rfl : v = Value.ref a := rv
      exact dN_noDict I hN0
    have hw : WnS X.K F0 H0 W E ((ev Φ ck S).bind fun x => (ev Φ cv S).bind fun y => (sdfN x y es).bind fun d' => Out.ok (Fl.nx (S.set i (.ow d')))) := hw
    refine hk H0 S σ F H _ r ((WnS.e e hw).imp fun kd F1 H1 _ e1 h1 u tu du => ?_)
    refine hv H0 S σ F1 H1 _ (r.ext e1) ((WnS.e (e.trans e1) h1).imp fun y F2 H2 _ e2 h2 v tv dv => ?_)
    have e02 := (e.trans e1).trans e2
    have rr := (r.ext e1).ext e2
    obtain ⟨a', s2, _, nF, ow⟩ := rr.ow i _ q
    rw [s1] at s2
    cases s2
    have h2 : WnS X.K F0 H0 W E ((Out.guard (tkD kd && fits es.length) (Out.ok (PyData.dict (mkD :: if (lookD kd es).isSome = true then es else putD kd y es)))).bind fun d' => Out.ok (Fl.nx (S.set i (.ow d')))) := h2
    cases g : (tkD kd && fits es.length) with
    | false =>
      rw [g] at h2
      exact h2.elim
    | true =>
      rw [g] at h2
      rw [Bool.and_eq_true] at g
      have td : TD X.K F2 H2 (.ref a) (.dict (mkD :: es)) := .inr ⟨a, rfl, ow⟩
      obtain ⟨a2, xs, ep, ea, hN, t⟩ := td.dnn rr.fh
      cases ea
      obtain ⟨ds, ks, rfl, _⟩ := tkD_of g.1
      obtain ⟨b, _, rfl, _⟩ := (tu.ext e2).tup
      intro pins s' σ' ux us J r1 r2
      obtain rfl : ux = Value.ref a := r1
      cases r2 with
      | @cons _ uy _ us' ra rb =>
        obtain rfl : uy = Value.ref b := ra
        cases rb with
        | @cons _ uv _ us'' rc rd =>
          cases rd
          refine dn_sdf (by have := k.c.u; omega) J rr.fh hN t (by rw [t.length]; exact fits_lt g.2) g.1 ((du pk).mono e2.ff) rc (dv pv) fun xs' ep' v' u' s'' J' rv' t' => ?_
          exact ⟨v', _, J', rv', h2 _ F2 _ (Ext.mutO e02 h0 nF) (rr.mut q s1 nF (.inr ⟨xs', ep', _, rfl, upd_same, t'⟩))⟩
  · exact hw.elim
/-- x, y = {k: v}, b -/
theorem s1_pard {i j : Nat} {ck cv cb : CE} {x y : Str} {ke ve be : Expr} {px py pt p2 pd : Pos} {kt k2 : Nat} (k : Sok Γ Φ n W N sc X) (hi : N[i]? = some x) (hj : N[j]? = some y) (hij : i ≠ j) (hn : x ≠ y) (hx : sc.names.lookup x = some .local) (hy : sc.names.lookup y = some .local)
    (hl : px.line = py.line) (nw : nstB be = true) (hf : [Expr.Dict [some ke] [ve] pd, be].all (foldedForSure 8) = false) (hc : [Expr.Dict [some ke] [ve] pd, be].all (constantsAlone 8) = false) (hk : SE Φ (fun _ => W) X ck ke) (hv : SE Φ (fun _ => W) X cv ve) (hb : SE Φ (fun _ => W) X cb be)
    (pk : isPk ck = false) (pv : isPk cv = false) (pb : isPk cb = false) :
    S1 Φ wf W X (.pard i j ck cv cb) (.Assign [.Tuple [.Name x px, .Name y py] kt pt] (.Tuple [.Dict [some ke] [ve] pd, be] k2 p2) pos) := fun F0 H0 S σ F H E e r hw pins s I => by
  have kf : X.env.scope.kind = .function := I.ok.kind
  have lx : X.env.scope.names.lookup x = some .local := by rw [k.c.sc]; exact hx
  have ly : X.env.scope.names.lookup y = some .local := by rw [k.c.sc]; exact hy
  refine PS.w (ps_par (i := i) (j := j) k.c.calm (by rw [k.c.nm]; exact k.c.nd) (by rw [k.c.nm]; exact hi) (by rw [k.c.nm]; exact hj) hij lx ly (pa_cons (pe_new1 k.c.u pe_w pe_w) (pa_cons pe_w pa_nil (nst_eq nw _ _)) (nst_eq rfl _ _)) (swapped_some kf lx ly hl hn rfl nw hf hc) rfl) ?_ pins s I
  refine new1_w (R := fun _ _ _ _ => True) hk hv pk pv r fun q nq => ?_
  have e1 : Ext F0 H0 F (upd H q (dN q [] 0)) := e.trans (Ext.lay r.fh nq)
  have hw : WnS X.K F0 H0 W E ((ev Φ ck S).bind fun a => (ev Φ cv S).bind fun b => Out.guard (tkD a) ((ev Φ cb S).bind fun z => .ok (.nx ((S.set i (.ow (.dict [mkD, (a, b)]))).set j (.fz z))))) := hw
  refine (WnS.e e1 hw).imp fun a F1 H1 _ e2 h1 => ?_
  refine (WnS.e (e1.trans e2) h1).imp fun b F2 H2 _ e3 h2 => ?_
  cases g : tkD a with
  | false =>
    rw [g] at h2
    exact h2.elim
  | true =>
    rw [g] at h2
    refine ⟨rfl, fun bb v key ep hkey hkb hv nF hp => ?_⟩
    have e4 := (e1.trans e2).trans e3
    have h0 : H0 q = none := e.hh.free nq
    have rr : Rp X.K H0 S σ F2 H2 := ((r.ext (Ext.lay r.fh nq)).ext e2).ext e3
    have un := r.new nq
    have r5 : Rp X.K H0 S σ F2 (upd H2 q (dN q [(key, bb, v)] ep)) := by
      refine ⟨fun c o z => ?_, rr.len, rr.fz, fun m d z => ?_, rr.ne⟩
      · rw [upd_ne (ne_of_none z nF)]
        exact rr.fh c o z
      · obtain ⟨a', q1, q2, q3, q4⟩ := rr.ow m d z
        have ne : a' ≠ q := fun z' => by
          subst z'
          exact un m d z q1
        exact ⟨a', q1, q2, q3, q4.mono (Same.refl F2) fun o z => by rw [upd_ne ne]; exact z⟩
    have e5 : Ext F0 H0 F2 (upd H2 q (dN q [(key, bb, v)] ep)) := Ext.mutO e4 h0 nF
    have h2 : WnS X.K F0 H0 W E ((ev Φ cb S).bind fun z => .ok (.nx ((S.set i (.ow (.dict [mkD, (a, b)]))).set j (.fz z)))) := h2
    refine hb H0 S σ F2 _ _ r5 ((WnS.e e5 h2).imp fun z F3 H3 _ e6 h3 u tu du => ?_)
    refine ⟨.ref q, u, rfl, h3 _ F3 H3 (e5.trans e6) (((r5.ext e6).setP h0 (e6.notF nF upd_same) ?_ un).set (du pb))⟩
    exact .inr ⟨_, ep, _, rfl, e6.hh q _ upd_same, .cons hkey g (hkb.mono e6.ff) (hv.mono e6.ff) .nil⟩
end
end FL

set_option Elab.async false
set_option maxRecDepth 100000
set_option maxHeartbeats 4000000
/-! FLs12: the statements' theorem; a def keeps what its core term means. -/
namespace FL
open PySem PySem.Spec PyProof.Rows L2
section
variable {Γ : Gm} {Φ : Nat → List D → Out D} {wf : Nat} {n : Nat} {N : List Str}
theorem swaps_lc {elt : Expr} {gs : List Comprehension} {scope : Scope} {p2 p : Pos} {x : Str} {l : Nat} {env : Env} (h : ¬ (env.scope.names.lookup x = some .local ∧ p.line = p2.line)) : swapsWith (.ListComp elt gs scope p2) (some (.Name x p)) l env = pure false := by
  show (pure (env.blockKind == .function && env.kindOf x == some .local && p.line == (Expr.ListComp elt gs scope p2).pos.line && !(scope.names.any fun (n, k) => n == x && (k == .local || k == .cell))) : Sem Bool) = pure false
  have hk : (env.kindOf x == some .local && p.line == p2.line) = false := by
    cases q : (env.kindOf x == some NameKind.local && p.line == p2.line) with
    | false => rfl
    | true =>
      rw [Bool.and_eq_true] at q
      have q1 : env.kindOf x = some NameKind.local := by simpa using q.1
      exact absurd ⟨q1, by simpa using q.2⟩ h
  have e1 : (Expr.ListComp elt gs scope p2).pos.line = p2.line := rfl
  rw [e1, Bool.and_assoc, Bool.and_assoc, ← Bool.and_assoc (env.kindOf x == some .local), hk]
  simp
/-- a comprehension's core term is one -/
theorem lc_of_chk {sc : Scope} {e : CE} {elt : Expr} {gs : List Comprehension} {scope : Scope} {p : Pos} (h : chk Γ N sc e (.ListComp elt gs scope p) = true) : (∃ it tg t el, e = .lc it tg t el) ∨ e = .hole := by
  cases e <;> first | (cases h; done) | exact .inl ⟨_, _, _, _, rfl⟩ | exact .inr rfl

theorem s1_setAll {i : Nat} {e : CE} {x : Str} {p pos : Pos} {v : Expr} {W : Nat → Hp → Prop} {X : Cx} {sc : Scope} (k : Sok Γ Φ n W N sc X) (g1 : N[i]? = some x) (g2 : locB sc x = true) (g3 : chk Γ N sc e v = true) (g4 : isPk e = false) (g5 : setB sc x p v = true) :
    S1 Φ wf W X (.set i e) (.Assign [.Name x p] v pos) := by
  by_cases hn : nlcB v = true
  · exact s1_set k g1 g2 (snd e k.c g3).1 g4 (nlc_swaps hn _ _ _)
  · cases v <;> first | exact absurd rfl hn | (cases g5; done) | skip
    rename_i elt gs scope p2
    by_cases hl : sc.names.lookup x = some .local ∧ p.line = p2.line
    · have g5 : (!(decide (sc.names.lookup x = some .local) && decide (p.line = p2.line)) || !(scope.names.any fun (n, k) => n == x && (k == .local || k == .cell))) = true := g5
      rw [decide_eq_true hl.1, decide_eq_true hl.2] at g5
      have g6 : (scope.names.any fun (n, k) => n == x && (k == .local || k == .cell)) = false := by
        cases q : (scope.names.any fun (n, k) => n == x && (k == NameKind.local || k == NameKind.cell)) with
        | false => rfl
        | true =>
          rw [q] at g5
          cases g5
      rcases lc_of_chk g3 with ⟨it, tg, t, el, rfl⟩ | rfl
      rotate_left
      · exact fun F0 H0 S σ F H E e r hw => (show False from hw).elim
      obtain ⟨elt', te, iter, ifs, scope', pos', ee, h1, h2, h2', h3, h4, h5, h6, h7⟩ := chk_lc g3
      cases ee
      exact s1_setlc k g1 hl.1 hl.2 g6 (sndI it k.c h1 h2') h2 h3 h7 h6 (fun X' k' => sndT t k' h4) (fun X' k' => (snd el k' h5).1)
    · exact s1_set k g1 g2 (snd e k.c g3).1 g4 (swaps_lc (by rw [k.c.sc]; exact hl))
theorem s1_unpAll {tg : Tg} {e : CE} {t v : Expr} {pos : Pos} {W : Nat → Hp → Prop} {X : Cx} {sc : Scope} (k : Sok Γ Φ n W N sc X) (g1 : tgIs N sc tg t = true) (g2 : chk Γ N sc e v = true) (g3 : isPk e = false) (g4 : nlcB v = true) (g5 : unpB sc tg t v = true) :
    S1 Φ wf W X (.unp tg e) (.Assign [t] v pos) := by
  cases tg with
  | one i => cases t <;> first | (cases g1; done) | (cases v <;> cases g5)
  | two i j =>
    refine s1_unp k g1 (snd e k.c g2).1 g3 g4 ?_
    cases t <;> first | (cases g1; done) | skip
    rename_i es kt pt
    cases es with
    | nil => cases g1
    | cons e1 es =>
      cases es with
      | nil => cases e1 <;> cases g1
      | cons e2 es =>
        cases es with
        | cons e3 es => cases e1 <;> cases e2 <;> cases g1
        | nil =>
          cases e1 <;> first | (cases g1; done) | skip
          cases e2 <;> first | (cases g1; done) | skip
          by_cases hv : ∃ vs k2 p2, v = .Tuple vs k2 p2
          · obtain ⟨vs, k2, p2, rfl⟩ := hv
            refine swapped_cell ?_
            rw [k.c.sc]
            exact notPk g5
          · exact swapped_none fun vs k2 p2 z => hv ⟨vs, k2, p2, z⟩

theorem excArg_inv {a : Expr} (h : excArg a = true) : ∃ m q p, a = .Constant (.str m) q p := by
  cases a <;> first | (cases h; done) | skip
  rename_i c _ _
  cases c <;> first | (cases h; done) | exact ⟨_, _, _, rfl⟩
theorem nameB_inv {v : Expr} (h : nameB v = true) : ∃ y p, v = .Name y p := by
  cases v <;> first | exact ⟨_, _, rfl⟩ | cases h

theorem sndT' : ∀ (b : TB) {W : L2.St → Nat → Hp → Prop} {X : Cx} {sc : Scope} {sts : List Stmt}, Cok Γ Φ n W N sc X → (∀ x, X.fn x = true) → chkT Γ N sc b sts = true → STB Φ W X b sts
  | .set i e, W, X, sc, sts, k, hf, h => by
    unfold chkT at h
    split at h
    · simp only [Bool.and_eq_true, decide_eq_true_eq] at h
      exact stb_set k hf h.1 h.2.1 (snd e k h.2.2.1).1 (notPk h.2.2.2.1) h.2.2.2.2
    · cases h
  | .exp e, W, X, sc, sts, k, hf, h => by
    unfold chkT at h
    split at h
    · simp only [Bool.and_eq_true] at h
      exact stb_exp (snd e k h.1).1 h.2
    · cases h
  | .iff c a b, W, X, sc, sts, k, hf, h => by
    unfold chkT at h
    split at h
    · simp only [Bool.and_eq_true] at h
      exact stb_iff (snd c k h.1).2 (sndT' a k hf h.2.1) (sndT' b k hf h.2.2)
    · cases h
mutual
theorem sndS : ∀ (c : CS) {W : Nat → Hp → Prop} {X : Cx} {sc : Scope} {r r' : List Stmt}, Sok Γ Φ n W N sc X → chkS Γ N sc c r = some r' → ((∃ i, c = .frz i) ∧ r' = r) ∨ ∃ st, r = st :: r' ∧ S1 Φ wf W X c st
  | .frz i, W, X, sc, r, r', k, h => by
    cases h
    exact .inl ⟨⟨i, rfl⟩, rfl⟩
  | .setd i ks vs, W, X, sc, r, r', k, h => by
    unfold chkS at h
    split at h
    · split at h
      · split at h
        · rename_i g
          cases h
          simp only [Bool.and_eq_true, decide_eq_true_eq] at g
          exact .inr ⟨_, rfl, s1_setd0 k g.1 g.2⟩
        · cases h
      · cases h
    · split at h
      · split at h
        · rename_i g
          cases h
          simp only [Bool.and_eq_true, decide_eq_true_eq] at g
          obtain ⟨g1, g2, g3, g4, g5, g6⟩ := g
          exact .inr ⟨_, rfl, s1_setd1 k g1 g2 (snd _ k.c g3).1 (snd _ k.c g4).1 (notPk g5) (notPk g6)⟩
        · cases h
      · cases h
    · cases h
  | .hole, W, X, sc, r, r', k, h => by
    unfold chkS at h
    split at h
    · cases h
      exact .inr ⟨_, rfl, fun F0 H0 S σ F H E e r hw => (show False from hw).elim⟩
    · cases h
  | .setc i it tg t el, W, X, sc, r, r', k, h => by
    unfold chkS at h
    split at h
    · split at h
      · rename_i g
        cases h
        simp only [Bool.and_eq_true, decide_eq_true_eq, Bool.not_eq_true'] at g
        obtain ⟨g1, g2, g3, g4, g5⟩ := g
        obtain ⟨elt', te, iter, ifs, scope', pos', ee, h1, h2, h2', h3, h4, h5, h6, h7⟩ := chk_lc g2
        cases ee
        exact .inr ⟨_, rfl, s1_setc k g1 g3 g4 g5 (sndI it k.c h1 h2') h2 h3 h7 h6 (fun X' k' => sndT t k' h4) (fun X' k' => (snd el k' h5).1)⟩
      · cases h
    · cases h
  | .setk i ks vs, W, X, sc, r, r', k, h => by
    unfold chkS at h
    split at h
    · split at h
      · rename_i g
        cases h
        simp only [Bool.and_eq_true, decide_eq_true_eq] at g
        exact .inr ⟨_, rfl, s1_setk k g.1 g.2.1 (sndE vs k.c g.2.2.2) g.2.2.1 g.2.2.2⟩
      · cases h
    · cases h
  | .pard i j a b c, W, X, sc, r, r', k, h => by
    unfold chkS at h
    split at h
    · split at h
      · rename_i g
        cases h
        simp only [Bool.and_eq_true, decide_eq_true_eq] at g
        obtain ⟨g1, g2, g3, g4, g5, g6, g7, g8, g9, g10, g11, g12⟩ := g
        unfold swapB at g5
        simp only [Bool.and_eq_true, decide_eq_true_eq] at g5
        obtain ⟨s1, s2, s3, s4, s5⟩ := g5
        exact .inr ⟨_, rfl, s1_pard k g1 g2 g3 g4 s1 s2 s3 g12 (notPk s4) (notPk s5) (snd a k.c g6).1 (snd b k.c g7).1 (snd c k.c g8).1 (notPk g9) (notPk g10) (notPk g11)⟩
      · cases h
    · cases h
  | .put i a b, W, X, sc, r, r', k, h => by
    unfold chkS at h
    split at h
    · split at h
      · rename_i g
        cases h
        simp only [Bool.and_eq_true, decide_eq_true_eq] at g
        obtain ⟨g1, g2, g3, g4, g5, g6, g7, g8, g9⟩ := g
        exact .inr ⟨_, rfl, s1_put k g1 g2 g3 (snd a k.c g4).1 (snd b k.c g5).1 (notPk g6) (notPk g7) g8⟩
      · cases h
    · cases h
  | .sdf i a b, W, X, sc, r, r', k, h => by
    unfold chkS at h
    split at h
    · split at h
      · rename_i g
        cases h
        simp only [Bool.and_eq_true, decide_eq_true_eq] at g
        obtain ⟨g1, g2, g3, rfl, g5, g6, g7, g8, g9, g10, g11⟩ := g
        exact .inr ⟨_, rfl, s1_sdf k g1 g2 g3 (snd a k.c g5).1 (snd b k.c g6).1 (notPk g7) (notPk g8) g9 g10 g11⟩
      · cases h
    · cases h
  | .try_ b hs, W, X, sc, r, r', k, h => by
    unfold chkS at h
    split at h
    · split at h
      · rename_i g
        cases h
        simp only [Bool.and_eq_true] at g
        exact .inr ⟨_, rfl, s1_try k (fun W' X' k' hf => sndT' b k' hf g.1) g.2⟩
      · cases h
    · cases h
  | .set i e, W, X, sc, r, r', k, h => by
    unfold chkS at h
    split at h
    · split at h
      · rename_i g
        cases h
        simp only [Bool.and_eq_true, decide_eq_true_eq] at g
        exact .inr ⟨_, rfl, s1_setAll k g.1 g.2.1 g.2.2.1 (notPk g.2.2.2.1) g.2.2.2.2⟩
      · cases h
    · cases h
  | .setl i es, W, X, sc, r, r', k, h => by
    unfold chkS at h
    split at h
    · split at h
      · rename_i g
        cases h
        simp only [Bool.and_eq_true, decide_eq_true_eq] at g
        exact .inr ⟨_, rfl, s1_setl k g.1 g.2.1 (sndA es k.c g.2.2)⟩
      · cases h
    · cases h
  | .unp tg e, W, X, sc, r, r', k, h => by
    unfold chkS at h
    split at h
    · split at h
      · rename_i g
        cases h
        simp only [Bool.and_eq_true, decide_eq_true_eq] at g
        exact .inr ⟨_, rfl, s1_unpAll k g.1 g.2.1 (notPk g.2.2.1) g.2.2.2.1 g.2.2.2.2⟩
      · cases h
    · cases h
  | .unp3 i j l e, W, X, sc, r, r', k, h => by
    unfold chkS at h
    split at h
    · split at h
      · rename_i g
        cases h
        simp only [Bool.and_eq_true, decide_eq_true_eq] at g
        obtain ⟨g1, g2, g3, g4, g5, g6, g7, g8, g9⟩ := g
        exact .inr ⟨_, rfl, s1_unp3 k g1 g2 g3 g4 g5 g6 (snd e k.c g7).1 (notPk g8) (nameB_inv g9)⟩
      · cases h
    · cases h
  | .par i j a b, W, X, sc, r, r', k, h => by
    unfold chkS at h
    split at h
    · split at h
      · rename_i g
        cases h
        simp only [Bool.and_eq_true, decide_eq_true_eq] at g
        obtain ⟨g1, g2, g3, g4, g5, g6, g7, g8, g9, g10, g11⟩ := g
        unfold swapB at g5
        simp only [Bool.and_eq_true, decide_eq_true_eq] at g5
        obtain ⟨s1, s2, s3, s4, s5⟩ := g5
        exact .inr ⟨_, rfl, s1_par k g1 g2 g3 g4 s1 s2 s3 g10 g11 (notPk s4) (notPk s5) (snd a k.c g6).1 (snd b k.c g7).1 (notPk g8) (notPk g9)⟩
      · cases h
    · cases h
  | .aug i e, W, X, sc, r, r', k, h => by
    unfold chkS at h
    split at h
    · split at h
      · rename_i g
        cases h
        simp only [Bool.and_eq_true, decide_eq_true_eq] at g
        exact .inr ⟨_, rfl, s1_aug k g.1 g.2.1 (snd e k.c g.2.2.1).1 (notPk g.2.2.2)⟩
      · cases h
    · cases h
  | .app i e, W, X, sc, r, r', k, h => by
    unfold chkS at h
    split at h
    · split at h
      · rename_i g
        cases h
        simp only [Bool.and_eq_true, decide_eq_true_eq] at g
        obtain ⟨g1, g2, g3, rfl, g5, g6, g7, g8⟩ := g
        exact .inr ⟨_, rfl, s1_app k g1 g2 g3 (snd e k.c g5).1 (notPk g6) g7 g8⟩
      · cases h
    · cases h
  | .ext i e, W, X, sc, r, r', k, h => by
    unfold chkS at h
    split at h
    · split at h
      · rename_i g
        cases h
        simp only [Bool.and_eq_true, decide_eq_true_eq] at g
        obtain ⟨g1, g2, g3, rfl, g5, g6, g7, g8⟩ := g
        exact .inr ⟨_, rfl, s1_ext k g1 g2 g3 (snd e k.c g5).1 (notPk g6) g7 g8⟩
      · cases h
    · cases h
  | .exp e, W, X, sc, r, r', k, h => by
    unfold chkS at h
    split at h
    · split at h
      · rename_i g
        cases h
        simp only [Bool.and_eq_true, decide_eq_true_eq] at g
        exact .inr ⟨_, rfl, s1_exp (snd e k.c g.1).1 g.2⟩
      · cases h
    · cases h
  | .iff c a b, W, X, sc, r, r', k, h => by
    unfold chkS at h
    split at h
    · split at h
      · rename_i g
        cases h
        simp only [Bool.and_eq_true, decide_eq_true_eq] at g
        exact .inr ⟨_, rfl, s1_iff (snd c k.c g.1).2 (sndSs a k g.2.1) (sndSs b k g.2.2)⟩
      · cases h
    · cases h
  | .for_ tg it b, W, X, sc, r, r', k, h => by
    unfold chkS at h
    split at h
    · split at h
      · rename_i g
        cases h
        simp only [Bool.and_eq_true, decide_eq_true_eq] at g
        exact .inr ⟨_, rfl, s1_for k (sndI it k.c g.2.1 g.1.2) g.1.1 g.2.2.2 (sndSs b k g.2.2.1)⟩
      · cases h
    · cases h
  | .whl c b, W, X, sc, r, r', k, h => by
    unfold chkS at h
    split at h
    · split at h
      · rename_i g
        cases h
        simp only [Bool.and_eq_true, decide_eq_true_eq] at g
        exact .inr ⟨_, rfl, s1_whl k (snd c k.c g.1).2 (sndSs b k g.2)⟩
      · cases h
    · cases h
  | .ret e, W, X, sc, r, r', k, h => by
    unfold chkS at h
    split at h
    · split at h
      · rename_i g
        cases h
        simp only [Bool.and_eq_true, decide_eq_true_eq] at g
        exact .inr ⟨_, rfl, s1_ret (snd e k.c g.1).1 (notPk g.2)⟩
      · cases h
    · cases h
  | .rai j, W, X, sc, r, r', k, h => by
    unfold chkS at h
    split at h
    · split at h
      · rename_i y q
        split at h
        · rename_i g
          cases h
          simp only [Bool.and_eq_true, decide_eq_true_eq] at g
          obtain ⟨rfl, g2, g3⟩ := g
          obtain ⟨m, q', p', ha⟩ := excArg_inv g3
          subst ha
          exact .inr ⟨_, rfl, s1_rai k q g2⟩
        · cases h
      · cases h
    · cases h
theorem sndSs : ∀ (cs : CSs) {W : Nat → Hp → Prop} {X : Cx} {sc : Scope} {sts : List Stmt}, Sok Γ Φ n W N sc X → chkSs Γ N sc cs sts = true → SSs Φ wf W X cs sts
  | .nil, W, X, sc, sts, k, h => by
    cases sts with
    | nil => exact ss_nil
    | cons _ _ => cases h
  | .cons c cs, W, X, sc, sts, k, h => by
    unfold chkSs at h
    split at h
    · rename_i r' q
      rcases sndS c k q with ⟨⟨i, rfl⟩, rfl⟩ | ⟨st, rfl, h1⟩
      · exact ss_frz (sndSs cs k h)
      · exact ss_cons h1 (sndSs cs k h)
    · cases h
end

/-! ### a def -/
theorem start_rp {K : PySem.W.Frag} {vs : List V} {ds : List D} {F H : Hp} (s : Same F H) (t : DDs K F vs ds) (nn : Nat) (h : vs.length ≤ nn) (hN : N.length = nn) : Rp K H (startS nn ds) (L2.start N vs) F H := by
  have tl := t.length
  have part : ∀ (i : Nat) (x : Sl), (startS nn ds)[i]? = some x → (∃ d, ds[i]? = some d ∧ x = .fz d) ∨ x = .no := fun i x hx => by
    unfold startS at hx
    rw [List.getElem?_append] at hx
    split at hx
    · rw [List.getElem?_map] at hx
      cases q : ds[i]? with
      | none =>
        rw [q] at hx
        cases hx
      | some d =>
        rw [q] at hx
        cases hx
        exact .inl ⟨d, rfl, rfl⟩
    · right
      rw [List.getElem?_replicate] at hx
      split at hx
      · exact (Option.some.inj hx).symm
      · cases hx
  refine ⟨s, ?_, fun i d hd => ?_, fun i d hd => ?_, fun i j d e a h1 => ?_⟩
  · unfold startS L2.start
    simp
    omega
  · rcases part i _ hd with ⟨d', h1, h2⟩ | h1
    · cases h2
      obtain ⟨v, e1, e2⟩ := t.get i d h1
      refine ⟨v, ?_, e2⟩
      unfold L2.start
      have hi : i < vs.length := (List.getElem?_eq_some_iff.mp e1).1
      rw [List.getElem?_append_left (by simpa using hi), List.getElem?_map, e1]
      rfl
    · cases h1
  · rcases part i _ hd with ⟨d', h1, h2⟩ | h1
    · cases h2
    · cases h1
  · rcases part i _ h1 with ⟨d', h1, h2⟩ | h1
    · cases h2
    · cases h1
end

/-- what the module's names stand for -/
structure Mok (Γ : Gm) (K : PySem.W.Frag) (mg : Str → Option Value) : Prop where
  free : ∀ x, x ∈ bltN → mg x = none
  glo : ∀ g x d, Γ.gl g = some (x, d) → ∃ u v, mg x = some u ∧ RelV v u ∧ ∀ F, DD K F v d
  exs : ∀ k x, Γ.ex k = some x → ∃ C, mg x = some (.ref C) ∧ PySem.W.excIn K C He.veBase "ValueError.__new__" = true ∧ PySem.W.keepIn K (.ref C) = true ∧ PySem.W.subIn K (.ref C) (.type "BaseException") = some true ∧ PySem.W.typeIn K (.ref C) = some (.type "type")
  sub : ∀ j k x y, Γ.ex j = some x → Γ.ex k = some y → ∃ C D, mg x = some (.ref C) ∧ mg y = some (.ref D) ∧ PySem.W.exmOne K (.ref C) (.ref D) = some (subX j k)

/-- one def of the table as it stands in the text -/
structure FnAt (Γ : Gm) (K : PySem.W.Frag) (mg : Str → Option Value) (x : Str) (fn : Fn) (a : Addr) (fd : FuncData) (ps : List Str) : Prop where
  here : mg x = some (.ref a)
  bind : Binds K fd ps []
  len : ps.length = fn.np
  ex : ∃ (N : List Str) (params : Arguments) (body : List Stmt) (sc : Scope), FunD K x x params body sc [] [] a fd ∧ FnScope N ps sc ∧ N.length = fn.nn ∧ chkSs Γ N sc fn.body body = true

section
variable {Γ : Gm} {tbl : Nat → Option Fn} {wf : Nat} {P : Program} {w : World} {K : PySem.W.Frag} {mg : Str → Option Value} {base : Heap}
theorem runFn_len {Φ : Nat → List D → Out D} {f : Fn} {ds : List D} {F H : Hp} {W : Nat → Hp → Prop} {R : D → Hp → Hp → Prop} (h : Wn F H W R (runFn Φ wf f ds)) : ds.length = f.np := by
  obtain ⟨g, _⟩ := Wn.guard h
  exact of_decide_eq_true g
theorem call_len {n : Nat} {f : Nat} {fn : Fn} {ds : List D} {F H : Hp} {W : Nat → Hp → Prop} {R : D → Hp → Hp → Prop} (ht : tbl f = some fn) (h : Wn F H W R (call tbl wf n f ds)) : ds.length = fn.np := by
  cases n with
  | zero => exact h.elim
  | succ n =>
    have e : call tbl wf (n + 1) f ds = runFn (call tbl wf n) wf fn ds := by
      show (match tbl f with
        | some fn => runFn (call tbl wf n) wf fn ds
        | none => .bad) = _
      rw [ht]
    rw [e] at h
    exact runFn_len h
theorem fns_ok (M : Mok Γ K mg) (hf : ∀ f x, Γ.fn f = some x → ∃ fn a fd ps, tbl f = some fn ∧ FnAt Γ K mg x fn a fd ps) : ∀ n f x fn a fd ps, tbl f = some fn → FnAt Γ K mg x fn a fd ps → FnOk P w K mg base (L2.CX P w) n a fd ps (spF Γ K mg (call tbl wf n f)) := by
  intro n
  induction n with
  | zero =>
    intro f x fn a fd ps ht h
    refine ⟨fun vs H Q E z => ?_, fun A outer s H args us vs Q E _ _ _ _ z => ?_⟩
    · obtain ⟨ds, F, _, _, z⟩ := z
      exact z.elim
    · obtain ⟨ds, F, _, _, z⟩ := z
      exact z.elim
  | succ n ih =>
    intro f x fn a fd ps ht h
    obtain ⟨N, params, body, sc, F, S, hN, hck⟩ := h.ex
    refine F.ok S (fun vs H Q E z => ?_) fun cdv A outer s H vs Q E hr z => ?_
    · obtain ⟨ds, F, t, _, z⟩ := z
      rw [h.len, t.length]
      exact call_len ht z
    · generalize hX : cxOf (L2.CX P w) P w K mg base N x sc a cdv A outer s H E = X
      have e1 : X.N = N := by rw [← hX]; rfl
      have e2 : X.env.scope = sc := by rw [← hX]; rfl
      have e3 : X.calm = true := by rw [← hX]; rfl
      have e4 : Room n X.A := by rw [← hX]; exact hr
      have e5 : X.K = K := by rw [← hX]; rfl
      have e6 : X.mg = mg := by rw [← hX]; rfl
      have e7 : X.prog = P := by rw [← hX]; rfl
      have e8 : X.w = w := by rw [← hX]; rfl
      have e9 : X.base = base := by rw [← hX]; rfl
      have e10 : ∀ y, X.fn y = true := by rw [← hX]; exact fun _ => rfl
      have tk : Takes X (fun cls d _ H => E cls d H) := by
        rw [← hX]
        exact takes_of rfl rfl rfl rfl
      have own : PassesOwn (model X.prog X.w) X.A X.env X.xe := by
        rw [← hX]
        exact passes_of rfl
      have e11 : X.stack = X.env :: X.outer := by rw [← hX]; rfl
      have e12 : X.env.frame = some X.env.locals := by rw [← hX]; rfl
      clear hX hr
      subst e5 e6 e7 e8 e9
      obtain ⟨ds, F0, t, sm, z⟩ := z
      have hl := call_len ht z
      have ec : call tbl wf (n + 1) f ds = runFn (call tbl wf n) wf fn ds := by
        show (match tbl f with
          | some fn => runFn (call tbl wf n) wf fn ds
          | none => .bad) = _
        rw [ht]
      rw [ec] at z
      obtain ⟨_, z⟩ := Wn.guard z
      let W : Nat → Hp → Prop := fun k H' => ∀ cls, exv Γ X.mg k = some cls → E cls none H'
      have toE : ∀ (cls : Value) (d : Option Addr) (σ : L2.St) (H' : Hp), EW Γ X.mg W cls d H' → E cls d H' := fun cls d σ H' q => by
        obtain ⟨rfl, j, q1, q2⟩ := q
        exact q2 cls q1
      have tk' : Takes X (fun cls d _ H => EW Γ X.mg W cls d H) := tk.imp fun c d σ H' q => toE c d σ H' q
      have k : Sok Γ (call tbl wf n) n W N sc X := {
        c := { nm := e1, nd := S.nd, sc := e2, calm := e3, room := e4, free := M.free, glo := M.glo,
               fns := fun f x hx => by
                 obtain ⟨fn', a', fd', ps', ht', h'⟩ := hf f x hx
                 obtain ⟨N', params', body', sc', F', _⟩ := h'.ex
                 exact ⟨a', fd', ps', h'.here, F'.kp, h'.bind, ih f x fn' a' fd' ps' ht' h'⟩,
               pass := fun σ => passAt tk' σ },
        fnT := e10, tk := tk', own := own, stk := e11, frm := e12, sub := M.sub,
        exs := fun j y hy => by
          obtain ⟨C, q1, q2, q3, q4, q5⟩ := M.exs j y hy
          exact ⟨C, q1, q2, q3, raises_own q4 q5⟩ }
      refine ⟨wSs X body, pss_w, ?_⟩
      have vl : vs.length ≤ fn.nn := by
        have p1 := congrArg List.length S.pre
        rw [List.length_take] at p1
        have p2 := h.len
        have p3 := t.length
        omega
      refine sndSs (wf := wf) fn.body k hck F0 H (startS fn.nn ds) (L2.start N vs) F0 H _ (Ext.refl sm) (start_rp sm t fn.nn vl hN) ?_
      cases q : evSs (call tbl wf n) wf fn.body (startS fn.nn ds) with
      | ok fl =>
        rw [q] at z
        cases fl with
        | nx S' => exact fun σ' F' H' e' r' => z F' H' e' .non .non
        | rt d => exact fun v F' H' e' dv => z F' H' e' v dv
      | exc j =>
        rw [q] at z
        exact z
      | bad =>
        rw [q] at z
        exact z.elim
/-- a def that raises nothing here -/
theorem fn_calm {k : Nat} {a : Addr} {fd : FuncData} {ps : List Str} {sp : Sp} (F : FnOk P w K mg base (L2.CX P w) k a fd ps sp) : FnOk P w K mg base CX0 k a fd ps (fun vs H Q _ => sp vs H Q E0) := by
  refine ⟨fun vs H Q E h => F.len vs H Q E0 h, fun A outer s H args us vs Q E hr e0 hb r h => ?_⟩
  refine codeAny_mono (F.run A outer s H args us vs Q E0 hr e0 hb r h) fun rs s' z => ?_
  cases rs with
  | ok fl => cases fl <;> exact z
  | error e =>
    obtain ⟨_, _, _, _, _, _, _, _, _, _, _, _, q⟩ := z
    exact q.elim
end
end FL

set_option Elab.async false
set_option maxRecDepth 100000
set_option maxHeartbeats 4000000
/-! FLend: from the head's facts to the law. -/
namespace FL
open PySem PySem.Spec PyProof.Rows L2

structure FnE where
  id : Nat
  name : Str
  st : Stmt
  fn : Fn
  N : List Str
  ps : List Str
def scopeB (N ps : List Str) (sc : Scope) : Bool := (match sc.kind with
  | .function => true
  | _ => false) && (!sc.isCoroutine && (!sc.isGenerator && (decide N.Nodup && (decide (N.take ps.length = ps) && ((ps.all fun x => locB sc x) && sc.names.all fun y => match y.2 with
  | .free => false
  | _ => true)))))
theorem scopeB_ok {N ps : List Str} {sc : Scope} (h : scopeB N ps sc = true) : FnScope N ps sc := by
  unfold scopeB at h
  simp only [Bool.and_eq_true, decide_eq_true_eq, Bool.not_eq_true', List.all_eq_true] at h
  obtain ⟨h1, h2, h3, h4, h5, h6, h7⟩ := h
  refine ⟨?_, h2, h3, h4, h5, fun x hx => ?_, fun y hy => ?_⟩
  · revert h1
    cases sc.kind <;> intro h1 <;> first | rfl | cases h1
  · have := h6 x hx
    unfold locB at this
    split at this
    · left
      assumption
    · right
      assumption
    · cases this
  · have := h7 y hy
    intro z
    rw [z] at this
    cases this
def okE (Γ : Gm) (e : FnE) : Bool := scopeB e.N e.ps (defScope e.st) && (decide (e.N.length = e.fn.nn) && (decide (e.ps.length = e.fn.np) && chkSs Γ e.N (defScope e.st) e.fn.body (defBody e.st)))
def ofE (e : FnE) : He.DefD := ⟨(e.name, none), e.name, e.name, defArgs e.st, defBody e.st, defScope e.st, [], []⟩
def bindE (e : FnE) : Prop := ∀ (kV doc pm : Value) (an : Option Addr) (cdv ct : Value) (us : List Value), us.length = e.ps.length → bindArgs (PySem.W.fnOf e.name e.name (defArgs e.st) (defBody e.st) (defScope e.st) .none kV doc pm an cdv ct) ⟨us, []⟩ = pure (e.ps.zip us)
def fnLook (l : List FnE) (f : Nat) : Option Str := (l.find? fun e => decide (e.id = f)).map (·.name)

/-! ### the hook -/
def hookE (n : Nat) (fa : List He.Fa) (fn : List He.DefD) (ex : PySem.W.Frag → Bool) : PySem.W.Hook where
  α := He.AlD × Bool
  obs := fun s => (He.obsDG n fa fn s.heap.get?, ex (He.frG s.heap.get? (He.asD s.heap.get? n)))
  val := fun _ => (He.valD fn, true)
  says := fun _ h => ∃ K : PySem.W.Frag, K.In h ∧ He.SaysD fa fn K ∧ ex K = true
  of := fun _ _ e => ⟨_, He.frG_in, congrArg Prod.fst e, congrArg Prod.snd e⟩
  keeps := fun _ _ _ ⟨K, hK, c, d⟩ k => ⟨K, PySem.W.Frag.In.keeps hK k, c, d⟩
def obE (n : Nat) (fa : List He.Fa) (fn : List He.DefD) (ex : PySem.W.Frag → Bool) (s : PySem.W.SharedT) : He.AlD × Bool := (He.obsDG n fa fn (HandSHeadRun.getT s), ex (He.frG (HandSHeadRun.getT s) (He.asD (HandSHeadRun.getT s) n)))
theorem obE_eq {n : Nat} {fa : List He.Fa} {fn : List He.DefD} {ex : PySem.W.Frag → Bool} (s : PySem.W.SharedT) : obE n fa fn ex s = (hookE n fa fn ex).obs s.abs := by
  have e : HandSHeadRun.getT s = s.abs.heap.get? := funext (HandSHeadRun.getT_eq s)
  unfold obE hookE
  rw [e]
theorem says_fact {fa : List He.Fa} {fn : List He.DefD} {K : PySem.W.Frag} (c : He.SaysD fa fn K) {f : He.Fa} (h : f ∈ fa) : f.ok K = true := by
  obtain ⟨i, hi⟩ := List.getElem?_of_mem h
  exact c.fact i hi
theorem says_def {fa : List He.Fa} {fn : List He.DefD} {K : PySem.W.Frag} (c : He.SaysD fa fn K) {d : He.DefD} (h : d ∈ fn) : ∃ fd, FunD K d.name d.qual d.params d.body d.scope (d.dvs K) (d.kws K) (He.fAd K d.at_) fd := by
  obtain ⟨i, hi⟩ := List.getElem?_of_mem h
  exact c.def_ i hi

/-! ### constants of the module -/
def strsB : List D → List Value → Bool
  | [], [] => true
  | .str x :: ds, .str y _ :: us => decide (x = y) && strsB ds us
  | _, _ => false
def gloB (K : PySem.W.Frag) (x : Str) : D → Bool
  | .int i => match PySem.W.nsIn K mainGlobals x with
    | some (some (.int j _)) => decide (j = i)
    | _ => false
  | .str z => match PySem.W.nsIn K mainGlobals x with
    | some (some (.str y _)) => decide (y = z)
    | _ => false
  | .tuple ds => match PySem.W.nsIn K mainGlobals x with
    | some (some (.ref a)) => (match K.lookup a with
      | some ⟨.type t, _, .seq its _, _⟩ => decide (t = "tuple") && (strsB ds its.toList && decide (its.size ≤ 1000))
      | _ => false)
    | _ => false
  | _ => false
theorem strsB_ok {K : PySem.W.Frag} : ∀ {ds : List D} {us : List Value}, strsB ds us = true → ∃ vs, Vals vs us ∧ ∀ F, DDs K F vs ds
  | [], [], _ => ⟨[], .nil, fun _ => .nil⟩
  | .str x :: ds, .str y t :: us, h => by
    have h : (decide (x = y) && strsB ds us) = true := h
    simp only [Bool.and_eq_true, decide_eq_true_eq] at h
    obtain ⟨rfl, h2⟩ := h
    obtain ⟨vs, h3, h4⟩ := strsB_ok (K := K) h2
    exact ⟨.str x :: vs, .cons ⟨t, rfl⟩ h3, fun F => .cons (.str x) (h4 F)⟩
  | [], _ :: _, h => by cases h
  | d :: ds, [], h => by cases d <;> cases h
  | d :: ds, u :: us, h => by
    cases d <;> first | (cases h; done) | skip
    cases u <;> first | (cases h; done) | skip
    rename_i x y t
    have h : (decide (x = y) && strsB ds us) = true := h
    simp only [Bool.and_eq_true, decide_eq_true_eq] at h
    obtain ⟨rfl, h2⟩ := h
    obtain ⟨vs, h3, h4⟩ := strsB_ok (K := K) h2
    exact ⟨.str x :: vs, .cons ⟨t, rfl⟩ h3, fun F => .cons (.str x) (h4 F)⟩
theorem gloB_ok {K : PySem.W.Frag} {h : Heap} {mg : Str → Option Value} (X : K.In h) (G : h.Ns mainGlobals mg) {x : Str} {d : D} (c : gloB K x d = true) : ∃ u v, mg x = some u ∧ RelV v u ∧ ∀ F, DD K F v d := by
  cases d with
  | int i =>
    obtain ⟨t, e⟩ := He.int_ok X G (x := x) (i := i) c
    exact ⟨_, .int i, e, ⟨t, rfl⟩, fun _ => .int i⟩
  | str z =>
    obtain ⟨t, e⟩ := He.str_ok X G (x := x) (z := z) c
    exact ⟨_, .str z, e, ⟨t, rfl⟩, fun _ => .str z⟩
  | tuple ds =>
    have c : (match PySem.W.nsIn K mainGlobals x with
      | some (some (.ref a)) => (match K.lookup a with
        | some ⟨.type t, _, .seq its _, _⟩ => decide (t = "tuple") && (strsB ds its.toList && decide (its.size ≤ 1000))
        | _ => false)
      | _ => false) = true := c
    split at c
    · rename_i a q
      split at c
      · rename_i t dd its n sl q2
        simp only [Bool.and_eq_true, decide_eq_true_eq] at c
        obtain ⟨rfl, c2, c3⟩ := c
        obtain ⟨vs, h3, h4⟩ := strsB_ok (K := K) c2
        refine ⟨_, .ref a, PySem.W.mg_of X G q, rfl, fun F => .tup (.inr ⟨_, its, n, q2, rfl, rfl, Nat.le_trans c3 (by decide), h3⟩) (h4 F)⟩
      · cases c
    · cases c
  | _ => cases c

theorem mem_lookN {α : Type} : ∀ {l : List (Nat × α)} {k : Nat} {v : α}, l.lookup k = some v → (k, v) ∈ l
  | [], _, _, h => by cases h
  | (j, u) :: r, k, v, h => by
    rw [List.lookup_cons] at h
    cases q : k == j with
    | true =>
      rw [q] at h
      have e : k = j := by simpa using q
      cases h
      rw [e]
      exact List.mem_cons_self
    | false =>
      rw [q] at h
      exact List.mem_cons_of_mem _ (mem_lookN h)

/-! ### the law -/
section
variable {Γ : Gm} {tbl : Nat → Option Fn} {wf : Nat} {K : PySem.W.Frag} {mg : Str → Option Value} {h : Heap} {fa : List He.Fa} {l : List FnE}
theorem fnAt_of (X : K.In h) (G : h.Ns mainGlobals mg) (c : He.SaysD fa (l.map ofE) K) {e : FnE} (he : e ∈ l) (hok : okE Γ e = true) (hb : bindE e) (hg : He.Fa.glo e.name ∈ fa) : ∃ fd, FnAt Γ K mg e.name e.fn (He.ga K e.name) fd e.ps ∧ (∀ (s : Shared) (us : List Value), us.length = e.ps.length → BindsTo s fd ⟨us, []⟩ (e.ps.zip us)) := by
  obtain ⟨fd, F⟩ := says_def c (List.mem_map_of_mem (f := ofE) he)
  unfold okE at hok
  simp only [Bool.and_eq_true, decide_eq_true_eq] at hok
  obtain ⟨h1, h2, h3, h4⟩ := hok
  have F' : FunD K e.name e.name (defArgs e.st) (defBody e.st) (defScope e.st) [] [] (He.ga K e.name) fd := F
  exact ⟨fd, ⟨He.glo_ok X G (says_fact c hg), F'.bindsN hb, h3, ⟨e.N, _, _, _, F', scopeB_ok h1, h2, h4⟩⟩, fun s us hl => F'.bindsA hb s us hl⟩
theorem hf_of (X : K.In h) (G : h.Ns mainGlobals mg) (c : He.SaysD fa (l.map ofE) K) (hok : l.all (okE Γ) = true) (hb : ∀ e ∈ l, bindE e) (hg : ∀ e ∈ l, He.Fa.glo e.name ∈ fa) (hΓ : Γ.fn = fnLook l) (ht : ∀ e ∈ l, tbl e.id = some e.fn) :
    ∀ f x, Γ.fn f = some x → ∃ fn a fd ps, tbl f = some fn ∧ FnAt Γ K mg x fn a fd ps := fun f x hx => by
  rw [hΓ] at hx
  unfold fnLook at hx
  cases q : l.find? fun e => decide (e.id = f) with
  | none =>
    rw [q] at hx
    cases hx
  | some e =>
    rw [q] at hx
    cases hx
    have he : e ∈ l := List.mem_of_find?_eq_some q
    have hi : e.id = f := by
      have := List.find?_some q
      simpa using this
    subst hi
    obtain ⟨fd, F, _⟩ := fnAt_of X G c he (List.all_eq_true.mp hok e he) (hb e he) (hg e he)
    exact ⟨e.fn, _, fd, e.ps, ht e he, F⟩
/-- what the law's def promises -/
theorem law_sp {P : Program} {w : World} {base : Heap} {n : Nat} {fn : Fn} {a : Addr} {fd : FuncData} {x : Str} (M : Mok Γ K mg) (hf : ∀ f x, Γ.fn f = some x → ∃ fn a fd ps, tbl f = some fn ∧ FnAt Γ K mg x fn a fd ps) (ht : tbl 0 = some fn) (F : FnAt Γ K mg "law" fn a fd [x]) :
    FnOk P w K mg base CX0 n a fd [x] (fun vs H Q _ => spF Γ K mg (call tbl wf n 0) vs H Q E0) := fn_calm (fns_ok M hf n 0 "law" fn a fd [x] ht F)
end
theorem law_in {Γ : Gm} {K : PySem.W.Frag} {mg : Str → Option Value} {φ : List D → Out D} (hlaw : ∀ ns : List Int, ns.length ≤ 63 → φ [scr ns] = .ok (.bool true)) (H : Hp) (a : Addr) (ns : List Int) (hl : ns.length ≤ 63) (hr : SqL K H a (ns.map V.int)) :
    spF Γ K mg φ [.ref a] H (fun v _ => v = .bl true) E0 := by
  refine ⟨[scr ns], H, .cons (.scr hr) .nil, Same.refl H, ?_⟩
  rw [hlaw ns hl]
  intro F' H' _ v dv
  cases dv
  rfl
end FL

set_option maxRecDepth 100000
namespace FL
open PySem
/- 1 world picture row here deed -/
def c_law_after : Fn := ⟨3, 5, (.cons (.set 3 (.var 1))
 (.cons (.for_ (.one 4) (.seq (.var 2))
 (.cons (.set 3 (.call 14 (.cons (.var 0) (.cons (.var 3) (.cons (.var 4) .nil)))))
 .nil))
 (.cons (.ret (.var 3))
 .nil)))⟩
/- 2 world free deed wide high top word things other marks cell across down -/
def c_law_ahead : Fn := ⟨3, 13, (.cons (.unp3 3 4 5 (.var 0))
 (.cons (.unp (.two 6 7) (.var 2))
 (.cons (.iff (.cmp .eq (.idx (.var 1) (.con (.int 0))) (.con (.str "turn")))
 (.cons (.set 8 (.idx (.dsp [(.str "greatest"), (.str "least"), (.str "mask"), (.str "lift")] (.cons (.con (.str "least")) (.cons (.con (.str "greatest")) (.cons (.con (.str "lift")) (.cons (.con (.str "mask")) .nil))))) (.var 6)))
 (.cons (.iff (.cmp .inn (.var 6) (.tup (.cons (.con (.str "greatest")) (.cons (.con (.str "least")) .nil))))
 (.cons (.ret (.tup (.cons (.var 8) (.cons (.var 7) .nil))))
 .nil)
 .nil)
 (.cons (.ret (.tup (.cons (.var 8) (.cons (.b1 .tuple (.lc (.rng (.bin .mul (.var 3) (.var 4))) (.one 10) (.so (.cmp .nin (.var 10) (.var 7))) (.var 10))) .nil))))
 .nil)))
 .nil)
 (.cons (.iff (.cmp .inn (.var 6) (.tup (.cons (.con (.str "mask")) (.cons (.con (.str "lift")) .nil))))
 (.cons (.set 9 (.b1 .tuple (.lc (.rng (.bin .mul (.var 3) (.var 4))) (.one 10) .no (.b1 .int (.cmp .inn (.var 10) (.var 7))))))
 (.cons (.iff (.cmp .eq (.idx (.var 1) (.con (.int 0))) (.con (.str "shift")))
 (.cons (.set 9 (.call 14 (.cons (.var 0) (.cons (.var 9) (.cons (.tup (.cons (.con (.str "shift")) (.cons (.bin .mod (.neg (.idx (.var 1) (.con (.int 1)))) (.var 3)) (.cons (.bin .mod (.neg (.idx (.var 1) (.con (.int 2)))) (.var 4)) .nil)))) .nil)))))
 .nil)
 (.cons (.set 9 (.call 14 (.cons (.var 0) (.cons (.var 9) (.cons (.var 1) .nil)))))
 .nil))
 (.cons (.ret (.tup (.cons (.var 6) (.cons (.b1 .tuple (.lc (.rng (.bin .mul (.var 3) (.var 4))) (.one 10) (.so (.cmp .eq (.idx (.var 9) (.var 10)) (.con (.int 1)))) (.var 10))) .nil))))
 .nil)))
 .nil)
 (.cons (.iff (.cmp .eq (.idx (.var 1) (.con (.int 0))) (.con (.str "shift")))
 (.cons (.ret (.var 2))
 .nil)
 .nil)
 (.cons (.iff (.cmp .eq (.idx (.var 1) (.con (.int 1))) (.con (.str "across")))
 (.cons (.ret (.tup (.cons (.var 6) (.cons (.b1 .tuple (.b1 .sorted (.lc (.seq (.var 7)) (.two 11 12) .no (.tup (.cons (.bin .mod (.bin .sub (.var 3) (.var 11)) (.var 3)) (.cons (.var 12) .nil)))))) .nil))))
 .nil)
 .nil)
 (.cons (.ret (.tup (.cons (.var 6) (.cons (.b1 .tuple (.b1 .sorted (.lc (.seq (.var 7)) (.two 11 12) .no (.tup (.cons (.var 11) (.cons (.bin .mod (.bin .sub (.var 4) (.var 12)) (.var 4)) .nil)))))) .nil))))
 .nil)))))))⟩
/- 3 told due -/
def c_law_as : Fn := ⟨2, 2, (.cons (.ret (.bool true (.cons (.b1 .isBool (.var 0)) (.cons (.cmp .eq (.var 0) (.var 1)) .nil))))
 .nil)⟩
/- 4 way world row thing -/
def c_law_asked : Fn := ⟨4, 4, (.cons (.iff (.cmp .lt (.var 0) (.con (.int 3)))
 (.cons (.iff (.cmp .eq (.var 0) (.con (.int 0)))
 (.cons (.ret (.call 49 (.cons (.var 1) (.cons (.var 2) (.cons (.var 3) .nil)))))
 .nil)
 .nil)
 (.cons (.ret (.ite (.cmp .eq (.var 0) (.con (.int 1))) (.call 55 (.cons (.var 1) (.cons (.var 2) (.cons (.var 3) .nil)))) (.call 50 (.cons (.var 1) (.cons (.var 2) (.cons (.var 3) .nil))))))
 .nil))
 .nil)
 (.cons (.iff (.cmp .lt (.var 0) (.con (.int 7)))
 (.cons (.iff (.cmp .eq (.var 0) (.con (.int 3)))
 (.cons (.ret (.call 66 (.cons (.var 1) (.cons (.var 2) .nil))))
 .nil)
 .nil)
 (.cons (.iff (.cmp .eq (.var 0) (.con (.int 4)))
 (.cons (.ret (.call 93 (.cons (.var 1) (.cons (.tup .nil) (.cons (.var 2) .nil)))))
 .nil)
 .nil)
 (.cons (.ret (.ite (.cmp .eq (.var 0) (.con (.int 5))) (.call 51 (.cons (.var 1) (.cons (.var 2) (.cons (.tup .nil) .nil)))) (.call 108 (.cons (.var 1) (.cons (.var 2) .nil)))))
 .nil)))
 .nil)
 (.cons (.iff (.cmp .lt (.var 0) (.con (.int 11)))
 (.cons (.iff (.cmp .eq (.var 0) (.con (.int 7)))
 (.cons (.ret (.call 109 (.cons (.var 1) (.cons (.var 2) .nil))))
 .nil)
 .nil)
 (.cons (.iff (.cmp .eq (.var 0) (.con (.int 8)))
 (.cons (.ret (.call 88 (.cons (.var 1) (.cons (.var 2) .nil))))
 .nil)
 .nil)
 (.cons (.ret (.ite (.cmp .eq (.var 0) (.con (.int 9))) (.call 74 (.cons (.var 1) (.cons (.var 2) .nil))) (.call 76 (.cons (.var 1) (.cons (.var 2) .nil)))))
 .nil)))
 .nil)
 (.cons (.iff (.cmp .eq (.var 0) (.con (.int 11)))
 (.cons (.ret (.call 89 (.cons (.var 1) (.cons (.var 2) (.cons (.var 3) .nil)))))
 .nil)
 .nil)
 (.cons (.ret (.ite (.cmp .eq (.var 0) (.con (.int 12))) (.call 94 (.cons (.var 1) (.cons (.var 2) (.cons (.var 3) .nil)))) (.call 98 (.cons (.var 1) (.cons (.var 2) .nil)))))
 .nil)))))⟩
/- 5 world row picture found -/
def c_law_asks : Fn := ⟨3, 4, (.cons (.set 3 (.lst (.cons (.call 49 (.cons (.var 0) (.cons (.var 1) (.cons (.var 2) .nil)))) (.cons (.call 88 (.cons (.var 0) (.cons (.var 1) .nil))) (.cons (.call 109 (.cons (.var 0) (.cons (.var 1) .nil))) (.cons (.call 55 (.cons (.var 0) (.cons (.var 1) (.cons (.var 2) .nil)))) .nil))))))
 (.cons (.set 3 (.bin .add (.var 3) (.lst (.cons (.call 50 (.cons (.var 0) (.cons (.var 1) (.cons (.var 2) .nil)))) (.cons (.call 66 (.cons (.var 0) (.cons (.var 1) .nil))) (.cons (.call 92 (.cons (.var 0) (.cons (.var 1) .nil))) (.cons (.call 108 (.cons (.var 0) (.cons (.var 1) .nil))) .nil)))))))
 (.cons (.ret (.bin .add (.var 3) (.lst (.cons (.call 74 (.cons (.var 0) (.cons (.var 1) .nil))) (.cons (.call 76 (.cons (.var 0) (.cons (.var 1) .nil))) .nil)))))
 .nil)))⟩
/- 6 part world at cells some -/
def c_law_bad : Fn := ⟨3, 5, (.cons (.set 3 (.bin .mul (.idx (.var 1) (.con (.int 0))) (.idx (.var 1) (.con (.int 1)))))
 (.cons (.setk 4 [(.str "world")] (.cons (.lst (.cons (.con .none) (.cons (.tup (.cons (.con (.int 4)) (.cons (.con (.int 1)) (.cons (.con (.int 1)) .nil)))) (.cons (.tup (.cons (.con (.int 3)) (.cons (.con (.int 2)) (.cons (.con (.int 3)) .nil)))) (.cons (.lst (.cons (.con (.int 1)) (.cons (.con (.int 1)) (.cons (.con (.int 1)) .nil)))) .nil))))) .nil))
 (.cons (.put 4 (.con (.str "row")) (.lst (.cons (.con .none) (.cons (.lst (.cons (.tup (.cons (.con (.str "turn")) .nil)) .nil)) (.cons (.tup (.cons (.tup (.cons (.con (.str "turn")) (.cons (.con (.int 1)) .nil))) .nil)) (.cons (.bin .mul (.tup (.cons (.tup (.cons (.con (.str "turn")) .nil)) .nil)) (.con (.int 7))) .nil))))))
 (.cons (.put 4 (.con (.str "free")) (.idx (.pk 4) (.con (.str "row"))))
 (.cons (.put 4 (.con (.str "picture")) (.lst (.cons (.bin .mul (.tup (.cons (.con (.int 0)) .nil)) (.bin .add (.var 3) (.con (.int 1)))) (.cons (.con .none) (.cons (.bin .mul (.tup (.cons (.con (.int 9)) .nil)) (.var 3)) (.cons (.bin .mul (.lst (.cons (.con (.int 0)) .nil)) (.var 3)) .nil))))))
 (.cons (.put 4 (.con (.str "goal")) (.lst (.cons (.bin .mul (.tup (.cons (.con (.bool true)) .nil)) (.var 3)) (.cons (.tup .nil) (.cons (.bin .mul (.tup (.cons (.neg (.con (.int 1))) .nil)) (.var 3)) (.cons (.con (.str "0")) .nil))))))
 (.cons (.put 4 (.con (.str "choice")) (.lst (.cons (.lst .nil) (.cons (.tup (.cons (.tup (.cons (.con (.str "turn")) .nil)) .nil)) (.cons (.bin .mul (.lst (.cons (.tup (.cons (.con (.str "turn")) .nil)) .nil)) (.con (.int 2))) (.cons (.con .none) .nil))))))
 (.cons .hole
 (.cons (.put 4 (.con (.str "pairs")) (.lst (.cons (.con .none) (.cons (.lst (.cons (.tup (.cons (.bin .mul (.tup (.cons (.con (.int 0)) .nil)) (.var 3)) .nil)) .nil)) (.cons (.lst (.cons (.tup (.cons (.bin .mul (.tup (.cons (.con (.int 0)) .nil)) (.var 3)) (.cons (.con .none) .nil))) .nil)) (.cons (.bin .mul (.lst (.cons (.tup (.cons (.bin .mul (.tup (.cons (.con (.int 0)) .nil)) (.var 3)) (.cons (.bin .mul (.tup (.cons (.con (.int 0)) .nil)) (.var 3)) .nil))) .nil)) (.con (.int 7))) .nil))))))
 (.cons (.put 4 (.con (.str "text")) (.lst (.cons (.con .none) (.cons (.con (.str "")) (.cons (.bin .mul (.con (.str "9")) (.var 3)) (.cons (.bin .mul (.con (.str "0")) (.bin .add (.var 3) (.con (.int 1)))) .nil))))))
 (.cons (.ret (.idx (.idx (.pk 4) (.var 0)) (.var 2)))
 .nil)))))))))))⟩
/- 7 which a -/
def c_law_called : Fn := ⟨2, 2, (.cons (.iff (.cmp .lt (.var 0) (.con (.int 3)))
 (.cons (.iff (.cmp .eq (.var 0) (.con (.int 0)))
 (.cons (.ret (.call 112 (.cons (.idx (.var 1) (.con (.int 0))) (.cons (.idx (.var 1) (.con (.int 1))) .nil))))
 .nil)
 .nil)
 (.cons (.ret (.ite (.cmp .eq (.var 0) (.con (.int 1))) (.call 102 (.cons (.idx (.var 1) (.con (.int 0))) (.cons (.idx (.var 1) (.con (.int 1))) .nil))) (.call 69 (.cons (.idx (.var 1) (.con (.int 0))) .nil))))
 .nil))
 .nil)
 (.cons (.iff (.cmp .lt (.var 0) (.con (.int 6)))
 (.cons (.iff (.cmp .eq (.var 0) (.con (.int 3)))
 (.cons (.ret (.call 97 (.cons (.idx (.var 1) (.con (.int 0))) (.cons (.idx (.var 1) (.con (.int 1))) (.cons (.idx (.var 1) (.con (.int 2))) .nil)))))
 .nil)
 .nil)
 (.cons (.ret (.ite (.cmp .eq (.var 0) (.con (.int 4))) (.call 116 (.cons (.idx (.var 1) (.con (.int 0))) (.cons (.idx (.var 1) (.con (.int 1))) (.cons (.idx (.var 1) (.con (.int 2))) (.cons (.idx (.var 1) (.con (.int 3))) .nil))))) (.call 60 (.cons (.idx (.var 1) (.con (.int 0))) (.cons (.idx (.var 1) (.con (.int 1))) (.cons (.idx (.var 1) (.con (.int 2))) .nil))))))
 .nil))
 .nil)
 (.cons (.ret (.call 115 (.cons (.idx (.var 1) (.con (.int 0))) (.cons (.idx (.var 1) (.con (.int 1))) (.cons (.idx (.var 1) (.con (.int 2))) .nil)))))
 .nil)))⟩
/- 8 which a -/
def c_law_called_then : Fn := ⟨2, 2, (.cons (.iff (.cmp .lt (.var 0) (.con (.int 10)))
 (.cons (.iff (.cmp .eq (.var 0) (.con (.int 7)))
 (.cons (.ret (.call 56 (.cons (.idx (.var 1) (.con (.int 0))) (.cons (.idx (.var 1) (.con (.int 1))) (.cons (.idx (.var 1) (.con (.int 2))) .nil)))))
 .nil)
 .nil)
 (.cons (.ret (.ite (.cmp .eq (.var 0) (.con (.int 8))) (.call 65 (.cons (.idx (.var 1) (.con (.int 0))) (.cons (.idx (.var 1) (.con (.int 1))) (.cons (.idx (.var 1) (.con (.int 2))) (.cons (.idx (.var 1) (.con (.int 3))) .nil))))) (.call 62 (.cons (.idx (.var 1) (.con (.int 0))) (.cons (.idx (.var 1) (.con (.int 1))) (.cons (.idx (.var 1) (.con (.int 2))) .nil))))))
 .nil))
 .nil)
 (.cons (.iff (.cmp .eq (.var 0) (.con (.int 10)))
 (.cons (.ret .hole)
 .nil)
 .nil)
 (.cons (.ret (.ite (.cmp .eq (.var 0) (.con (.int 11))) (.call 96 (.cons (.idx (.var 1) (.con (.int 0))) (.cons (.idx (.var 1) (.con (.int 1))) .nil))) (.call 99 (.cons (.idx (.var 1) (.con (.int 0))) (.cons (.idx (.var 1) (.con (.int 1))) .nil)))))
 .nil)))⟩
/- 9 which a caught -/
def c_law_caught : Fn := ⟨2, 3, (.cons (.set 2 (.con (.str "")))
 (.cons (.try_ (.iff (.cmp .lt (.var 0) (.con (.int 7))) (.exp (.call 7 (.cons (.var 0) (.cons (.var 1) .nil)))) (.exp (.call 8 (.cons (.var 0) (.cons (.var 1) .nil))))) [(6, 2, (.str "world")), (4, 2, (.str "row")), (3, 2, (.str "picture")), (2, 2, (.str "deed")), (0, 2, (.str "choice")), (1, 2, (.str "count")), (5, 2, (.str "text"))])
 (.cons (.ret (.var 2))
 .nil)))⟩
/- 10 script k -/
def c_law_cell : Fn := ⟨2, 2, (.cons (.iff (.cmp .lt (.var 1) (.b1 .len (.var 0)))
 (.cons (.ret (.idx (.var 0) (.var 1)))
 .nil)
 .nil)
 (.cons (.ret (.con (.int 0)))
 .nil))⟩
/- 11 world script at most found k deed -/
def c_law_choice : Fn := ⟨4, 7, (.cons (.setl 4 .nil)
 (.cons (.for_ (.one 5) (.rng (.bin .add (.con (.int 1)) (.bin .mod (.call 10 (.cons (.var 1) (.cons (.var 2) .nil))) (.var 3))))
 (.cons (.set 6 (.call 12 (.cons (.var 0) (.cons (.call 38 (.cons (.bin .add (.call 10 (.cons (.var 1) (.cons (.bin .add (.var 2) (.con (.int 1))) .nil))) (.bin .mul (.con (.int 41)) (.var 5))) (.cons (.var 5) .nil))) .nil))))
 (.cons (.iff (.cmp .nin (.var 6) (.pk 4))
 (.cons (.app 4 (.var 6))
 .nil)
 .nil)
 .nil)))
 (.cons (.frz 4)
 (.cons (.ret (.var 4))
 .nil))))⟩
/- 12 world seed pick cells cell -/
def c_law_deed : Fn := ⟨2, 5, (.cons (.set 2 (.call 32 (.cons (.var 1) (.cons (.con (.int 9)) .nil))))
 (.cons (.iff (.cmp .eq (.var 2) (.con (.int 0)))
 (.cons (.ret (.tup (.cons (.con (.str "turn")) .nil)))
 .nil)
 .nil)
 (.cons (.iff (.cmp .eq (.var 2) (.con (.int 1)))
 (.cons (.ret (.tup (.cons (.con (.str "flip")) (.cons (.idx (.lst (.cons (.con (.str "across")) (.cons (.con (.str "down")) .nil))) (.bin .mod (.bin .fdiv (.var 1) (.con (.int 7))) (.con (.int 2)))) .nil))))
 .nil)
 .nil)
 (.cons (.iff (.cmp .lt (.var 2) (.con (.int 4)))
 (.cons (.ret (.tup (.cons (.con (.str "shift")) (.cons (.bin .mod (.bin .fdiv (.var 1) (.con (.int 7))) (.idx (.var 0) (.con (.int 0)))) (.cons (.bin .mod (.bin .fdiv (.var 1) (.con (.int 11))) (.idx (.var 0) (.con (.int 1)))) .nil)))))
 .nil)
 .nil)
 (.cons (.iff (.cmp .lt (.var 2) (.con (.int 7)))
 (.cons (.ret (.tup (.cons (.idx (.lst (.cons (.con (.str "greatest")) (.cons (.con (.str "least")) .nil))) (.bin .mod (.bin .fdiv (.var 1) (.con (.int 7))) (.con (.int 2)))) (.cons (.call 45 (.cons (.var 0) (.cons (.call 38 (.cons (.var 1) (.cons (.con (.int 3)) .nil))) .nil))) .nil))))
 .nil)
 .nil)
 (.cons (.set 3 (.lc (.rng (.bin .mul (.idx (.var 0) (.con (.int 0))) (.idx (.var 0) (.con (.int 1))))) (.one 4) (.so (.cmp .gt (.bin .mod (.bin .fdiv (.call 38 (.cons (.var 1) (.cons (.var 4) .nil))) (.con (.int 5))) (.con (.int 3))) (.con (.int 0)))) (.var 4)))
 (.cons (.ret (.tup (.cons (.idx (.lst (.cons (.con (.str "mask")) (.cons (.con (.str "lift")) .nil))) (.bin .sub (.var 2) (.con (.int 7)))) (.cons (.b1 .tuple (.ite (.cmp .eq (.var 2) (.con (.int 8))) (.slc (.var 3) .no (.so (.idx (.lst (.cons (.con (.int 9)) (.cons (.con (.int 1)) (.cons (.con (.int 2)) .nil)))) (.bin .mod (.bin .fdiv (.var 1) (.con (.int 7))) (.con (.int 3)))))) (.var 3))) .nil))))
 .nil)))))))⟩
/- 13 way world -/
def c_law_deeds_of : Fn := ⟨1, 2, (.cons (.set 1 (.tup (.cons (.con (.int 1)) (.cons (.con (.int 1)) (.cons (.con (.int 1)) .nil)))))
 (.cons (.iff (.cmp .eq (.var 0) (.con (.int 0)))
 (.cons (.ret (.call 88 (.cons (.con .none) (.cons (.tup .nil) .nil))))
 .nil)
 .nil)
 (.cons (.iff (.cmp .eq (.var 0) (.con (.int 1)))
 (.cons (.ret (.call 88 (.cons (.var 1) (.cons (.con .none) .nil))))
 .nil)
 .nil)
 (.cons (.iff (.cmp .eq (.var 0) (.con (.int 2)))
 (.cons (.ret (.call 55 (.cons (.var 1) (.cons (.tup .nil) (.cons (.con .none) .nil)))))
 .nil)
 .nil)
 (.cons (.ret (.ite (.cmp .eq (.var 0) (.con (.int 3))) (.call 94 (.cons (.var 1) (.cons (.tup (.cons (.con (.str "turn")) .nil)) (.cons (.tup (.cons (.con (.str "turn")) .nil)) .nil)))) (.call 98 (.cons (.var 1) (.cons (.con .none) .nil)))))
 .nil)))))⟩
/- 14 world picture deed word found cell wide high top x y new shown_here across down -/
def c_law_done : Fn := ⟨3, 15, (.cons (.unp3 6 7 8 (.var 0))
 (.cons (.set 3 (.idx (.var 2) (.con (.int 0))))
 (.cons (.setl 4 .nil)
 (.cons (.for_ (.one 5) (.rng (.bin .mul (.var 6) (.var 7)))
 (.cons (.unp (.two 9 10) (.tup (.cons (.bin .mod (.var 5) (.var 6)) (.cons (.bin .fdiv (.var 5) (.var 6)) .nil))))
 (.cons (.iff (.cmp .eq (.var 3) (.con (.str "turn")))
 (.cons (.set 11 (.bin .sub (.var 8) (.idx (.var 1) (.var 5))))
 .nil)
 (.cons (.iff (.cmp .eq (.var 3) (.con (.str "shift")))
 (.cons (.set 11 (.idx (.var 1) (.bin .add (.bin .mul (.bin .mod (.bin .sub (.var 10) (.idx (.var 2) (.con (.int 2)))) (.var 7)) (.var 6)) (.bin .mod (.bin .sub (.var 9) (.idx (.var 2) (.con (.int 1)))) (.var 6)))))
 .nil)
 (.cons (.iff (.cmp .eq (.var 3) (.con (.str "flip")))
 (.cons (.set 11 (.ite (.cmp .eq (.idx (.var 2) (.con (.int 1))) (.con (.str "across"))) (.idx (.var 1) (.bin .sub (.bin .sub (.bin .add (.bin .mul (.var 10) (.var 6)) (.var 6)) (.con (.int 1))) (.var 9))) (.idx (.var 1) (.bin .add (.bin .mul (.bin .sub (.bin .sub (.var 7) (.con (.int 1))) (.var 10)) (.var 6)) (.var 9)))))
 .nil)
 (.cons (.iff (.cmp .eq (.var 3) (.con (.str "mask")))
 (.cons (.set 11 (.idx (.lst (.cons (.con (.int 0)) (.cons (.idx (.var 1) (.var 5)) .nil))) (.b1 .int (.cmp .inn (.var 5) (.idx (.var 2) (.con (.int 1)))))))
 .nil)
 (.cons (.iff (.cmp .eq (.var 3) (.con (.str "lift")))
 (.cons (.set 11 (.idx (.lst (.cons (.idx (.var 1) (.var 5)) (.cons (.var 8) .nil))) (.b1 .int (.cmp .inn (.var 5) (.idx (.var 2) (.con (.int 1)))))))
 .nil)
 (.cons (.set 12 (.b1 .sorted (.lc (.seq (.idx (.var 2) (.con (.int 1)))) (.two 13 14) .no (.idx (.var 1) (.bin .add (.bin .mul (.bin .mod (.bin .add (.var 10) (.var 14)) (.var 7)) (.var 6)) (.bin .mod (.bin .add (.var 9) (.var 13)) (.var 6)))))))
 (.cons (.set 11 (.ite (.cmp .eq (.var 3) (.con (.str "least"))) (.idx (.var 12) (.con (.int 0))) (.idx (.var 12) (.neg (.con (.int 1))))))
 .nil)))
 .nil))
 .nil))
 .nil))
 .nil))
 (.cons (.app 4 (.var 11))
 .nil))))
 (.cons (.ret (.b1 .tuple (.pk 4)))
 .nil)))))⟩
/- 15 world state deed new rows deeds undone -/
def c_law_eased : Fn := ⟨3, 7, (.cons (.unp3 4 5 6 (.tup (.cons (.idx (.var 1) (.con (.str "rows"))) (.cons (.idx (.var 1) (.con (.str "deeds"))) (.cons (.idx (.var 1) (.con (.str "undone"))) .nil)))))
 (.cons (.iff (.cmp .eq (.var 2) (.con (.str "back")))
 (.cons (.iff (.cmp .eq (.pk 5) (.lst .nil))
 (.cons (.ret (.con (.str "nothing")))
 .nil)
 .nil)
 (.cons (.exp .hole)
 (.cons (.app 6 .hole)
 (.cons (.ret (.idx (.pk 6) (.neg (.con (.int 1)))))
 .nil))))
 .nil)
 (.cons (.iff (.bool true (.cons (.cmp .eq (.var 2) (.con (.str "again"))) (.cons (.cmp .eq (.pk 6) (.lst .nil)) .nil)))
 (.cons (.ret (.con (.str "nothing")))
 .nil)
 .nil)
 (.cons (.set 3 (.ite (.cmp .eq (.var 2) (.con (.str "again"))) .hole (.var 2)))
 (.cons (.iff (.cmp .ne (.var 2) (.con (.str "again")))
 (.cons (.exp .hole)
 .nil)
 .nil)
 (.cons (.app 4 (.call 14 (.cons (.var 0) (.cons (.idx (.pk 4) (.neg (.con (.int 1)))) (.cons (.var 3) .nil)))))
 (.cons (.app 5 (.var 3))
 (.cons (.ret (.ite (.cmp .eq (.var 2) (.con (.str "again"))) (.var 3) (.idx (.pk 4) (.neg (.con (.int 1))))))
 .nil))))))))⟩
/- 16 one deed found -/
def c_law_easel : Fn := ⟨2, 3, (.cons (.set 2 (.con .none))
 (.cons (.try_ (.iff (.cmp .eq (.var 1) (.con (.str "back"))) (.set 2 .hole) (.set 2 (.ite (.cmp .eq (.var 1) (.con (.str "again"))) .hole .hole))) [(2, 2, (.str "deed")), (7, 2, (.str "nothing"))])
 (.cons (.ret (.var 2))
 .nil)))⟩
/- 17 world found cell longer row worth -/
def c_law_every : Fn := ⟨1, 6, (.cons (.set 1 (.lst (.cons (.tup .nil) .nil)))
 (.cons (.for_ (.one 2) (.rng (.bin .mul (.idx (.var 0) (.con (.int 0))) (.idx (.var 0) (.con (.int 1)))))
 (.cons (.set 3 (.lst .nil))
 (.cons (.for_ (.one 4) (.seq (.var 1))
 (.cons (.set 3 (.bin .add (.var 3) (.lc (.rng (.bin .add (.idx (.var 0) (.con (.int 2))) (.con (.int 1)))) (.one 5) .no (.bin .add (.var 4) (.tup (.cons (.var 5) .nil))))))
 .nil))
 (.cons (.set 1 (.var 3))
 .nil))))
 (.cons (.ret (.var 1))
 .nil)))⟩
/- 18 world choice picture found here later one deed new -/
def c_law_flood : Fn := ⟨3, 9, (.cons (.pard 3 4 (.var 2) (.tup .nil) (.lst (.cons (.var 2) .nil)))
 (.cons (.whl (.cmp .ne (.var 4) (.lst .nil))
 (.cons (.setl 5 .nil)
 (.cons (.for_ (.one 6) (.seq (.var 4))
 (.cons (.for_ (.one 7) (.seq (.var 1))
 (.cons (.set 8 (.call 14 (.cons (.var 0) (.cons (.var 6) (.cons (.var 7) .nil)))))
 (.cons (.iff (.cmp .nin (.var 8) (.pk 3))
 (.cons (.put 3 (.var 8) (.bin .add (.idx (.pk 3) (.var 6)) (.tup (.cons (.var 7) .nil))))
 (.cons (.app 5 (.var 8))
 .nil))
 .nil)
 .nil)))
 .nil))
 (.cons (.frz 5)
 (.cons (.set 4 (.var 5))
 .nil)))))
 (.cons (.frz 3)
 (.cons (.ret (.var 3))
 .nil))))⟩
/- 19 world script at found k seed shift -/
def c_law_free_row : Fn := ⟨3, 7, (.cons (.setl 3 .nil)
 (.cons (.for_ (.one 4) (.rng (.bin .mod (.call 10 (.cons (.var 1) (.cons (.var 2) .nil))) (.con (.int 7))))
 (.cons (.set 5 (.call 38 (.cons (.bin .add (.call 10 (.cons (.var 1) (.cons (.bin .add (.bin .add (.var 2) (.con (.int 1))) (.bin .mod (.var 4) (.con (.int 2)))) .nil))) (.bin .mul (.con (.int 41)) (.var 4))) (.cons (.var 4) .nil))))
 (.cons (.set 6 (.tup (.cons (.con (.str "shift")) (.cons (.bin .mod (.bin .fdiv (.var 5) (.con (.int 7))) (.idx (.var 0) (.con (.int 0)))) (.cons (.bin .mod (.bin .fdiv (.var 5) (.con (.int 11))) (.idx (.var 0) (.con (.int 1)))) .nil)))))
 (.cons (.app 3 (.idx (.lst (.cons (.tup (.cons (.con (.str "turn")) .nil)) (.cons (.tup (.cons (.con (.str "flip")) (.cons (.con (.str "across")) .nil))) (.cons (.tup (.cons (.con (.str "flip")) (.cons (.con (.str "down")) .nil))) (.cons (.var 6) .nil))))) (.call 32 (.cons (.var 5) (.cons (.con (.int 4)) .nil)))))
 .nil))))
 (.cons (.ret (.b1 .tuple (.pk 3)))
 .nil)))⟩
/- 20 which some -/
def c_law_handed : Fn := ⟨1, 2, (.cons (.set 1 (.lst (.cons (.con (.str "world free")) (.cons (.con (.str "world row")) (.cons (.con (.str "world")) (.cons (.con (.str "world choice picture")) (.cons (.con (.str "world choice picture goal")) .nil)))))))
 (.cons (.set 1 (.bin .add (.var 1) (.lst (.cons (.con (.str "world choice picture")) (.cons (.con (.str "world choice four")) (.cons (.con (.str "world choice row")) (.cons (.con (.str "world choice pairs three")) .nil)))))))
 (.cons (.set 1 (.bin .add (.var 1) (.lst (.cons (.con (.str "world choice pairs")) (.cons (.con (.str "world picture")) (.cons (.con (.str "world picture")) (.cons (.con (.str "world text")) .nil)))))))
 (.cons (.ret (.mth .split (.idx (.var 1) (.var 0)) (.cons (.con (.str " ")) .nil)))
 .nil))))⟩
/- 21 thing low high -/
def c_law_in : Fn := ⟨3, 3, (.cons (.ret (.bool true (.cons (.b1 .isInt (.var 0)) (.cons (.not (.b1 .isBool (.var 0))) (.cons (.chn .le .le (.var 1) (.var 0) (.var 2)) .nil)))))
 .nil)⟩
/- 22 world thing word one other -/
def c_law_is_deed : Fn := ⟨2, 5, (.cons (.iff (.bool false (.cons (.not (.b1 .isTuple (.var 1))) (.cons (.cmp .eq (.var 1) (.tup .nil)) (.cons (.not (.b1 .isStr (.idx (.var 1) (.con (.int 0))))) .nil))))
 (.cons (.ret (.con (.bool false)))
 .nil)
 .nil)
 (.cons (.set 2 (.idx (.var 1) (.con (.int 0))))
 (.cons (.iff (.cmp .eq (.var 2) (.con (.str "turn")))
 (.cons (.ret (.cmp .eq (.b1 .len (.var 1)) (.con (.int 1))))
 .nil)
 .nil)
 (.cons (.iff (.cmp .eq (.var 2) (.con (.str "shift")))
 (.cons (.ret (.bool true (.cons (.cmp .eq (.b1 .len (.var 1)) (.con (.int 3))) (.cons (.call 21 (.cons (.idx (.var 1) (.con (.int 1))) (.cons (.con (.int 0)) (.cons (.bin .sub (.idx (.var 0) (.con (.int 0))) (.con (.int 1))) .nil)))) (.cons (.call 21 (.cons (.idx (.var 1) (.con (.int 2))) (.cons (.con (.int 0)) (.cons (.bin .sub (.idx (.var 0) (.con (.int 1))) (.con (.int 1))) .nil)))) .nil)))))
 .nil)
 .nil)
 (.cons (.iff (.bool false (.cons (.cmp .ne (.b1 .len (.var 1)) (.con (.int 2))) (.cons (.cmp .nin (.var 2) (.tup (.cons (.con (.str "flip")) (.cons (.con (.str "greatest")) (.cons (.con (.str "least")) (.cons (.con (.str "mask")) (.cons (.con (.str "lift")) .nil))))))) .nil)))
 (.cons (.ret (.con (.bool false)))
 .nil)
 .nil)
 (.cons (.iff (.cmp .eq (.var 2) (.con (.str "flip")))
 (.cons (.ret (.bool true (.cons (.b1 .isStr (.idx (.var 1) (.con (.int 1)))) (.cons (.cmp .inn (.idx (.var 1) (.con (.int 1))) (.tup (.cons (.con (.str "across")) (.cons (.con (.str "down")) .nil)))) .nil))))
 .nil)
 .nil)
 (.cons (.iff (.not (.b1 .isTuple (.idx (.var 1) (.con (.int 1)))))
 (.cons (.ret (.con (.bool false)))
 .nil)
 .nil)
 (.cons (.for_ (.one 3) (.seq (.idx (.var 1) (.con (.int 1))))
 (.cons (.iff (.cmp .inn (.var 2) (.tup (.cons (.con (.str "mask")) (.cons (.con (.str "lift")) .nil))))
 (.cons (.iff (.not (.call 21 (.cons (.var 3) (.cons (.con (.int 0)) (.cons (.bin .sub (.bin .mul (.idx (.var 0) (.con (.int 0))) (.idx (.var 0) (.con (.int 1)))) (.con (.int 1))) .nil)))))
 (.cons (.ret (.con (.bool false)))
 .nil)
 .nil)
 .nil)
 (.cons (.iff (.bool false (.cons (.not (.b1 .isTuple (.var 3))) (.cons (.cmp .ne (.b1 .len (.var 3)) (.con (.int 2))) .nil)))
 (.cons (.ret (.con (.bool false)))
 .nil)
 (.cons (.iff (.bool false (.cons (.not (.call 21 (.cons (.idx (.var 3) (.con (.int 0))) (.cons (.con (.int 0)) (.cons (.bin .sub (.idx (.var 0) (.con (.int 0))) (.con (.int 1))) .nil))))) (.cons (.not (.call 21 (.cons (.idx (.var 3) (.con (.int 1))) (.cons (.con (.int 0)) (.cons (.bin .sub (.idx (.var 0) (.con (.int 1))) (.con (.int 1))) .nil))))) .nil)))
 (.cons (.ret (.con (.bool false)))
 .nil)
 .nil)
 .nil))
 .nil))
 .nil))
 (.cons (.iff (.bool true (.cons (.cmp .inn (.var 2) (.tup (.cons (.con (.str "greatest")) (.cons (.con (.str "least")) .nil)))) (.cons (.cmp .eq (.idx (.var 1) (.con (.int 1))) (.tup .nil)) .nil)))
 (.cons (.ret (.con (.bool false)))
 .nil)
 .nil)
 (.cons (.ret (.cmp .eq (.lc (.zip (.idx (.var 1) (.con (.int 1))) (.slc (.idx (.var 1) (.con (.int 1))) (.so (.con (.int 1))) .no)) (.two 3 4) (.so (.cmp .ge (.var 3) (.var 4))) (.con (.int 1))) (.lst .nil)))
 .nil))))))))))⟩
/- 23 world thing deed -/
def c_law_is_row : Fn := ⟨2, 3, (.cons (.iff (.bool false (.cons (.not (.b1 .isTuple (.var 1))) (.cons (.cmp .gt (.b1 .len (.var 1)) (.con (.int 6))) .nil)))
 (.cons (.ret (.con (.bool false)))
 .nil)
 .nil)
 (.cons (.ret (.cmp .eq (.lc (.seq (.var 1)) (.one 2) (.so (.not (.call 22 (.cons (.var 0) (.cons (.var 2) .nil))))) (.var 2)) (.lst .nil)))
 .nil))⟩
/- 24 way some e -/
def c_law_kinds_of : Fn := ⟨1, 3, (.cons (.set 1 (.lst .nil))
 (.cons .hole
 (.cons (.ret (.var 1))
 .nil)))⟩
/- 25 world deed -/
def c_law_led_back : Fn := ⟨2, 2, (.cons (.ret (.ite (.cmp .eq (.idx (.var 1) (.con (.int 0))) (.con (.str "shift"))) (.tup (.cons (.con (.str "shift")) (.cons (.bin .mod (.neg (.idx (.var 1) (.con (.int 1)))) (.idx (.var 0) (.con (.int 0)))) (.cons (.bin .mod (.neg (.idx (.var 1) (.con (.int 2)))) (.idx (.var 0) (.con (.int 1)))) .nil)))) (.var 1)))
 .nil)⟩
/- 26 world line pieces_here steps word gap rest cells part sign step one -/
def c_law_line : Fn := ⟨2, 12, (.cons (.iff (.cmp .inn (.var 1) (.tup (.cons (.con (.str "turn")) (.cons (.con (.str "flip across")) (.cons (.con (.str "flip down")) .nil)))))
 (.cons (.ret (.con (.bool true)))
 .nil)
 .nil)
 (.cons (.unp3 4 5 6 (.mth .partition (.var 1) (.cons (.con (.str " ")) .nil)))
 (.cons (.iff (.bool false (.cons (.cmp .eq (.var 5) (.con (.str ""))) (.cons (.cmp .ne (.lc (.seq (.var 6)) (.one 9) (.so (.cmp .nin (.var 9) (.con (.str "012345,")))) (.var 9)) (.lst .nil)) .nil)))
 (.cons (.ret (.con (.bool false)))
 .nil)
 .nil)
 (.cons (.iff (.cmp .inn (.var 4) (.tup (.cons (.con (.str "mask")) (.cons (.con (.str "lift")) .nil))))
 (.cons (.set 7 (.lc (.seq (.var 6)) (.one 9) (.so (.cmp .ne (.var 9) (.con (.str ",")))) (.b1 .int (.var 9))))
 (.cons (.iff (.bool false (.cons (.cmp .inn (.con (.str ",")) (.var 6)) (.cons (.cmp .ne (.var 7) (.b1 .sortedset (.var 7))) .nil)))
 (.cons (.ret (.con (.bool false)))
 .nil)
 .nil)
 (.cons (.ret (.cmp .eq (.lc (.seq (.var 7)) (.one 11) (.so (.cmp .ge (.var 11) (.bin .mul (.idx (.var 0) (.con (.int 0))) (.idx (.var 0) (.con (.int 1)))))) (.var 11)) (.lst .nil)))
 .nil)))
 .nil)
 (.cons (.set 2 (.mth .split (.var 6) (.cons (.con (.str ",")) .nil)))
 (.cons (.iff (.cmp .ne (.lc (.seq (.var 2)) (.one 8) (.so (.cmp .ne (.b1 .len (.var 8)) (.con (.int 2)))) (.var 8)) (.lst .nil))
 (.cons (.ret (.con (.bool false)))
 .nil)
 .nil)
 (.cons (.set 3 (.lc (.seq (.var 2)) (.one 8) .no (.tup (.cons (.b1 .int (.idx (.var 8) (.con (.int 0)))) (.cons (.b1 .int (.idx (.var 8) (.con (.int 1)))) .nil)))))
 (.cons (.iff (.cmp .ne (.lc (.seq (.var 3)) (.one 10) (.so (.bool false (.cons (.cmp .ge (.idx (.var 10) (.con (.int 0))) (.idx (.var 0) (.con (.int 0)))) (.cons (.cmp .ge (.idx (.var 10) (.con (.int 1))) (.idx (.var 0) (.con (.int 1)))) .nil)))) (.var 10)) (.lst .nil))
 (.cons (.ret (.con (.bool false)))
 .nil)
 .nil)
 (.cons (.iff (.cmp .eq (.var 4) (.con (.str "shift")))
 (.cons (.ret (.cmp .eq (.b1 .len (.var 3)) (.con (.int 1))))
 .nil)
 .nil)
 (.cons (.ret (.bool true (.cons (.cmp .inn (.var 4) (.tup (.cons (.con (.str "greatest")) (.cons (.con (.str "least")) .nil)))) (.cons (.cmp .eq (.var 3) (.b1 .sortedset (.var 3))) .nil))))
 .nil))))))))))⟩
/- 27 world row picture -/
def c_law_made : Fn := ⟨2, 3, (.cons (.ret (.lc (.seq (.call 17 (.cons (.var 0) .nil))) (.one 2) .no (.call 1 (.cons (.var 0) (.cons (.var 2) (.cons (.var 1) .nil))))))
 .nil)⟩
/- 28 cell prime many -/
def c_law_mix : Fn := ⟨3, 3, (.cons (.ret (.bin .mod (.bin .mod (.bin .pow (.bin .mod (.bin .mul (.var 0) (.con (.int 48271))) (.var 1)) (.con (.int 3))) (.var 1)) (.var 2)))
 .nil)⟩
/- 29 script world row at due here told k -/
def c_law_once : Fn := ⟨1, 8, (.cons (.set 1 (.call 47 (.cons (.call 10 (.cons (.var 0) (.cons (.con (.int 0)) .nil))) .nil)))
 (.cons (.set 2 (.call 36 (.cons (.var 1) (.cons (.var 0) (.cons (.con (.int 1)) (.cons (.con (.int 4)) .nil))))))
 (.cons (.set 3 (.call 28 (.cons (.call 10 (.cons (.var 0) (.cons (.con (.int 5)) .nil))) (.cons (.con (.int 9949)) (.cons (.bin .add (.b1 .len (.var 2)) (.con (.int 1))) .nil)))))
 (.cons (.iff (.cmp .eq (.bin .mod (.call 10 (.cons (.var 0) (.cons (.con (.int 6)) .nil))) (.con (.int 2))) (.con (.int 0)))
 (.cons (.set 2 (.bin .add (.bin .add (.slc (.var 2) .no (.so (.var 3))) (.slc (.var 2) (.so (.var 3)) (.so (.bin .add (.var 3) (.con (.int 1)))))) (.slc (.var 2) (.so (.var 3)) .no)))
 .nil)
 .nil)
 (.cons (.set 4 (.lc (.rng (.b1 .len (.var 2))) (.one 7) (.so (.isN true (.call 30 (.cons (.var 1) (.cons (.var 2) (.cons (.bin .add (.slc (.var 2) .no (.so (.var 7))) (.slc (.var 2) (.so (.bin .add (.var 7) (.con (.int 1)))) .no)) .nil)))))) (.var 7)))
 (.cons (.iff (.cmp .ne (.call 92 (.cons (.var 1) (.cons (.var 2) .nil))) (.var 4))
 (.cons (.ret (.con (.bool false)))
 .nil)
 .nil)
 (.cons (.set 5 (.var 2))
 (.cons (.whl (.cmp .ne (.var 4) (.lst .nil))
 (.cons (.set 5 (.bin .add (.slc (.var 5) .no (.so (.idx (.var 4) (.neg (.con (.int 1)))))) (.slc (.var 5) (.so (.bin .add (.idx (.var 4) (.neg (.con (.int 1)))) (.con (.int 1)))) .no)))
 (.cons (.set 4 (.lc (.rng (.b1 .len (.var 5))) (.one 7) (.so (.isN true (.call 30 (.cons (.var 1) (.cons (.var 5) (.cons (.bin .add (.slc (.var 5) .no (.so (.var 7))) (.slc (.var 5) (.so (.bin .add (.var 7) (.con (.int 1)))) .no)) .nil)))))) (.var 7)))
 .nil)))
 (.cons (.set 6 (.call 107 (.cons (.var 1) (.cons (.var 2) .nil))))
 (.cons (.ret (.bool true (.cons (.cmp .eq (.var 6) (.var 5)) (.cons (.cmp .eq (.call 92 (.cons (.var 1) (.cons (.var 6) .nil))) (.lst .nil)) (.cons (.cmp .is (.call 51 (.cons (.var 1) (.cons (.var 6) (.cons (.var 2) .nil)))) (.con (.bool true))) .nil)))))
 .nil))))))))))⟩
/- 30 world one other picture -/
def c_law_parted : Fn := ⟨3, 4, (.cons (.for_ (.one 3) (.seq (.call 17 (.cons (.var 0) .nil)))
 (.cons (.iff (.cmp .ne (.call 1 (.cons (.var 0) (.cons (.var 3) (.cons (.var 1) .nil)))) (.call 1 (.cons (.var 0) (.cons (.var 3) (.cons (.var 2) .nil)))))
 (.cons (.ret (.var 3))
 .nil)
 .nil)
 .nil))
 (.cons (.ret (.con .none))
 .nil))⟩
/- 31 world one other found -/
def c_law_passed : Fn := ⟨3, 4, (.cons (.set 3 (.con (.str "deed")))
 (.cons (.try_ (.set 3 (.call 94 (.cons (.var 0) (.cons (.var 1) (.cons (.var 2) .nil))))) [(2, 3, (.str "deed"))])
 (.cons (.ret (.var 3))
 .nil)))⟩
/- 32 seed many -/
def c_law_pick : Fn := ⟨2, 2, (.cons (.ret (.bin .mod (.bin .fdiv (.var 0) (.con (.int 97))) (.var 1)))
 .nil)⟩
/- 33 world picture found cell worth -/
def c_law_picture_text : Fn := ⟨2, 5, (.cons (.set 2 (.con (.str "")))
 (.cons (.for_ (.two 3 4) (.enum (.var 1))
 (.cons (.set 2 (.bin .add (.bin .add (.var 2) (.bin .mul (.con (.str "\n")) (.b1 .int (.bool true (.cons (.cmp .gt (.var 3) (.con (.int 0))) (.cons (.cmp .eq (.bin .mod (.var 3) (.idx (.var 0) (.con (.int 0)))) (.con (.int 0))) .nil)))))) (.b1 .str (.var 4))))
 .nil))
 (.cons (.ret (.var 2))
 .nil)))⟩
/- 34 world text found -/
def c_law_read : Fn := ⟨2, 3, (.cons (.set 2 (.con .none))
 (.cons (.try_ (.set 2 (.call 98 (.cons (.var 0) (.cons (.var 1) .nil)))) [(5, 2, .none)])
 (.cons (.ret (.var 2))
 .nil)))⟩
/- 35 part words -/
def c_law_refuses : Fn := ⟨1, 2, (.cons (.set 1 (.dsp [(.str "free"), (.str "goal"), (.str "four"), (.str "three"), (.str "pairs")] (.cons (.con (.str "row")) (.cons (.con (.str "picture")) (.cons (.con (.str "count")) (.cons (.con (.str "count")) (.cons (.con (.str "choice")) .nil)))))))
 (.cons (.ret (.mth .get (.var 1) (.cons (.var 0) (.cons (.var 0) .nil))))
 .nil))⟩
/- 36 world script at most found k -/
def c_law_row : Fn := ⟨4, 6, (.cons (.setl 4 .nil)
 (.cons (.for_ (.one 5) (.rng (.bin .mod (.call 10 (.cons (.var 1) (.cons (.var 2) .nil))) (.bin .add (.var 3) (.con (.int 1)))))
 (.cons (.app 4 (.call 12 (.cons (.var 0) (.cons (.call 38 (.cons (.bin .add (.call 10 (.cons (.var 1) (.cons (.bin .add (.bin .add (.var 2) (.con (.int 1))) (.bin .mod (.var 5) (.con (.int 3)))) .nil))) (.bin .mul (.con (.int 41)) (.var 5))) (.cons (.var 5) .nil))) .nil))))
 .nil))
 (.cons (.ret (.b1 .tuple (.pk 4)))
 .nil)))⟩
/- 37 choice long k found here longer row deed -/
def c_law_rows : Fn := ⟨2, 8, (.cons (.par 3 4 (.lst (.cons (.tup .nil) .nil)) (.lst (.cons (.tup .nil) .nil)))
 (.cons (.for_ (.one 2) (.rng (.var 1))
 (.cons (.set 5 (.lst .nil))
 (.cons (.for_ (.one 6) (.seq (.var 4))
 (.cons (.set 5 (.bin .add (.var 5) (.lc (.seq (.var 0)) (.one 7) .no (.bin .add (.var 6) (.tup (.cons (.var 7) .nil))))))
 .nil))
 (.cons (.set 4 (.var 5))
 (.cons (.set 3 (.bin .add (.var 3) (.var 4)))
 .nil)))))
 (.cons (.ret (.var 3))
 .nil)))⟩
/- 38 seed k -/
def c_law_seed : Fn := ⟨2, 2, (.cons (.ret (.bin .mod (.bin .pow (.bin .mod (.bin .add (.bin .add (.bin .mul (.var 0) (.con (.int 1103515245))) (.bin .mul (.con (.int 7919)) (.var 1))) (.con (.int 12345))) (.con (.int 2147483647))) (.con (.int 5))) (.con (.int 2147483647))))
 .nil)⟩
/- 39 world row every idle here at new deed one other cells cell -/
def c_law_settled : Fn := ⟨2, 12, (.cons (.set 2 (.b1 .listrange (.bin .mul (.idx (.var 0) (.con (.int 0))) (.idx (.var 0) (.con (.int 1))))))
 (.cons (.set 3 (.lst (.cons (.tup (.cons (.con (.str "greatest")) (.cons (.tup (.cons (.tup (.cons (.con (.int 0)) (.cons (.con (.int 0)) .nil))) .nil)) .nil))) (.cons (.tup (.cons (.con (.str "least")) (.cons (.tup (.cons (.tup (.cons (.con (.int 0)) (.cons (.con (.int 0)) .nil))) .nil)) .nil))) (.cons (.tup (.cons (.con (.str "mask")) (.cons (.b1 .tuple (.var 2)) .nil))) (.cons (.tup (.cons (.con (.str "lift")) (.cons (.tup .nil) .nil))) .nil))))))
 (.cons (.set 4 (.lc (.seq (.var 1)) (.one 7) (.so (.cmp .nin (.var 7) (.var 3))) (.var 7)))
 (.cons (.for_ (.one 5) (.rng (.bin .sub (.b1 .len (.var 4)) (.con (.int 1))))
 (.cons (.unp (.two 8 9) (.tup (.cons (.idx (.var 4) (.var 5)) (.cons (.idx (.var 4) (.bin .add (.var 5) (.con (.int 1)))) .nil))))
 (.cons (.set 6 (.con .none))
 (.cons (.iff (.bool true (.cons (.cmp .eq (.idx (.var 8) (.con (.int 0))) (.idx (.var 9) (.con (.int 0)))) (.cons (.cmp .inn (.idx (.var 8) (.con (.int 0))) (.tup (.cons (.con (.str "greatest")) (.cons (.con (.str "least")) .nil)))) .nil)))
 (.cons (.set 6 (.lst (.cons (.tup (.cons (.idx (.var 8) (.con (.int 0))) (.cons (.call 42 (.cons (.var 0) (.cons (.idx (.var 8) (.con (.int 1))) (.cons (.idx (.var 9) (.con (.int 1))) .nil)))) .nil))) .nil)))
 .nil)
 (.cons (.iff (.cmp .eq (.idx (.var 8) (.con (.int 0))) (.idx (.var 9) (.con (.int 0))))
 (.cons (.set 10 (.lc (.seq (.var 2)) (.one 11) (.so (.cmp .gt (.mth .count (.lst (.cons (.cmp .inn (.var 11) (.idx (.var 8) (.con (.int 1)))) (.cons (.cmp .inn (.var 11) (.idx (.var 9) (.con (.int 1)))) .nil))) (.cons (.con (.bool true)) .nil)) (.b1 .int (.cmp .eq (.idx (.var 8) (.con (.int 0))) (.con (.str "mask")))))) (.var 11)))
 (.cons (.set 6 (.lst (.cons (.tup (.cons (.idx (.var 8) (.con (.int 0))) (.cons (.b1 .tuple (.var 10)) .nil))) .nil)))
 .nil))
 (.cons (.iff (.bool true (.cons (.cmp .eq (.idx (.var 8) (.con (.int 0))) (.con (.str "lift"))) (.cons (.cmp .eq (.idx (.var 9) (.con (.int 0))) (.con (.str "mask"))) .nil)))
 (.cons (.set 6 (.lst (.cons (.var 9) (.cons (.tup (.cons (.con (.str "lift")) (.cons (.b1 .tuple (.lc (.seq (.idx (.var 8) (.con (.int 1)))) (.one 11) (.so (.cmp .inn (.var 11) (.idx (.var 9) (.con (.int 1))))) (.var 11))) .nil))) .nil))))
 .nil)
 .nil)
 .nil))
 .nil))
 (.cons (.iff (.isN false (.var 6))
 (.cons (.ret (.call 39 (.cons (.var 0) (.cons (.bin .add (.bin .add (.slc (.var 4) .no (.so (.var 5))) (.var 6)) (.slc (.var 4) (.so (.bin .add (.var 5) (.con (.int 2)))) .no)) .nil))))
 .nil)
 .nil)
 .nil)))))
 (.cons (.ret (.var 4))
 .nil)))))⟩
/- 40 cell -/
def c_law_small_world : Fn := ⟨1, 1, (.cons (.ret (.idx (.lst (.cons (.tup (.cons (.con (.int 2)) (.cons (.con (.int 1)) (.cons (.con (.int 1)) .nil)))) (.cons (.tup (.cons (.con (.int 3)) (.cons (.con (.int 1)) (.cons (.con (.int 1)) .nil)))) (.cons (.tup (.cons (.con (.int 2)) (.cons (.con (.int 2)) (.cons (.con (.int 1)) .nil)))) (.cons (.tup (.cons (.con (.int 1)) (.cons (.con (.int 2)) (.cons (.con (.int 2)) .nil)))) (.cons (.tup (.cons (.con (.int 2)) (.cons (.con (.int 1)) (.cons (.con (.int 2)) .nil)))) (.cons (.tup (.cons (.con (.int 2)) (.cons (.con (.int 1)) (.cons (.con (.int 3)) .nil)))) (.cons (.tup (.cons (.con (.int 1)) (.cons (.con (.int 1)) (.cons (.con (.int 3)) .nil)))) (.cons (.tup (.cons (.con (.int 1)) (.cons (.con (.int 2)) (.cons (.con (.int 1)) .nil)))) .nil))))))))) (.bin .mod (.var 0) (.con (.int 8)))))
 .nil)⟩
/- 41 world seed cell -/
def c_law_some_picture : Fn := ⟨2, 3, (.cons (.ret (.b1 .tuple (.lc (.rng (.bin .mul (.idx (.var 0) (.con (.int 0))) (.idx (.var 0) (.con (.int 1))))) (.one 2) .no (.call 32 (.cons (.call 38 (.cons (.var 1) (.cons (.var 2) .nil))) (.cons (.bin .add (.idx (.var 0) (.con (.int 2))) (.con (.int 1))) .nil))))))
 .nil)⟩
/- 42 world one other found a b c d -/
def c_law_sums : Fn := ⟨3, 8, (.cons (.set 3 (.lst .nil))
 (.cons (.for_ (.two 4 5) (.seq (.var 1))
 (.cons (.set 3 (.bin .add (.var 3) (.lc (.seq (.var 2)) (.two 6 7) .no (.tup (.cons (.bin .mod (.bin .add (.var 4) (.var 6)) (.idx (.var 0) (.con (.int 0)))) (.cons (.bin .mod (.bin .add (.var 5) (.var 7)) (.idx (.var 0) (.con (.int 1)))) .nil))))))
 .nil))
 (.cons (.ret (.b1 .tuple (.b1 .sortedset (.var 3))))
 .nil)))⟩
/- 43 deed word cell across down -/
def c_law_text : Fn := ⟨1, 5, (.cons (.set 1 (.idx (.var 0) (.con (.int 0))))
 (.cons (.iff (.cmp .eq (.var 1) (.con (.str "turn")))
 (.cons (.ret (.var 1))
 .nil)
 .nil)
 (.cons (.iff (.cmp .eq (.var 1) (.con (.str "flip")))
 (.cons (.ret (.bin .add (.bin .add (.var 1) (.con (.str " "))) (.idx (.var 0) (.con (.int 1)))))
 .nil)
 .nil)
 (.cons (.iff (.cmp .eq (.var 1) (.con (.str "shift")))
 (.cons (.ret (.bin .add (.bin .add (.bin .add (.var 1) (.con (.str " "))) (.b1 .str (.idx (.var 0) (.con (.int 1))))) (.b1 .str (.idx (.var 0) (.con (.int 2))))))
 .nil)
 .nil)
 (.cons (.iff (.cmp .inn (.var 1) (.tup (.cons (.con (.str "mask")) (.cons (.con (.str "lift")) .nil))))
 (.cons (.ret (.bin .add (.bin .add (.var 1) (.con (.str " "))) (.mth .join (.con (.str "")) (.cons (.lc (.seq (.idx (.var 0) (.con (.int 1)))) (.one 2) .no (.b1 .str (.var 2))) .nil))))
 .nil)
 .nil)
 (.cons (.ret (.bin .add (.bin .add (.var 1) (.con (.str " "))) (.mth .join (.con (.str ",")) (.cons (.lc (.seq (.idx (.var 0) (.con (.int 1)))) (.two 3 4) .no (.bin .add (.b1 .str (.var 3)) (.b1 .str (.var 4)))) .nil))))
 .nil))))))⟩
/- 44 thing one -/
def c_law_twin : Fn := ⟨1, 2, (.cons (.iff (.not (.b1 .isList (.var 0)))
 (.cons (.ret (.var 0))
 .nil)
 .nil)
 (.cons (.ret (.lc (.seq (.var 0)) (.one 1) .no (.call 44 (.cons (.var 1) .nil))))
 .nil))⟩
/- 45 world seed steps across some k step down -/
def c_law_window : Fn := ⟨2, 8, (.cons (.set 2 (.lst .nil))
 (.cons (.for_ (.one 3) (.rng (.idx (.var 0) (.con (.int 0))))
 (.cons (.set 2 (.bin .add (.var 2) (.lc (.rng (.idx (.var 0) (.con (.int 1)))) (.one 7) .no (.tup (.cons (.var 3) (.cons (.var 7) .nil))))))
 .nil))
 (.cons (.set 4 (.lc (.enum (.var 2)) (.two 5 6) (.so (.cmp .eq (.bin .mod (.bin .fdiv (.call 38 (.cons (.var 1) (.cons (.var 5) .nil))) (.con (.int 7))) (.con (.int 3))) (.con (.int 0)))) (.var 6)))
 (.cons (.ret (.ite (.cmp .ne (.var 4) (.lst .nil)) (.b1 .tuple (.var 4)) (.tup (.cons (.idx (.var 2) (.bin .mod (.bin .fdiv (.var 1) (.con (.int 5))) (.b1 .len (.var 2)))) .nil))))
 .nil))))⟩
/- 46 way world row thing caught -/
def c_law_word : Fn := ⟨4, 5, (.cons (.set 4 (.con (.str "")))
 (.cons (.try_ (.exp (.call 4 (.cons (.var 0) (.cons (.var 1) (.cons (.var 2) (.cons (.var 3) .nil)))))) [(6, 4, (.str "world")), (4, 4, (.str "row")), (3, 4, (.str "picture")), (2, 4, (.str "deed")), (5, 4, (.str "text"))])
 (.cons (.ret (.var 4))
 .nil)))⟩
/- 47 cell some -/
def c_law_world : Fn := ⟨1, 2, (.cons (.set 1 (.lst (.cons (.tup (.cons (.con (.int 1)) (.cons (.con (.int 1)) (.cons (.con (.int 3)) .nil)))) (.cons (.tup (.cons (.con (.int 2)) (.cons (.con (.int 1)) (.cons (.con (.int 3)) .nil)))) (.cons (.tup (.cons (.con (.int 3)) (.cons (.con (.int 1)) (.cons (.con (.int 3)) .nil)))) (.cons (.tup (.cons (.con (.int 1)) (.cons (.con (.int 2)) (.cons (.con (.int 3)) .nil)))) (.cons (.tup (.cons (.con (.int 2)) (.cons (.con (.int 2)) (.cons (.con (.int 3)) .nil)))) (.cons (.tup (.cons (.con (.int 2)) (.cons (.con (.int 2)) (.cons (.con (.int 1)) .nil)))) (.cons (.tup (.cons (.con (.int 3)) (.cons (.con (.int 2)) (.cons (.con (.int 1)) .nil)))) (.cons (.tup (.cons (.con (.int 3)) (.cons (.con (.int 1)) (.cons (.con (.int 2)) .nil)))) .nil))))))))))
 (.cons (.set 1 (.bin .add (.var 1) (.lst (.cons (.tup (.cons (.con (.int 2)) (.cons (.con (.int 1)) (.cons (.con (.int 1)) .nil)))) (.cons (.tup (.cons (.con (.int 3)) (.cons (.con (.int 1)) (.cons (.con (.int 1)) .nil)))) (.cons (.tup (.cons (.con (.int 1)) (.cons (.con (.int 2)) (.cons (.con (.int 1)) .nil)))) (.cons (.tup (.cons (.con (.int 1)) (.cons (.con (.int 2)) (.cons (.con (.int 2)) .nil)))) (.cons (.tup (.cons (.con (.int 2)) (.cons (.con (.int 1)) (.cons (.con (.int 2)) .nil)))) (.cons (.tup (.cons (.con (.int 1)) (.cons (.con (.int 1)) (.cons (.con (.int 2)) .nil)))) (.cons (.tup (.cons (.con (.int 2)) (.cons (.con (.int 2)) (.cons (.con (.int 2)) .nil)))) (.cons (.tup (.cons (.con (.int 1)) (.cons (.con (.int 1)) (.cons (.con (.int 1)) .nil)))) .nil)))))))))))
 (.cons (.ret (.idx (.var 1) (.call 32 (.cons (.call 38 (.cons (.var 0) (.cons (.con (.int 1)) .nil))) (.cons (.con (.int 16)) .nil)))))
 .nil)))⟩
/- 48 k -/
def c_wall : Fn := ⟨1, 1, (.cons (.whl (.con (.bool true))
 (.cons .hole
 .nil))
 .nil)⟩
/- 49 world row picture -/
def c_after : Fn := ⟨3, 3, (.cons (.exp (.call 87 (.cons (.var 0) (.cons (.var 1) .nil))))
 (.cons (.exp (.call 86 (.cons (.var 0) (.cons (.var 2) .nil))))
 (.cons (.ret (.call 52 (.cons (.var 0) (.cons (.var 2) (.cons (.var 1) .nil)))))
 .nil)))⟩
/- 50 world row picture known many -/
def c_again : Fn := ⟨3, 5, (.cons (.exp (.call 87 (.cons (.var 0) (.cons (.var 1) .nil))))
 (.cons (.exp (.call 86 (.cons (.var 0) (.cons (.var 2) .nil))))
 (.cons (.setd 3 .nil .nil)
 (.cons (.set 4 (.con (.int 0)))
 (.cons (.whl (.cmp .nin (.var 2) (.pk 3))
 (.cons (.put 3 (.var 2) (.var 4))
 (.cons (.set 2 (.call 52 (.cons (.var 0) (.cons (.var 2) (.cons (.var 1) .nil)))))
 (.cons (.aug 4 (.con (.int 1)))
 .nil))))
 (.cons (.ret (.tup (.cons (.idx (.pk 3) (.var 2)) (.cons (.bin .sub (.var 4) (.idx (.pk 3) (.var 2))) .nil))))
 .nil))))))⟩
/- 51 world one other -/
def c_alike : Fn := ⟨3, 3, (.cons (.ret (.isN true (.call 93 (.cons (.var 0) (.cons (.var 1) (.cons (.var 2) .nil))))))
 .nil)⟩
/- 52 world picture row deed -/
def c_all_done : Fn := ⟨3, 4, (.cons (.for_ (.one 3) (.seq (.var 2))
 (.cons (.set 1 (.call 59 (.cons (.var 0) (.cons (.var 1) (.cons (.var 3) .nil)))))
 .nil))
 (.cons (.ret (.var 1))
 .nil))⟩
/- 53 world found cell longer row worth -/
def c_all_pictures : Fn := ⟨1, 6, (.cons (.set 1 (.lst (.cons (.tup .nil) .nil)))
 (.cons (.for_ (.one 2) (.rng (.bin .mul (.idx (.var 0) (.con (.int 0))) (.idx (.var 0) (.con (.int 1)))))
 (.cons (.setl 3 .nil)
 (.cons (.for_ (.one 4) (.seq (.var 1))
 (.cons (.ext 3 (.lc (.rng (.bin .add (.idx (.var 0) (.con (.int 2))) (.con (.int 1)))) (.one 5) .no (.bin .add (.var 4) (.tup (.cons (.var 5) .nil)))))
 .nil))
 (.cons (.frz 3)
 (.cons (.set 1 (.var 3))
 .nil)))))
 (.cons (.ret (.var 1))
 .nil)))⟩
/- 54 world thing one -/
def c_are_cells : Fn := ⟨2, 3, (.cons (.iff (.bool false (.cons (.not (.b1 .isTuple (.var 1))) (.cons (.lc (.seq (.var 1)) (.one 2) (.so (.not (.call 78 (.cons (.var 2) (.cons (.con (.int 0)) (.cons (.bin .sub (.bin .mul (.idx (.var 0) (.con (.int 0))) (.idx (.var 0) (.con (.int 1)))) (.con (.int 1))) .nil)))))) (.var 2)) .nil)))
 (.cons (.ret (.con (.bool false)))
 .nil)
 .nil)
 (.cons (.ret (.call 101 (.cons (.var 1) .nil)))
 .nil))⟩
/- 55 world row picture one -/
def c_before : Fn := ⟨3, 4, (.cons (.exp (.call 87 (.cons (.var 0) (.cons (.var 1) .nil))))
 (.cons (.exp (.call 86 (.cons (.var 0) (.cons (.var 2) .nil))))
 (.cons (.ret (.lc (.seq (.call 53 (.cons (.var 0) .nil))) (.one 3) (.so (.cmp .eq (.call 52 (.cons (.var 0) (.cons (.var 3) (.cons (.var 1) .nil)))) (.var 2))) (.var 3)))
 .nil)))⟩
/- 56 world choice row made picture -/
def c_by_choice : Fn := ⟨3, 5, (.cons (.exp (.call 83 (.cons (.var 0) (.cons (.var 1) .nil))))
 (.cons (.exp (.call 87 (.cons (.var 0) (.cons (.var 2) .nil))))
 (.cons (.set 3 (.b1 .tuple (.lc (.seq (.call 53 (.cons (.var 0) .nil))) (.one 4) .no (.call 52 (.cons (.var 0) (.cons (.var 4) (.cons (.var 2) .nil)))))))
 (.cons (.ret (.mth .get (.call 114 (.cons (.var 0) (.cons (.var 1) (.cons (.con (.int 4)) .nil)))) (.cons (.var 3) .nil)))
 .nil))))⟩
/- 57 world across down -/
def c_cell_at : Fn := ⟨3, 3, (.cons (.ret (.bin .add (.bin .mul (.bin .mod (.var 2) (.idx (.var 0) (.con (.int 1)))) (.idx (.var 0) (.con (.int 0)))) (.bin .mod (.var 1) (.idx (.var 0) (.con (.int 0))))))
 .nil)⟩
/- 58 line parts part -/
def c_deed_read : Fn := ⟨1, 3, (.cons (.iff (.cmp .eq (.var 0) (.con (.str "turn")))
 (.cons (.ret (.tup (.cons (.con (.str "turn")) .nil)))
 .nil)
 .nil)
 (.cons (.set 1 (.mth .split (.var 0) (.cons (.con (.str " ")) .nil)))
 (.cons (.iff (.cmp .ne (.b1 .len (.var 1)) (.con (.int 2)))
 (.cons (.rai 5)
 .nil)
 .nil)
 (.cons (.iff (.cmp .eq (.idx (.var 1) (.con (.int 0))) (.con (.str "shift")))
 (.cons (.ret (.bin .add (.tup (.cons (.con (.str "shift")) .nil)) (.call 61 (.cons (.idx (.var 1) (.con (.int 1))) .nil))))
 .nil)
 .nil)
 (.cons (.iff (.cmp .eq (.idx (.var 1) (.con (.int 0))) (.con (.str "flip")))
 (.cons (.ret (.tup (.cons (.con (.str "flip")) (.cons (.idx (.var 1) (.con (.int 1))) .nil))))
 .nil)
 .nil)
 (.cons (.iff (.cmp .inn (.idx (.var 1) (.con (.int 0))) (.tup (.cons (.con (.str "mask")) (.cons (.con (.str "lift")) .nil))))
 (.cons (.ret (.tup (.cons (.idx (.var 1) (.con (.int 0))) (.cons (.call 61 (.cons (.idx (.var 1) (.con (.int 1))) .nil)) .nil))))
 .nil)
 .nil)
 (.cons (.ret (.tup (.cons (.idx (.var 1) (.con (.int 0))) (.cons (.b1 .tuple (.lc (.seq (.mth .split (.idx (.var 1) (.con (.int 1))) (.cons (.con (.str ",")) .nil))) (.one 2) .no (.call 61 (.cons (.var 2) .nil)))) .nil))))
 .nil)))))))⟩
/- 59 world picture deed cells word led cell one -/
def c_done : Fn := ⟨3, 8, (.cons (.set 3 (.b1 .listrange (.b1 .len (.var 1))))
 (.cons (.set 4 (.idx (.var 2) (.con (.int 0))))
 (.cons (.iff (.cmp .eq (.var 4) (.con (.str "turn")))
 (.cons (.ret (.b1 .tuple (.lc (.seq (.var 1)) (.one 7) .no (.bin .sub (.idx (.var 0) (.con (.int 2))) (.var 7)))))
 .nil)
 .nil)
 (.cons (.iff (.cmp .inn (.var 4) (.tup (.cons (.con (.str "shift")) (.cons (.con (.str "flip")) .nil))))
 (.cons (.set 5 (.b1 .dict (.lc (.seq (.var 3)) (.one 6) .no (.tup (.cons (.call 91 (.cons (.var 0) (.cons (.var 6) (.cons (.var 2) .nil)))) (.cons (.idx (.var 1) (.var 6)) .nil))))))
 (.cons (.ret (.b1 .tuple (.lc (.seq (.var 3)) (.one 6) .no (.idx (.var 5) (.var 6)))))
 .nil))
 .nil)
 (.cons (.iff (.cmp .eq (.var 4) (.con (.str "greatest")))
 (.cons (.ret (.b1 .tuple (.lc (.seq (.var 3)) (.one 6) .no (.b1 .max (.call 105 (.cons (.var 0) (.cons (.var 1) (.cons (.idx (.var 2) (.con (.int 1))) (.cons (.var 6) .nil)))))))))
 .nil)
 .nil)
 (.cons (.iff (.cmp .eq (.var 4) (.con (.str "least")))
 (.cons (.ret (.b1 .tuple (.lc (.seq (.var 3)) (.one 6) .no (.b1 .min (.call 105 (.cons (.var 0) (.cons (.var 1) (.cons (.idx (.var 2) (.con (.int 1))) (.cons (.var 6) .nil)))))))))
 .nil)
 .nil)
 (.cons (.iff (.cmp .eq (.var 4) (.con (.str "mask")))
 (.cons (.ret (.b1 .tuple (.lc (.seq (.var 3)) (.one 6) .no (.ite (.cmp .inn (.var 6) (.idx (.var 2) (.con (.int 1)))) (.idx (.var 1) (.var 6)) (.con (.int 0))))))
 .nil)
 .nil)
 (.cons (.ret (.b1 .tuple (.lc (.seq (.var 3)) (.one 6) .no (.ite (.cmp .inn (.var 6) (.idx (.var 2) (.con (.int 1)))) (.idx (.var 0) (.con (.int 2))) (.idx (.var 1) (.var 6))))))
 .nil))))))))⟩
/- 60 world choice picture known most row one -/
def c_farthest : Fn := ⟨3, 7, (.cons (.exp (.call 83 (.cons (.var 0) (.cons (.var 1) .nil))))
 (.cons (.exp (.call 86 (.cons (.var 0) (.cons (.var 2) .nil))))
 (.cons (.set 3 (.call 103 (.cons (.var 0) (.cons (.var 1) (.cons (.var 2) .nil)))))
 (.cons (.set 4 (.b1 .max (.lc (.vals (.var 3)) (.one 5) .no (.b1 .len (.var 5)))))
 (.cons (.ret (.tup (.cons (.var 4) (.cons (.b1 .min (.lc (.seq (.var 3)) (.one 6) (.so (.cmp .eq (.b1 .len (.idx (.var 3) (.var 6))) (.var 4))) (.var 6))) .nil))))
 .nil)))))⟩
/- 61 word sign -/
def c_figures_of : Fn := ⟨1, 2, (.cons (.iff (.lc (.seq (.var 0)) (.one 1) (.so (.cmp .nin (.var 1) (.glo 1 (.str "012345")))) (.var 1))
 (.cons (.rai 5)
 .nil)
 .nil)
 (.cons (.ret (.b1 .tuple (.lc (.seq (.var 0)) (.one 1) .no (.b1 .int (.var 1)))))
 .nil))⟩
/- 62 world choice pairs -/
def c_first_fitting : Fn := ⟨3, 3, (.cons (.ret (.idx (.bin .add (.call 65 (.cons (.var 0) (.cons (.var 1) (.cons (.var 2) (.cons (.con (.int 3)) .nil))))) (.lst (.cons (.con .none) .nil))) (.con (.int 0))))
 .nil)⟩
/- 63 world one other picture -/
def c_first_parted : Fn := ⟨3, 4, (.cons (.for_ (.one 3) (.seq (.call 53 (.cons (.var 0) .nil)))
 (.cons (.iff (.cmp .ne (.call 52 (.cons (.var 0) (.cons (.var 3) (.cons (.var 1) .nil)))) (.call 52 (.cons (.var 0) (.cons (.var 3) (.cons (.var 2) .nil)))))
 (.cons (.ret (.var 3))
 .nil)
 .nil)
 .nil))
 (.cons (.ret (.con .none))
 .nil))⟩
/- 64 world row pairs one other -/
def c_fits : Fn := ⟨3, 5, (.cons (.ret (.not (.lc (.seq (.var 2)) (.two 3 4) (.so (.cmp .ne (.call 52 (.cons (.var 0) (.cons (.var 3) (.cons (.var 1) .nil)))) (.var 4))) (.var 3))))
 .nil)⟩
/- 65 world choice pairs long row -/
def c_fitting : Fn := ⟨4, 5, (.cons (.exp (.call 83 (.cons (.var 0) (.cons (.var 1) .nil))))
 (.cons (.exp (.call 85 (.cons (.var 0) (.cons (.var 2) .nil))))
 (.cons (.iff (.not (.call 78 (.cons (.var 3) (.cons (.con (.int 0)) (.cons (.con (.int 3)) .nil)))))
 (.cons (.rai 1)
 .nil)
 .nil)
 (.cons (.ret (.lc (.seq (.call 104 (.cons (.var 1) (.cons (.var 3) .nil)))) (.one 4) (.so (.call 64 (.cons (.var 0) (.cons (.var 4) (.cons (.var 2) .nil))))) (.var 4)))
 .nil))))⟩
/- 66 world row -/
def c_form : Fn := ⟨2, 2, (.cons (.exp (.call 87 (.cons (.var 0) (.cons (.var 1) .nil))))
 (.cons (.ret (.call 67 (.cons (.var 0) (.cons (.var 1) .nil))))
 .nil))⟩
/- 67 world row free bound deed one -/
def c_form_of : Fn := ⟨2, 6, (.cons (.setl 2 .nil)
 (.cons (.setl 3 .nil)
 (.cons (.for_ (.one 4) (.seq (.var 1))
 (.cons (.iff (.cmp .inn (.idx (.var 4) (.con (.int 0))) (.glo 2 (.tuple [(.str "shift"), (.str "flip"), (.str "turn")])))
 (.cons (.app 2 (.var 4))
 .nil)
 (.cons (.for_ (.one 5) (.seq (.rev (.pk 2)))
 (.cons (.set 4 (.call 95 (.cons (.var 0) (.cons (.var 5) (.cons (.var 4) .nil)))))
 .nil))
 (.cons (.app 3 (.var 4))
 .nil)))
 .nil))
 (.cons (.frz 3)
 (.cons (.frz 2)
 (.cons (.ret (.b1 .tuple (.bin .add (.call 106 (.cons (.var 0) (.cons (.var 3) .nil))) (.call 68 (.cons (.var 0) (.cons (.var 2) .nil))))))
 .nil))))))⟩
/- 68 world row flips across down turns deed found side -/
def c_free_form : Fn := ⟨2, 9, (.cons (.setk 2 [(.str "across"), (.str "down")] (.cons (.con (.int 0)) (.cons (.con (.int 0)) .nil)))
 (.cons (.set 3 (.con (.int 0)))
 (.cons (.set 4 (.con (.int 0)))
 (.cons (.set 5 (.con (.int 0)))
 (.cons (.for_ (.one 6) (.seq (.var 1))
 (.cons (.iff (.cmp .eq (.idx (.var 6) (.con (.int 0))) (.con (.str "turn")))
 (.cons (.set 5 (.bin .sub (.con (.int 1)) (.var 5)))
 .nil)
 (.cons (.iff (.cmp .eq (.idx (.var 6) (.con (.int 0))) (.con (.str "shift")))
 (.cons (.aug 3 (.idx (.var 6) (.con (.int 1))))
 (.cons (.aug 4 (.idx (.var 6) (.con (.int 2))))
 .nil))
 (.cons (.iff (.cmp .eq (.idx (.var 6) (.con (.int 1))) (.con (.str "across")))
 (.cons (.put 2 (.con (.str "across")) (.bin .sub (.con (.int 1)) (.idx (.pk 2) (.con (.str "across")))))
 (.cons (.set 3 (.neg (.var 3)))
 .nil))
 (.cons (.put 2 (.con (.str "down")) (.bin .sub (.con (.int 1)) (.idx (.pk 2) (.con (.str "down")))))
 (.cons (.set 4 (.neg (.var 4)))
 .nil)))
 .nil))
 .nil))
 .nil))
 (.cons (.setc 7 (.seq (.tup (.cons (.con (.str "across")) (.cons (.con (.str "down")) .nil)))) (.one 8) (.so (.cmp .eq (.idx (.pk 2) (.var 8)) (.con (.int 1)))) (.tup (.cons (.con (.str "flip")) (.cons (.var 8) .nil))))
 (.cons (.iff (.cmp .ne (.call 57 (.cons (.var 0) (.cons (.var 3) (.cons (.var 4) .nil)))) (.con (.int 0)))
 (.cons (.app 7 (.tup (.cons (.con (.str "shift")) (.cons (.bin .mod (.var 3) (.idx (.var 0) (.con (.int 0)))) (.cons (.bin .mod (.var 4) (.idx (.var 0) (.con (.int 1)))) .nil)))))
 .nil)
 .nil)
 (.cons (.ret (.bin .add (.pk 7) (.bin .mul (.lst (.cons (.tup (.cons (.con (.str "turn")) .nil)) .nil)) (.var 5))))
 .nil))))))))⟩
/- 69 world some found row key picture -/
def c_free_forms : Fn := ⟨1, 6, (.cons (.exp (.call 82 (.cons (.var 0) .nil)))
 (.cons (.set 1 (.call 53 (.cons (.var 0) .nil)))
 (.cons (.setd 2 .nil .nil)
 (.cons (.for_ (.one 3) (.seq (.call 70 (.cons (.var 0) .nil)))
 (.cons (.set 4 (.b1 .tuple (.lc (.seq (.var 1)) (.one 5) .no (.call 52 (.cons (.var 0) (.cons (.var 5) (.cons (.var 3) .nil)))))))
 (.cons (.sdf 2 (.var 4) (.var 3))
 .nil)))
 (.cons (.frz 2)
 (.cons (.ret (.b1 .sortedvals (.var 2)))
 .nil))))))⟩
/- 70 world found across down turn cell step shift -/
def c_free_rows : Fn := ⟨1, 8, (.cons (.setl 1 .nil)
 (.cons (.for_ (.one 2) (.seq (.tup (.cons (.tup .nil) (.cons (.tup (.cons (.tup (.cons (.con (.str "flip")) (.cons (.con (.str "across")) .nil))) .nil)) .nil))))
 (.cons (.for_ (.one 3) (.seq (.tup (.cons (.tup .nil) (.cons (.tup (.cons (.tup (.cons (.con (.str "flip")) (.cons (.con (.str "down")) .nil))) .nil)) .nil))))
 (.cons (.for_ (.one 4) (.seq (.tup (.cons (.tup .nil) (.cons (.tup (.cons (.tup (.cons (.con (.str "turn")) .nil)) .nil)) .nil))))
 (.cons (.for_ (.one 5) (.rng (.bin .mul (.idx (.var 0) (.con (.int 0))) (.idx (.var 0) (.con (.int 1)))))
 (.cons (.set 6 (.tup (.cons (.bin .mod (.var 5) (.idx (.var 0) (.con (.int 0)))) (.cons (.bin .fdiv (.var 5) (.idx (.var 0) (.con (.int 0)))) .nil))))
 (.cons (.set 7 (.ite (.cmp .eq (.var 6) (.tup (.cons (.con (.int 0)) (.cons (.con (.int 0)) .nil)))) (.tup .nil) (.tup (.cons (.bin .add (.tup (.cons (.con (.str "shift")) .nil)) (.var 6)) .nil))))
 (.cons (.app 1 (.bin .add (.bin .add (.bin .add (.var 2) (.var 3)) (.var 7)) (.var 4)))
 .nil))))
 .nil))
 .nil))
 .nil))
 (.cons (.ret (.b1 .sorted (.pk 1)))
 .nil)))⟩
/- 71 world thing -/
def c_is_deed : Fn := ⟨2, 2, (.cons (.iff (.bool false (.cons (.not (.b1 .isTuple (.var 1))) (.cons (.not (.var 1)) (.cons (.not (.b1 .isStr (.idx (.var 1) (.con (.int 0))))) .nil))))
 (.cons (.ret (.con (.bool false)))
 .nil)
 .nil)
 (.cons (.iff (.cmp .eq (.idx (.var 1) (.con (.int 0))) (.con (.str "turn")))
 (.cons (.ret (.cmp .eq (.b1 .len (.var 1)) (.con (.int 1))))
 .nil)
 .nil)
 (.cons (.iff (.cmp .eq (.idx (.var 1) (.con (.int 0))) (.con (.str "shift")))
 (.cons (.ret (.bool true (.cons (.cmp .eq (.b1 .len (.var 1)) (.con (.int 3))) (.cons (.call 75 (.cons (.var 0) (.cons (.slc (.var 1) (.so (.con (.int 1))) .no) .nil))) .nil))))
 .nil)
 .nil)
 (.cons (.iff (.cmp .ne (.b1 .len (.var 1)) (.con (.int 2)))
 (.cons (.ret (.con (.bool false)))
 .nil)
 .nil)
 (.cons (.iff (.cmp .eq (.idx (.var 1) (.con (.int 0))) (.con (.str "flip")))
 (.cons (.ret (.bool true (.cons (.b1 .isStr (.idx (.var 1) (.con (.int 1)))) (.cons (.cmp .inn (.idx (.var 1) (.con (.int 1))) (.glo 7 (.tuple [(.str "across"), (.str "down")]))) .nil))))
 .nil)
 .nil)
 (.cons (.iff (.cmp .inn (.idx (.var 1) (.con (.int 0))) (.tup (.cons (.con (.str "greatest")) (.cons (.con (.str "least")) .nil))))
 (.cons (.ret (.call 77 (.cons (.var 0) (.cons (.idx (.var 1) (.con (.int 1))) .nil))))
 .nil)
 .nil)
 (.cons (.ret (.bool true (.cons (.cmp .inn (.idx (.var 1) (.con (.int 0))) (.tup (.cons (.con (.str "mask")) (.cons (.con (.str "lift")) .nil)))) (.cons (.call 54 (.cons (.var 0) (.cons (.idx (.var 1) (.con (.int 1))) .nil))) .nil))))
 .nil)))))))⟩
/- 72 world deed -/
def c_is_idle : Fn := ⟨2, 2, (.cons (.iff (.cmp .inn (.idx (.var 1) (.con (.int 0))) (.tup (.cons (.con (.str "greatest")) (.cons (.con (.str "least")) .nil))))
 (.cons (.ret (.cmp .eq (.idx (.var 1) (.con (.int 1))) (.tup (.cons (.tup (.cons (.con (.int 0)) (.cons (.con (.int 0)) .nil))) .nil))))
 .nil)
 .nil)
 (.cons (.iff (.cmp .eq (.idx (.var 1) (.con (.int 0))) (.con (.str "mask")))
 (.cons (.ret (.cmp .eq (.b1 .len (.idx (.var 1) (.con (.int 1)))) (.bin .mul (.idx (.var 0) (.con (.int 0))) (.idx (.var 0) (.con (.int 1))))))
 .nil)
 .nil)
 (.cons (.ret (.cmp .eq (.idx (.var 1) (.con (.int 1))) (.tup .nil)))
 .nil)))⟩
/- 73 world thing one -/
def c_is_picture : Fn := ⟨2, 3, (.cons (.iff (.bool false (.cons (.not (.b1 .isTuple (.var 1))) (.cons (.cmp .ne (.b1 .len (.var 1)) (.bin .mul (.idx (.var 0) (.con (.int 0))) (.idx (.var 0) (.con (.int 1))))) .nil)))
 (.cons (.ret (.con (.bool false)))
 .nil)
 .nil)
 (.cons (.ret (.not (.lc (.seq (.var 1)) (.one 2) (.so (.not (.call 78 (.cons (.var 2) (.cons (.con (.int 0)) (.cons (.idx (.var 0) (.con (.int 2))) .nil)))))) (.var 2))))
 .nil))⟩
/- 74 world row picture once -/
def c_is_settling : Fn := ⟨2, 4, (.cons (.exp (.call 87 (.cons (.var 0) (.cons (.var 1) .nil))))
 (.cons (.for_ (.one 2) (.seq (.call 53 (.cons (.var 0) .nil)))
 (.cons (.set 3 (.call 52 (.cons (.var 0) (.cons (.var 2) (.cons (.var 1) .nil)))))
 (.cons (.iff (.cmp .ne (.call 52 (.cons (.var 0) (.cons (.var 3) (.cons (.var 1) .nil)))) (.var 3))
 (.cons (.ret (.con (.bool false)))
 .nil)
 .nil)
 .nil)))
 (.cons (.ret (.con (.bool true)))
 .nil)))⟩
/- 75 world thing -/
def c_is_step : Fn := ⟨2, 2, (.cons (.iff (.bool false (.cons (.not (.b1 .isTuple (.var 1))) (.cons (.cmp .ne (.b1 .len (.var 1)) (.con (.int 2))) .nil)))
 (.cons (.ret (.con (.bool false)))
 .nil)
 .nil)
 (.cons (.ret (.bool true (.cons (.call 78 (.cons (.idx (.var 1) (.con (.int 0))) (.cons (.con (.int 0)) (.cons (.bin .sub (.idx (.var 0) (.con (.int 0))) (.con (.int 1))) .nil)))) (.cons (.call 78 (.cons (.idx (.var 1) (.con (.int 1))) (.cons (.con (.int 0)) (.cons (.bin .sub (.idx (.var 0) (.con (.int 1))) (.con (.int 1))) .nil)))) .nil))))
 .nil))⟩
/- 76 world row -/
def c_is_undone : Fn := ⟨2, 2, (.cons (.exp (.call 87 (.cons (.var 0) (.cons (.var 1) .nil))))
 (.cons (.ret (.cmp .eq (.b1 .len (.call 88 (.cons (.var 0) (.cons (.var 1) .nil)))) (.b1 .len (.call 53 (.cons (.var 0) .nil)))))
 .nil))⟩
/- 77 world thing one -/
def c_is_window : Fn := ⟨2, 3, (.cons (.iff (.bool false (.cons (.not (.b1 .isTuple (.var 1))) (.cons (.not (.var 1)) (.cons (.lc (.seq (.var 1)) (.one 2) (.so (.not (.call 75 (.cons (.var 0) (.cons (.var 2) .nil))))) (.var 2)) .nil))))
 (.cons (.ret (.con (.bool false)))
 .nil)
 .nil)
 (.cons (.ret (.call 101 (.cons (.var 1) .nil)))
 .nil))⟩
/- 78 thing low high -/
def c_is_within : Fn := ⟨3, 3, (.cons (.ret (.bool true (.cons (.b1 .isInt (.var 0)) (.cons (.not (.b1 .isBool (.var 0))) (.cons (.chn .le .le (.var 1) (.var 0) (.var 2)) .nil)))))
 .nil)⟩
/- 79 thing many cell -/
def c_is_world : Fn := ⟨1, 3, (.cons (.iff (.bool false (.cons (.not (.b1 .isTuple (.var 0))) (.cons (.cmp .ne (.b1 .len (.var 0)) (.con (.int 3))) (.cons (.not (.call 78 (.cons (.idx (.var 0) (.con (.int 0))) (.cons (.con (.int 1)) (.cons (.con (.int 3)) .nil))))) .nil))))
 (.cons (.ret (.con (.bool false)))
 .nil)
 .nil)
 (.cons (.iff (.bool false (.cons (.not (.call 78 (.cons (.idx (.var 0) (.con (.int 1))) (.cons (.con (.int 1)) (.cons (.con (.int 2)) .nil))))) (.cons (.not (.call 78 (.cons (.idx (.var 0) (.con (.int 2))) (.cons (.con (.int 1)) (.cons (.con (.int 3)) .nil))))) .nil)))
 (.cons (.ret (.con (.bool false)))
 .nil)
 .nil)
 (.cons (.set 1 (.con (.int 1)))
 (.cons (.for_ (.one 2) (.rng (.bin .mul (.idx (.var 0) (.con (.int 0))) (.idx (.var 0) (.con (.int 1)))))
 (.cons (.set 1 (.bin .mul (.var 1) (.bin .add (.idx (.var 0) (.con (.int 2))) (.con (.int 1)))))
 .nil))
 (.cons (.ret (.cmp .le (.var 1) (.glo 6 (.int 256))))
 .nil)))))⟩
/- 80 world free cells cell -/
def c_led_cells : Fn := ⟨3, 4, (.cons (.ret (.b1 .tuple (.lc (.rng (.bin .mul (.idx (.var 0) (.con (.int 0))) (.idx (.var 0) (.con (.int 1))))) (.one 3) (.so (.cmp .inn (.call 91 (.cons (.var 0) (.cons (.var 3) (.cons (.var 1) .nil)))) (.var 2))) (.var 3))))
 .nil)⟩
/- 81 world free step -/
def c_led_step : Fn := ⟨3, 3, (.cons (.iff (.cmp .eq (.idx (.var 1) (.con (.int 1))) (.con (.str "across")))
 (.cons (.ret (.tup (.cons (.bin .mod (.neg (.idx (.var 2) (.con (.int 0)))) (.idx (.var 0) (.con (.int 0)))) (.cons (.idx (.var 2) (.con (.int 1))) .nil))))
 .nil)
 .nil)
 (.cons (.ret (.tup (.cons (.idx (.var 2) (.con (.int 0))) (.cons (.bin .mod (.neg (.idx (.var 2) (.con (.int 1)))) (.idx (.var 0) (.con (.int 1)))) .nil))))
 .nil))⟩
/- 82 world -/
def c_look : Fn := ⟨1, 1, (.cons (.iff (.not (.call 79 (.cons (.var 0) .nil)))
 (.cons (.rai 6)
 .nil)
 .nil)
 .nil)⟩
/- 83 world choice deed -/
def c_look_choice : Fn := ⟨2, 3, (.cons (.exp (.call 82 (.cons (.var 0) .nil)))
 (.cons (.iff (.bool false (.cons (.not (.b1 .isList (.var 1))) (.cons (.not (.chn .le .le (.con (.int 1)) (.b1 .len (.var 1)) (.glo 3 (.int 5)))) .nil)))
 (.cons (.rai 0)
 .nil)
 .nil)
 (.cons (.iff (.bool false (.cons (.lc (.seq (.var 1)) (.one 2) (.so (.not (.call 71 (.cons (.var 0) (.cons (.var 2) .nil))))) (.var 2)) (.cons (.cmp .ne (.b1 .lenset (.var 1)) (.b1 .len (.var 1))) .nil)))
 (.cons (.rai 0)
 .nil)
 .nil)
 .nil)))⟩
/- 84 world deed -/
def c_look_deed : Fn := ⟨2, 2, (.cons (.iff (.not (.call 71 (.cons (.var 0) (.cons (.var 1) .nil))))
 (.cons (.rai 2)
 .nil)
 .nil)
 .nil)⟩
/- 85 world pairs pair one -/
def c_look_pairs : Fn := ⟨2, 4, (.cons (.iff (.bool false (.cons (.not (.b1 .isList (.var 1))) (.cons (.cmp .gt (.b1 .len (.var 1)) (.glo 5 (.int 6))) .nil)))
 (.cons (.rai 0)
 .nil)
 .nil)
 (.cons (.for_ (.one 2) (.seq (.var 1))
 (.cons (.iff (.bool false (.cons (.not (.b1 .isTuple (.var 2))) (.cons (.cmp .ne (.b1 .len (.var 2)) (.con (.int 2))) (.cons (.lc (.seq (.var 2)) (.one 3) (.so (.not (.call 73 (.cons (.var 0) (.cons (.var 3) .nil))))) (.var 3)) .nil))))
 (.cons (.rai 0)
 .nil)
 .nil)
 .nil))
 .nil))⟩
/- 86 world picture -/
def c_look_picture : Fn := ⟨2, 2, (.cons (.iff (.not (.call 73 (.cons (.var 0) (.cons (.var 1) .nil))))
 (.cons (.rai 3)
 .nil)
 .nil)
 .nil)⟩
/- 87 world row one -/
def c_look_row : Fn := ⟨2, 3, (.cons (.exp (.call 82 (.cons (.var 0) .nil)))
 (.cons (.iff (.bool false (.cons (.not (.b1 .isTuple (.var 1))) (.cons (.cmp .gt (.b1 .len (.var 1)) (.glo 4 (.int 6))) (.cons (.lc (.seq (.var 1)) (.one 2) (.so (.not (.call 71 (.cons (.var 0) (.cons (.var 2) .nil))))) (.var 2)) .nil))))
 (.cons (.rai 4)
 .nil)
 .nil)
 .nil))⟩
/- 88 world row found picture -/
def c_made : Fn := ⟨2, 4, (.cons (.exp (.call 87 (.cons (.var 0) (.cons (.var 1) .nil))))
 (.cons (.setd 2 .nil .nil)
 (.cons (.for_ (.one 3) (.seq (.call 53 (.cons (.var 0) .nil)))
 (.cons (.put 2 (.call 52 (.cons (.var 0) (.cons (.var 3) (.cons (.var 1) .nil)))) (.con (.bool true)))
 .nil))
 (.cons (.ret (.b1 .sorted (.pk 2)))
 .nil))))⟩
/- 89 world one other -/
def c_may_change : Fn := ⟨3, 3, (.cons (.exp (.call 82 (.cons (.var 0) .nil)))
 (.cons (.exp (.call 84 (.cons (.var 0) (.cons (.var 1) .nil))))
 (.cons (.exp (.call 84 (.cons (.var 0) (.cons (.var 2) .nil))))
 (.cons (.ret (.isN true (.call 63 (.cons (.var 0) (.cons (.tup (.cons (.var 1) (.cons (.var 2) .nil))) (.cons (.tup (.cons (.var 2) (.cons (.var 1) .nil))) .nil))))))
 .nil))))⟩
/- 90 world one other cell -/
def c_merged : Fn := ⟨3, 4, (.cons (.iff (.bool true (.cons (.cmp .eq (.idx (.var 1) (.con (.int 0))) (.idx (.var 2) (.con (.int 0)))) (.cons (.cmp .inn (.idx (.var 1) (.con (.int 0))) (.tup (.cons (.con (.str "greatest")) (.cons (.con (.str "least")) .nil)))) .nil)))
 (.cons (.ret (.lst (.cons (.tup (.cons (.idx (.var 1) (.con (.int 0))) (.cons (.call 110 (.cons (.var 0) (.cons (.idx (.var 1) (.con (.int 1))) (.cons (.idx (.var 2) (.con (.int 1))) .nil)))) .nil))) .nil)))
 .nil)
 .nil)
 (.cons (.iff (.bool true (.cons (.cmp .eq (.idx (.var 1) (.con (.int 0))) (.idx (.var 2) (.con (.int 0)))) (.cons (.cmp .eq (.idx (.var 1) (.con (.int 0))) (.con (.str "mask"))) .nil)))
 (.cons (.ret (.lst (.cons (.tup (.cons (.con (.str "mask")) (.cons (.b1 .tuple (.lc (.seq (.idx (.var 1) (.con (.int 1)))) (.one 3) (.so (.cmp .inn (.var 3) (.idx (.var 2) (.con (.int 1))))) (.var 3))) .nil))) .nil)))
 .nil)
 .nil)
 (.cons (.iff (.cmp .eq (.idx (.var 1) (.con (.int 0))) (.idx (.var 2) (.con (.int 0))))
 (.cons (.ret (.lst (.cons (.tup (.cons (.con (.str "lift")) (.cons (.b1 .tuple (.b1 .sortedset (.bin .add (.idx (.var 1) (.con (.int 1))) (.idx (.var 2) (.con (.int 1)))))) .nil))) .nil)))
 .nil)
 .nil)
 (.cons (.iff (.bool true (.cons (.cmp .eq (.idx (.var 1) (.con (.int 0))) (.con (.str "lift"))) (.cons (.cmp .eq (.idx (.var 2) (.con (.int 0))) (.con (.str "mask"))) .nil)))
 (.cons (.ret (.lst (.cons (.var 2) (.cons (.tup (.cons (.con (.str "lift")) (.cons (.b1 .tuple (.lc (.seq (.idx (.var 1) (.con (.int 1)))) (.one 3) (.so (.cmp .inn (.var 3) (.idx (.var 2) (.con (.int 1))))) (.var 3))) .nil))) .nil))))
 .nil)
 .nil)
 (.cons (.ret (.lst (.cons (.var 1) (.cons (.var 2) .nil))))
 .nil)))))⟩
/- 91 world cell deed across down -/
def c_moved : Fn := ⟨3, 5, (.cons (.par 3 4 (.bin .mod (.var 1) (.idx (.var 0) (.con (.int 0)))) (.bin .fdiv (.var 1) (.idx (.var 0) (.con (.int 0)))))
 (.cons (.iff (.cmp .eq (.idx (.var 2) (.con (.int 0))) (.con (.str "shift")))
 (.cons (.ret (.call 57 (.cons (.var 0) (.cons (.bin .add (.var 3) (.idx (.var 2) (.con (.int 1)))) (.cons (.bin .add (.var 4) (.idx (.var 2) (.con (.int 2)))) .nil)))))
 .nil)
 .nil)
 (.cons (.iff (.cmp .eq (.idx (.var 2) (.con (.int 1))) (.con (.str "across")))
 (.cons (.ret (.call 57 (.cons (.var 0) (.cons (.bin .sub (.bin .sub (.idx (.var 0) (.con (.int 0))) (.con (.int 1))) (.var 3)) (.cons (.var 4) .nil)))))
 .nil)
 .nil)
 (.cons (.ret (.call 57 (.cons (.var 0) (.cons (.var 3) (.cons (.bin .sub (.bin .sub (.idx (.var 0) (.con (.int 1))) (.con (.int 1))) (.var 4)) .nil)))))
 .nil))))⟩
/- 92 world row at -/
def c_needless : Fn := ⟨2, 3, (.cons (.exp (.call 87 (.cons (.var 0) (.cons (.var 1) .nil))))
 (.cons (.ret (.lc (.rng (.b1 .len (.var 1))) (.one 2) (.so (.isN true (.call 63 (.cons (.var 0) (.cons (.var 1) (.cons (.bin .add (.slc (.var 1) .no (.so (.var 2))) (.slc (.var 1) (.so (.bin .add (.var 2) (.con (.int 1)))) .no)) .nil)))))) (.var 2)))
 .nil))⟩
/- 93 world one other -/
def c_parts : Fn := ⟨3, 3, (.cons (.exp (.call 87 (.cons (.var 0) (.cons (.var 1) .nil))))
 (.cons (.exp (.call 87 (.cons (.var 0) (.cons (.var 2) .nil))))
 (.cons (.ret (.call 63 (.cons (.var 0) (.cons (.var 1) (.cons (.var 2) .nil)))))
 .nil)))⟩
/- 94 world free deed -/
def c_passed : Fn := ⟨3, 3, (.cons (.exp (.call 82 (.cons (.var 0) .nil)))
 (.cons (.exp (.call 84 (.cons (.var 0) (.cons (.var 1) .nil))))
 (.cons (.exp (.call 84 (.cons (.var 0) (.cons (.var 2) .nil))))
 (.cons (.iff (.bool false (.cons (.cmp .nin (.idx (.var 1) (.con (.int 0))) (.glo 2 (.tuple [(.str "shift"), (.str "flip"), (.str "turn")]))) (.cons (.cmp .inn (.idx (.var 2) (.con (.int 0))) (.glo 2 (.tuple [(.str "shift"), (.str "flip"), (.str "turn")]))) .nil)))
 (.cons (.rai 2)
 .nil)
 .nil)
 (.cons (.ret (.call 95 (.cons (.var 0) (.cons (.var 1) (.cons (.var 2) .nil)))))
 .nil)))))⟩
/- 95 world free deed step -/
def c_past : Fn := ⟨3, 4, (.cons (.iff (.cmp .eq (.idx (.var 1) (.con (.int 0))) (.con (.str "turn")))
 (.cons (.ret (.call 111 (.cons (.var 0) (.cons (.var 2) .nil))))
 .nil)
 .nil)
 (.cons (.iff (.cmp .inn (.idx (.var 2) (.con (.int 0))) (.tup (.cons (.con (.str "mask")) (.cons (.con (.str "lift")) .nil))))
 (.cons (.ret (.tup (.cons (.idx (.var 2) (.con (.int 0))) (.cons (.call 80 (.cons (.var 0) (.cons (.var 1) (.cons (.idx (.var 2) (.con (.int 1))) .nil)))) .nil))))
 .nil)
 .nil)
 (.cons (.iff (.cmp .eq (.idx (.var 1) (.con (.int 0))) (.con (.str "shift")))
 (.cons (.ret (.var 2))
 .nil)
 .nil)
 (.cons (.ret (.tup (.cons (.idx (.var 2) (.con (.int 0))) (.cons (.b1 .tuple (.b1 .sorted (.lc (.seq (.idx (.var 2) (.con (.int 1)))) (.one 3) .no (.call 81 (.cons (.var 0) (.cons (.var 1) (.cons (.var 3) .nil))))))) .nil))))
 .nil))))⟩
/- 96 world picture wide rows down row worth -/
def c_picture_text : Fn := ⟨2, 7, (.cons (.exp (.call 82 (.cons (.var 0) .nil)))
 (.cons (.exp (.call 86 (.cons (.var 0) (.cons (.var 1) .nil))))
 (.cons (.set 2 (.idx (.var 0) (.con (.int 0))))
 (.cons (.set 3 (.lc (.rng (.idx (.var 0) (.con (.int 1)))) (.one 4) .no (.slc (.var 1) (.so (.bin .mul (.var 2) (.var 4))) (.so (.bin .mul (.var 2) (.bin .add (.var 4) (.con (.int 1))))))))
 (.cons (.ret (.mth .join (.con (.str "\n")) (.cons (.lc (.seq (.var 3)) (.one 5) .no (.mth .join (.con (.str "")) (.cons (.lc (.seq (.var 5)) (.one 6) .no (.b1 .str (.var 6))) .nil))) .nil)))
 .nil)))))⟩
/- 97 world choice picture -/
def c_reached : Fn := ⟨3, 3, (.cons (.exp (.call 83 (.cons (.var 0) (.cons (.var 1) .nil))))
 (.cons (.exp (.call 86 (.cons (.var 0) (.cons (.var 2) .nil))))
 (.cons (.ret (.b1 .sorted (.call 103 (.cons (.var 0) (.cons (.var 1) (.cons (.var 2) .nil))))))
 .nil)))⟩
/- 98 world text lines found told line -/
def c_read : Fn := ⟨2, 6, (.cons (.exp (.call 82 (.cons (.var 0) .nil)))
 (.cons (.iff (.not (.b1 .isStr (.var 1)))
 (.cons (.rai 5)
 .nil)
 .nil)
 (.cons (.set 2 (.ite (.cmp .ne (.var 1) (.con (.str ""))) (.mth .split (.var 1) (.cons (.con (.str "\n")) .nil)) (.lst .nil)))
 (.cons (.iff (.cmp .gt (.b1 .len (.var 2)) (.glo 4 (.int 6)))
 (.cons (.rai 5)
 .nil)
 .nil)
 (.cons (.set 3 (.b1 .tuple (.lc (.seq (.var 2)) (.one 5) .no (.call 58 (.cons (.var 5) .nil)))))
 (.cons (.set 4 (.con (.str "")))
 (.cons (.try_ (.set 4 (.call 108 (.cons (.var 0) (.cons (.var 3) .nil)))) [(4, 4, (.str ""))])
 (.cons (.iff (.cmp .ne (.var 4) (.var 1))
 (.cons (.rai 5)
 .nil)
 .nil)
 (.cons (.ret (.var 3))
 .nil)))))))))⟩
/- 99 world text rows signs sign row -/
def c_read_picture : Fn := ⟨2, 6, (.cons (.exp (.call 82 (.cons (.var 0) .nil)))
 (.cons (.iff (.not (.b1 .isStr (.var 1)))
 (.cons (.rai 5)
 .nil)
 .nil)
 (.cons (.set 2 (.mth .split (.var 1) (.cons (.con (.str "\n")) .nil)))
 (.cons (.iff (.bool false (.cons (.cmp .ne (.b1 .len (.var 2)) (.idx (.var 0) (.con (.int 1)))) (.cons (.lc (.seq (.var 2)) (.one 5) (.so (.cmp .ne (.b1 .len (.var 5)) (.idx (.var 0) (.con (.int 0))))) (.var 5)) .nil)))
 (.cons (.rai 5)
 .nil)
 .nil)
 (.cons (.set 3 (.mth .join (.con (.str "")) (.cons (.var 2) .nil)))
 (.cons (.iff (.lc (.seq (.var 3)) (.one 4) (.so (.cmp .nin (.var 4) (.slc (.glo 0 (.str "0123")) .no (.so (.bin .add (.idx (.var 0) (.con (.int 2))) (.con (.int 1))))))) (.var 4))
 (.cons (.rai 5)
 .nil)
 .nil)
 (.cons (.ret (.b1 .tuple (.lc (.seq (.var 3)) (.one 4) .no (.b1 .int (.var 4)))))
 .nil)))))))⟩
/- 100 world cells cell -/
def c_rest_of : Fn := ⟨2, 3, (.cons (.ret (.b1 .tuple (.lc (.rng (.bin .mul (.idx (.var 0) (.con (.int 0))) (.idx (.var 0) (.con (.int 1))))) (.one 2) (.so (.cmp .nin (.var 2) (.var 1))) (.var 2))))
 .nil)⟩
/- 101 row one other -/
def c_rises : Fn := ⟨1, 3, (.cons (.ret (.not (.lc (.zip (.var 0) (.slc (.var 0) (.so (.con (.int 1))) .no)) (.two 1 2) (.so (.cmp .ge (.var 1) (.var 2))) (.con (.int 1)))))
 .nil)⟩
/- 102 world row first here many picture -/
def c_rounds : Fn := ⟨2, 6, (.cons (.exp (.call 87 (.cons (.var 0) (.cons (.var 1) .nil))))
 (.cons (.set 2 (.call 53 (.cons (.var 0) .nil)))
 (.cons (.set 3 (.lc (.seq (.var 2)) (.one 5) .no (.call 52 (.cons (.var 0) (.cons (.var 5) (.cons (.var 1) .nil))))))
 (.cons (.iff (.cmp .ne (.b1 .lenset (.var 3)) (.b1 .len (.var 2)))
 (.cons (.ret (.con .none))
 .nil)
 .nil)
 (.cons (.set 4 (.con (.int 1)))
 (.cons (.whl (.cmp .ne (.var 3) (.var 2))
 (.cons (.set 3 (.lc (.seq (.var 3)) (.one 5) .no (.call 52 (.cons (.var 0) (.cons (.var 5) (.cons (.var 1) .nil))))))
 (.cons (.aug 4 (.con (.int 1)))
 .nil)))
 (.cons (.ret (.var 4))
 .nil)))))))⟩
/- 103 world choice picture found here later one deed new -/
def c_rows_from : Fn := ⟨3, 9, (.cons (.setd 3 (.cons (.var 2) .nil) (.cons (.tup .nil) .nil))
 (.cons (.set 4 (.lst (.cons (.var 2) .nil)))
 (.cons (.whl (.var 4)
 (.cons (.setl 5 .nil)
 (.cons (.for_ (.one 6) (.seq (.var 4))
 (.cons (.for_ (.one 7) (.seq (.var 1))
 (.cons (.set 8 (.call 59 (.cons (.var 0) (.cons (.var 6) (.cons (.var 7) .nil)))))
 (.cons (.iff (.cmp .nin (.var 8) (.pk 3))
 (.cons (.put 3 (.var 8) (.bin .add (.idx (.pk 3) (.var 6)) (.tup (.cons (.var 7) .nil))))
 (.cons (.app 5 (.var 8))
 .nil))
 .nil)
 .nil)))
 .nil))
 (.cons (.frz 5)
 (.cons (.set 4 (.var 5))
 .nil)))))
 (.cons (.frz 3)
 (.cons (.ret (.var 3))
 .nil)))))⟩
/- 104 choice long found here turn later row deed -/
def c_rows_to : Fn := ⟨2, 8, (.cons (.setl 2 (.cons (.tup .nil) .nil))
 (.cons (.set 3 (.lst (.cons (.tup .nil) .nil)))
 (.cons (.for_ (.one 4) (.rng (.var 1))
 (.cons (.setl 5 .nil)
 (.cons (.for_ (.one 6) (.seq (.var 3))
 (.cons (.ext 5 (.lc (.seq (.var 0)) (.one 7) .no (.bin .add (.var 6) (.tup (.cons (.var 7) .nil)))))
 .nil))
 (.cons (.frz 5)
 (.cons (.set 3 (.var 5))
 (.cons (.ext 2 (.var 3))
 .nil))))))
 (.cons (.frz 2)
 (.cons (.ret (.var 2))
 .nil)))))⟩
/- 105 world picture window cell across down step -/
def c_seen : Fn := ⟨4, 7, (.cons (.unp (.two 4 5) (.tup (.cons (.bin .mod (.var 3) (.idx (.var 0) (.con (.int 0)))) (.cons (.bin .fdiv (.var 3) (.idx (.var 0) (.con (.int 0)))) .nil))))
 (.cons (.ret (.lc (.seq (.var 2)) (.one 6) .no (.idx (.var 1) (.call 57 (.cons (.var 0) (.cons (.bin .add (.var 4) (.idx (.var 6) (.con (.int 0)))) (.cons (.bin .add (.var 5) (.idx (.var 6) (.con (.int 1)))) .nil)))))))
 .nil))⟩
/- 106 world row place new deed -/
def c_settled : Fn := ⟨2, 5, (.cons (.set 1 (.lc (.seq (.var 1)) (.one 4) (.so (.not (.call 72 (.cons (.var 0) (.cons (.var 4) .nil))))) (.var 4)))
 (.cons (.for_ (.one 2) (.rng (.bin .sub (.b1 .len (.var 1)) (.con (.int 1))))
 (.cons (.set 3 (.call 90 (.cons (.var 0) (.cons (.idx (.var 1) (.var 2)) (.cons (.idx (.var 1) (.bin .add (.var 2) (.con (.int 1)))) .nil)))))
 (.cons (.iff (.cmp .ne (.var 3) (.slc (.var 1) (.so (.var 2)) (.so (.bin .add (.var 2) (.con (.int 2))))))
 (.cons (.ret (.call 106 (.cons (.var 0) (.cons (.bin .add (.bin .add (.slc (.var 1) .no (.so (.var 2))) (.var 3)) (.slc (.var 1) (.so (.bin .add (.var 2) (.con (.int 2)))) .no)) .nil))))
 .nil)
 .nil)
 .nil)))
 (.cons (.ret (.var 1))
 .nil)))⟩
/- 107 world row some -/
def c_shortest : Fn := ⟨2, 3, (.cons (.set 2 (.call 92 (.cons (.var 0) (.cons (.var 1) .nil))))
 (.cons (.whl (.var 2)
 (.cons (.set 1 (.bin .add (.slc (.var 1) .no (.so (.idx (.var 2) (.neg (.con (.int 1)))))) (.slc (.var 1) (.so (.bin .add (.idx (.var 2) (.neg (.con (.int 1)))) (.con (.int 1)))) .no)))
 (.cons (.set 2 (.call 92 (.cons (.var 0) (.cons (.var 1) .nil))))
 .nil)))
 (.cons (.ret (.var 1))
 .nil)))⟩
/- 108 world row deed -/
def c_shown : Fn := ⟨2, 3, (.cons (.exp (.call 87 (.cons (.var 0) (.cons (.var 1) .nil))))
 (.cons (.ret (.mth .join (.con (.str "\n")) (.cons (.lc (.seq (.var 1)) (.one 2) .no (.call 117 (.cons (.var 2) .nil))) .nil)))
 .nil))⟩
/- 109 world row picture -/
def c_stays : Fn := ⟨2, 3, (.cons (.exp (.call 87 (.cons (.var 0) (.cons (.var 1) .nil))))
 (.cons (.ret (.lc (.seq (.call 53 (.cons (.var 0) .nil))) (.one 2) (.so (.cmp .eq (.call 52 (.cons (.var 0) (.cons (.var 2) (.cons (.var 1) .nil)))) (.var 2))) (.var 2)))
 .nil))⟩
/- 110 world one other found a b -/
def c_steps_of : Fn := ⟨3, 6, (.cons (.setd 3 .nil .nil)
 (.cons (.for_ (.one 4) (.seq (.var 1))
 (.cons (.for_ (.one 5) (.seq (.var 2))
 (.cons (.put 3 (.tup (.cons (.bin .mod (.bin .add (.idx (.var 4) (.con (.int 0))) (.idx (.var 5) (.con (.int 0)))) (.idx (.var 0) (.con (.int 0)))) (.cons (.bin .mod (.bin .add (.idx (.var 4) (.con (.int 1))) (.idx (.var 5) (.con (.int 1)))) (.idx (.var 0) (.con (.int 1)))) .nil))) (.con (.bool true)))
 .nil))
 .nil))
 (.cons (.ret (.b1 .tuple (.b1 .sorted (.pk 3))))
 .nil)))⟩
/- 111 world deed -/
def c_turned_deed : Fn := ⟨2, 2, (.cons (.iff (.cmp .eq (.idx (.var 1) (.con (.int 0))) (.con (.str "greatest")))
 (.cons (.ret (.tup (.cons (.con (.str "least")) (.cons (.idx (.var 1) (.con (.int 1))) .nil))))
 .nil)
 .nil)
 (.cons (.iff (.cmp .eq (.idx (.var 1) (.con (.int 0))) (.con (.str "least")))
 (.cons (.ret (.tup (.cons (.con (.str "greatest")) (.cons (.idx (.var 1) (.con (.int 1))) .nil))))
 .nil)
 .nil)
 (.cons (.iff (.cmp .eq (.idx (.var 1) (.con (.int 0))) (.con (.str "mask")))
 (.cons (.ret (.tup (.cons (.con (.str "lift")) (.cons (.call 100 (.cons (.var 0) (.cons (.idx (.var 1) (.con (.int 1))) .nil))) .nil))))
 .nil)
 .nil)
 (.cons (.ret (.tup (.cons (.con (.str "mask")) (.cons (.call 100 (.cons (.var 0) (.cons (.idx (.var 1) (.con (.int 1))) .nil))) .nil))))
 .nil))))⟩
/- 112 world row deed -/
def c_undoing : Fn := ⟨2, 3, (.cons (.exp (.call 87 (.cons (.var 0) (.cons (.var 1) .nil))))
 (.cons (.iff (.lc (.seq (.var 1)) (.one 2) (.so (.cmp .nin (.idx (.var 2) (.con (.int 0))) (.glo 2 (.tuple [(.str "shift"), (.str "flip"), (.str "turn")])))) (.var 2))
 (.cons (.rai 2)
 .nil)
 .nil)
 (.cons (.ret (.call 66 (.cons (.var 0) (.cons (.b1 .tuple (.lc (.seq (.rev (.var 1))) (.one 2) .no (.call 113 (.cons (.var 0) (.cons (.var 2) .nil))))) .nil))))
 .nil)))⟩
/- 113 world deed -/
def c_undone_deed : Fn := ⟨2, 2, (.cons (.iff (.cmp .eq (.idx (.var 1) (.con (.int 0))) (.con (.str "shift")))
 (.cons (.ret (.tup (.cons (.con (.str "shift")) (.cons (.bin .mod (.neg (.idx (.var 1) (.con (.int 1)))) (.idx (.var 0) (.con (.int 0)))) (.cons (.bin .mod (.neg (.idx (.var 1) (.con (.int 2)))) (.idx (.var 0) (.con (.int 1)))) .nil)))))
 .nil)
 .nil)
 (.cons (.ret (.var 1))
 .nil))⟩
/- 114 world choice long some found here turn later made deed new picture -/
def c_unlike_of : Fn := ⟨3, 12, (.cons (.set 3 (.b1 .tuple (.call 53 (.cons (.var 0) .nil))))
 (.cons (.setd 4 (.cons (.var 3) .nil) (.cons (.tup .nil) .nil))
 (.cons (.set 5 (.lst (.cons (.var 3) .nil)))
 (.cons (.for_ (.one 6) (.rng (.var 2))
 (.cons (.setl 7 .nil)
 (.cons (.for_ (.one 8) (.seq (.var 5))
 (.cons (.for_ (.one 9) (.seq (.var 1))
 (.cons (.set 10 (.b1 .tuple (.lc (.seq (.var 8)) (.one 11) .no (.call 59 (.cons (.var 0) (.cons (.var 11) (.cons (.var 9) .nil)))))))
 (.cons (.iff (.cmp .nin (.var 10) (.pk 4))
 (.cons (.put 4 (.var 10) (.bin .add (.idx (.pk 4) (.var 8)) (.tup (.cons (.var 9) .nil))))
 (.cons (.app 7 (.var 10))
 .nil))
 .nil)
 .nil)))
 .nil))
 (.cons (.frz 7)
 (.cons (.set 5 (.var 7))
 .nil)))))
 (.cons (.frz 4)
 (.cons (.ret (.var 4))
 .nil))))))⟩
/- 115 world choice long -/
def c_unlike_rows : Fn := ⟨3, 3, (.cons (.exp (.call 83 (.cons (.var 0) (.cons (.var 1) .nil))))
 (.cons (.iff (.not (.call 78 (.cons (.var 2) (.cons (.con (.int 0)) (.cons (.con (.int 4)) .nil)))))
 (.cons (.rai 1)
 .nil)
 .nil)
 (.cons (.ret (.b1 .listvals (.call 114 (.cons (.var 0) (.cons (.var 1) (.cons (.var 2) .nil))))))
 .nil)))⟩
/- 116 world choice picture goal -/
def c_way_to : Fn := ⟨4, 4, (.cons (.exp (.call 83 (.cons (.var 0) (.cons (.var 1) .nil))))
 (.cons (.exp (.call 86 (.cons (.var 0) (.cons (.var 2) .nil))))
 (.cons (.exp (.call 86 (.cons (.var 0) (.cons (.var 3) .nil))))
 (.cons (.ret (.mth .get (.call 103 (.cons (.var 0) (.cons (.var 1) (.cons (.var 2) .nil)))) (.cons (.var 3) .nil)))
 .nil))))⟩
/- 117 deed step cell -/
def c_written : Fn := ⟨1, 3, (.cons (.iff (.cmp .eq (.idx (.var 0) (.con (.int 0))) (.con (.str "turn")))
 (.cons (.ret (.con (.str "turn")))
 .nil)
 .nil)
 (.cons (.iff (.cmp .eq (.idx (.var 0) (.con (.int 0))) (.con (.str "shift")))
 (.cons (.ret (.bin .add (.bin .add (.con (.str "shift ")) (.b1 .str (.idx (.var 0) (.con (.int 1))))) (.b1 .str (.idx (.var 0) (.con (.int 2))))))
 .nil)
 .nil)
 (.cons (.iff (.cmp .eq (.idx (.var 0) (.con (.int 0))) (.con (.str "flip")))
 (.cons (.ret (.bin .add (.con (.str "flip ")) (.idx (.var 0) (.con (.int 1)))))
 .nil)
 .nil)
 (.cons (.iff (.cmp .inn (.idx (.var 0) (.con (.int 0))) (.tup (.cons (.con (.str "mask")) (.cons (.con (.str "lift")) .nil))))
 (.cons (.ret (.bin .add (.bin .add (.idx (.var 0) (.con (.int 0))) (.con (.str " "))) (.mth .join (.con (.str "")) (.cons (.lc (.seq (.idx (.var 0) (.con (.int 1)))) (.one 2) .no (.b1 .str (.var 2))) .nil))))
 .nil)
 .nil)
 (.cons (.ret (.bin .add (.bin .add (.idx (.var 0) (.con (.int 0))) (.con (.str " "))) (.mth .join (.con (.str ",")) (.cons (.lc (.seq (.idx (.var 0) (.con (.int 1)))) (.one 1) .no (.bin .add (.b1 .str (.idx (.var 1) (.con (.int 0)))) (.b1 .str (.idx (.var 1) (.con (.int 1)))))) .nil))))
 .nil)))))⟩
end FL

namespace FL
/-- all defs, and a law -/
def tblL (L : Fn) : Nat → Option Fn
  | 0 => some L
  | 1 => some c_law_after
  | 2 => some c_law_ahead
  | 3 => some c_law_as
  | 4 => some c_law_asked
  | 5 => some c_law_asks
  | 6 => some c_law_bad
  | 7 => some c_law_called
  | 8 => some c_law_called_then
  | 9 => some c_law_caught
  | 10 => some c_law_cell
  | 11 => some c_law_choice
  | 12 => some c_law_deed
  | 13 => some c_law_deeds_of
  | 14 => some c_law_done
  | 15 => some c_law_eased
  | 16 => some c_law_easel
  | 17 => some c_law_every
  | 18 => some c_law_flood
  | 19 => some c_law_free_row
  | 20 => some c_law_handed
  | 21 => some c_law_in
  | 22 => some c_law_is_deed
  | 23 => some c_law_is_row
  | 24 => some c_law_kinds_of
  | 25 => some c_law_led_back
  | 26 => some c_law_line
  | 27 => some c_law_made
  | 28 => some c_law_mix
  | 29 => some c_law_once
  | 30 => some c_law_parted
  | 31 => some c_law_passed
  | 32 => some c_law_pick
  | 33 => some c_law_picture_text
  | 34 => some c_law_read
  | 35 => some c_law_refuses
  | 36 => some c_law_row
  | 37 => some c_law_rows
  | 38 => some c_law_seed
  | 39 => some c_law_settled
  | 40 => some c_law_small_world
  | 41 => some c_law_some_picture
  | 42 => some c_law_sums
  | 43 => some c_law_text
  | 44 => some c_law_twin
  | 45 => some c_law_window
  | 46 => some c_law_word
  | 47 => some c_law_world
  | 48 => some c_wall
  | 49 => some c_after
  | 50 => some c_again
  | 51 => some c_alike
  | 52 => some c_all_done
  | 53 => some c_all_pictures
  | 54 => some c_are_cells
  | 55 => some c_before
  | 56 => some c_by_choice
  | 57 => some c_cell_at
  | 58 => some c_deed_read
  | 59 => some c_done
  | 60 => some c_farthest
  | 61 => some c_figures_of
  | 62 => some c_first_fitting
  | 63 => some c_first_parted
  | 64 => some c_fits
  | 65 => some c_fitting
  | 66 => some c_form
  | 67 => some c_form_of
  | 68 => some c_free_form
  | 69 => some c_free_forms
  | 70 => some c_free_rows
  | 71 => some c_is_deed
  | 72 => some c_is_idle
  | 73 => some c_is_picture
  | 74 => some c_is_settling
  | 75 => some c_is_step
  | 76 => some c_is_undone
  | 77 => some c_is_window
  | 78 => some c_is_within
  | 79 => some c_is_world
  | 80 => some c_led_cells
  | 81 => some c_led_step
  | 82 => some c_look
  | 83 => some c_look_choice
  | 84 => some c_look_deed
  | 85 => some c_look_pairs
  | 86 => some c_look_picture
  | 87 => some c_look_row
  | 88 => some c_made
  | 89 => some c_may_change
  | 90 => some c_merged
  | 91 => some c_moved
  | 92 => some c_needless
  | 93 => some c_parts
  | 94 => some c_passed
  | 95 => some c_past
  | 96 => some c_picture_text
  | 97 => some c_reached
  | 98 => some c_read
  | 99 => some c_read_picture
  | 100 => some c_rest_of
  | 101 => some c_rises
  | 102 => some c_rounds
  | 103 => some c_rows_from
  | 104 => some c_rows_to
  | 105 => some c_seen
  | 106 => some c_settled
  | 107 => some c_shortest
  | 108 => some c_shown
  | 109 => some c_stays
  | 110 => some c_steps_of
  | 111 => some c_turned_deed
  | 112 => some c_undoing
  | 113 => some c_undone_deed
  | 114 => some c_unlike_of
  | 115 => some c_unlike_rows
  | 116 => some c_way_to
  | 117 => some c_written
  | _ => none
variable {L : Fn} {wf n : Nat}
theorem tc_law_after : tblL L 1 = some c_law_after := rfl
theorem tc_law_ahead : tblL L 2 = some c_law_ahead := rfl
theorem tc_law_as : tblL L 3 = some c_law_as := rfl
theorem tc_law_asked : tblL L 4 = some c_law_asked := rfl
theorem tc_law_asks : tblL L 5 = some c_law_asks := rfl
theorem tc_law_bad : tblL L 6 = some c_law_bad := rfl
theorem tc_law_called : tblL L 7 = some c_law_called := rfl
theorem tc_law_called_then : tblL L 8 = some c_law_called_then := rfl
theorem tc_law_caught : tblL L 9 = some c_law_caught := rfl
theorem tc_law_cell : tblL L 10 = some c_law_cell := rfl
theorem tc_law_choice : tblL L 11 = some c_law_choice := rfl
theorem tc_law_deed : tblL L 12 = some c_law_deed := rfl
theorem tc_law_deeds_of : tblL L 13 = some c_law_deeds_of := rfl
theorem tc_law_done : tblL L 14 = some c_law_done := rfl
theorem tc_law_eased : tblL L 15 = some c_law_eased := rfl
theorem tc_law_easel : tblL L 16 = some c_law_easel := rfl
theorem tc_law_every : tblL L 17 = some c_law_every := rfl
theorem tc_law_flood : tblL L 18 = some c_law_flood := rfl
theorem tc_law_free_row : tblL L 19 = some c_law_free_row := rfl
theorem tc_law_handed : tblL L 20 = some c_law_handed := rfl
theorem tc_law_in : tblL L 21 = some c_law_in := rfl
theorem tc_law_is_deed : tblL L 22 = some c_law_is_deed := rfl
theorem tc_law_is_row : tblL L 23 = some c_law_is_row := rfl
theorem tc_law_kinds_of : tblL L 24 = some c_law_kinds_of := rfl
theorem tc_law_led_back : tblL L 25 = some c_law_led_back := rfl
theorem tc_law_line : tblL L 26 = some c_law_line := rfl
theorem tc_law_made : tblL L 27 = some c_law_made := rfl
theorem tc_law_mix : tblL L 28 = some c_law_mix := rfl
theorem tc_law_once : tblL L 29 = some c_law_once := rfl
theorem tc_law_parted : tblL L 30 = some c_law_parted := rfl
theorem tc_law_passed : tblL L 31 = some c_law_passed := rfl
theorem tc_law_pick : tblL L 32 = some c_law_pick := rfl
theorem tc_law_picture_text : tblL L 33 = some c_law_picture_text := rfl
theorem tc_law_read : tblL L 34 = some c_law_read := rfl
theorem tc_law_refuses : tblL L 35 = some c_law_refuses := rfl
theorem tc_law_row : tblL L 36 = some c_law_row := rfl
theorem tc_law_rows : tblL L 37 = some c_law_rows := rfl
theorem tc_law_seed : tblL L 38 = some c_law_seed := rfl
theorem tc_law_settled : tblL L 39 = some c_law_settled := rfl
theorem tc_law_small_world : tblL L 40 = some c_law_small_world := rfl
theorem tc_law_some_picture : tblL L 41 = some c_law_some_picture := rfl
theorem tc_law_sums : tblL L 42 = some c_law_sums := rfl
theorem tc_law_text : tblL L 43 = some c_law_text := rfl
theorem tc_law_twin : tblL L 44 = some c_law_twin := rfl
theorem tc_law_window : tblL L 45 = some c_law_window := rfl
theorem tc_law_word : tblL L 46 = some c_law_word := rfl
theorem tc_law_world : tblL L 47 = some c_law_world := rfl
theorem tc_wall : tblL L 48 = some c_wall := rfl
theorem tc_after : tblL L 49 = some c_after := rfl
theorem tc_again : tblL L 50 = some c_again := rfl
theorem tc_alike : tblL L 51 = some c_alike := rfl
theorem tc_all_done : tblL L 52 = some c_all_done := rfl
theorem tc_all_pictures : tblL L 53 = some c_all_pictures := rfl
theorem tc_are_cells : tblL L 54 = some c_are_cells := rfl
theorem tc_before : tblL L 55 = some c_before := rfl
theorem tc_by_choice : tblL L 56 = some c_by_choice := rfl
theorem tc_cell_at : tblL L 57 = some c_cell_at := rfl
theorem tc_deed_read : tblL L 58 = some c_deed_read := rfl
theorem tc_done : tblL L 59 = some c_done := rfl
theorem tc_farthest : tblL L 60 = some c_farthest := rfl
theorem tc_figures_of : tblL L 61 = some c_figures_of := rfl
theorem tc_first_fitting : tblL L 62 = some c_first_fitting := rfl
theorem tc_first_parted : tblL L 63 = some c_first_parted := rfl
theorem tc_fits : tblL L 64 = some c_fits := rfl
theorem tc_fitting : tblL L 65 = some c_fitting := rfl
theorem tc_form : tblL L 66 = some c_form := rfl
theorem tc_form_of : tblL L 67 = some c_form_of := rfl
theorem tc_free_form : tblL L 68 = some c_free_form := rfl
theorem tc_free_forms : tblL L 69 = some c_free_forms := rfl
theorem tc_free_rows : tblL L 70 = some c_free_rows := rfl
theorem tc_is_deed : tblL L 71 = some c_is_deed := rfl
theorem tc_is_idle : tblL L 72 = some c_is_idle := rfl
theorem tc_is_picture : tblL L 73 = some c_is_picture := rfl
theorem tc_is_settling : tblL L 74 = some c_is_settling := rfl
theorem tc_is_step : tblL L 75 = some c_is_step := rfl
theorem tc_is_undone : tblL L 76 = some c_is_undone := rfl
theorem tc_is_window : tblL L 77 = some c_is_window := rfl
theorem tc_is_within : tblL L 78 = some c_is_within := rfl
theorem tc_is_world : tblL L 79 = some c_is_world := rfl
theorem tc_led_cells : tblL L 80 = some c_led_cells := rfl
theorem tc_led_step : tblL L 81 = some c_led_step := rfl
theorem tc_look : tblL L 82 = some c_look := rfl
theorem tc_look_choice : tblL L 83 = some c_look_choice := rfl
theorem tc_look_deed : tblL L 84 = some c_look_deed := rfl
theorem tc_look_pairs : tblL L 85 = some c_look_pairs := rfl
theorem tc_look_picture : tblL L 86 = some c_look_picture := rfl
theorem tc_look_row : tblL L 87 = some c_look_row := rfl
theorem tc_made : tblL L 88 = some c_made := rfl
theorem tc_may_change : tblL L 89 = some c_may_change := rfl
theorem tc_merged : tblL L 90 = some c_merged := rfl
theorem tc_moved : tblL L 91 = some c_moved := rfl
theorem tc_needless : tblL L 92 = some c_needless := rfl
theorem tc_parts : tblL L 93 = some c_parts := rfl
theorem tc_passed : tblL L 94 = some c_passed := rfl
theorem tc_past : tblL L 95 = some c_past := rfl
theorem tc_picture_text : tblL L 96 = some c_picture_text := rfl
theorem tc_reached : tblL L 97 = some c_reached := rfl
theorem tc_read : tblL L 98 = some c_read := rfl
theorem tc_read_picture : tblL L 99 = some c_read_picture := rfl
theorem tc_rest_of : tblL L 100 = some c_rest_of := rfl
theorem tc_rises : tblL L 101 = some c_rises := rfl
theorem tc_rounds : tblL L 102 = some c_rounds := rfl
theorem tc_rows_from : tblL L 103 = some c_rows_from := rfl
theorem tc_rows_to : tblL L 104 = some c_rows_to := rfl
theorem tc_seen : tblL L 105 = some c_seen := rfl
theorem tc_settled : tblL L 106 = some c_settled := rfl
theorem tc_shortest : tblL L 107 = some c_shortest := rfl
theorem tc_shown : tblL L 108 = some c_shown := rfl
theorem tc_stays : tblL L 109 = some c_stays := rfl
theorem tc_steps_of : tblL L 110 = some c_steps_of := rfl
theorem tc_turned_deed : tblL L 111 = some c_turned_deed := rfl
theorem tc_undoing : tblL L 112 = some c_undoing := rfl
theorem tc_undone_deed : tblL L 113 = some c_undone_deed := rfl
theorem tc_unlike_of : tblL L 114 = some c_unlike_of := rfl
theorem tc_unlike_rows : tblL L 115 = some c_unlike_rows := rfl
theorem tc_way_to : tblL L 116 = some c_way_to := rfl
theorem tc_written : tblL L 117 = some c_written := rfl
end FL

/-! FLsim: the evaluator's equations for simp. -/
namespace FL
open PySem Out
section
variable {Φ : Nat → List D → Out D} {wf : Nat} {S : St}
@[simp] theorem ev_con {d : D} : ev Φ (.con d) S = ok d := rfl
@[simp] theorem ev_glo {g : Nat} {d : D} : ev Φ (.glo g d) S = ok d := rfl
@[simp] theorem ev_var {i : Nat} : ev Φ (.var i) S = getF S i := rfl
@[simp] theorem ev_pk {i : Nat} : ev Φ (.pk i) S = getP S i := rfl
@[simp] theorem ev_call {f : Nat} {as : CEs} : ev Φ (.call f as) S = (evs Φ as S).bind fun ds => Φ f ds := rfl
@[simp] theorem ev_bin {o : BOp} {a b : CE} : ev Φ (.bin o a b) S = (ev Φ a S).bind fun x => (ev Φ b S).bind fun y => bop o x y := rfl
@[simp] theorem ev_neg {a : CE} : ev Φ (.neg a) S = (ev Φ a S).bind fun x => (asInt x).bind fun i => ok (.int (-i)) := rfl
@[simp] theorem ev_not {a : CE} : ev Φ (.not a) S = (ev Φ a S).bind fun x => (tru x).bind fun b => ok (.bool (!b)) := rfl
@[simp] theorem ev_bool {k : Bool} {as : CEs} : ev Φ (.bool k as) S = evb Φ k as S := rfl
@[simp] theorem ev_ite {c a b : CE} : ev Φ (.ite c a b) S = (ev Φ c S).bind fun x => (tru x).bind fun t => if t = true then ev Φ a S else ev Φ b S := rfl
@[simp] theorem ev_cmp {o : COp} {a b : CE} : ev Φ (.cmp o a b) S = (ev Φ a S).bind fun x => (ev Φ b S).bind fun y => cop o x y := rfl
def chnK (o : Out D) (k : Out D) : Out D := o.bind fun r => match r with
  | .bool true => k
  | .bool false => ok (.bool false)
  | _ => bad
@[simp] theorem chnK_bool (b : Bool) (k : Out D) : chnK (ok (.bool b)) k = if b = true then k else ok (.bool false) := by cases b <;> rfl
@[simp] theorem ev_chn {o p : COp} {a b c : CE} : ev Φ (.chn o p a b c) S = (ev Φ a S).bind fun x => (ev Φ b S).bind fun y => chnK (cop o x y) ((ev Φ c S).bind fun z => cop p y z) := rfl
def isNB (yes : Bool) : D → Bool
  | .none => yes
  | _ => !yes
@[simp] theorem ev_isN {yes : Bool} {a : CE} : ev Φ (.isN yes a) S = (ev Φ a S).bind fun x => ok (.bool (isNB yes x)) := rfl
@[simp] theorem ev_tup {as : CEs} : ev Φ (.tup as) S = (evs Φ as S).bind fun ds => guard (fits ds.length) (ok (.tuple ds)) := (rfl)
@[simp] theorem ev_lst {as : CEs} : ev Φ (.lst as) S = (evs Φ as S).bind fun ds => guard (fits ds.length) (ok (.list ds)) := (rfl)
@[simp] theorem ev_idx {a b : CE} : ev Φ (.idx a b) S = (ev Φ a S).bind fun x => (ev Φ b S).bind fun y => idx x y := rfl
@[simp] theorem ev_slc {a : CE} {lo hi : CO} : ev Φ (.slc a lo hi) S = (ev Φ a S).bind fun x => (evo Φ lo S).bind fun l => (evo Φ hi S).bind fun h => slc l h x := rfl
@[simp] theorem ev_rev {a : CE} : ev Φ (.rev a) S = (ev Φ a S).bind revD := rfl
@[simp] theorem ev_b1 {f : B1} {a : CE} : ev Φ (.b1 f a) S = (ev Φ a S).bind fun x => b1 f x := rfl
@[simp] theorem ev_mth {m : Mth} {a : CE} {as : CEs} : ev Φ (.mth m a as) S = (ev Φ a S).bind fun x => (evs Φ as S).calm.bind fun ds => mth m x ds := rfl
@[simp] theorem ev_dsp {ks : List D} {vs : CEs} : ev Φ (.dsp ks vs) S = (evs Φ vs S).calm.bind fun ds => dspD ks ds := rfl
@[simp] theorem ev_hole : ev Φ .hole S = bad := rfl
@[simp] theorem evi_vals {a : CE} : evi Φ (.vals a) S = (ev Φ a S).bind valsI := rfl
/-- a comprehension's turn -/
def lcF (Φ : Nat → List D → Out D) (tg : Tg) (t : CO) (e : CE) (S : St) (x : D) : Out (Option D) := ((bindT tg x S).bind fun S2 => (evt Φ t S2).bind fun b => if b = true then (ev Φ e S2).bind fun y => ok (some y) else ok none).calm
@[simp] theorem ev_lc {it : CI} {tg : Tg} {t : CO} {e : CE} : ev Φ (.lc it tg t e) S = (evi Φ it S).bind fun xs => (lcM (lcF Φ tg t e S) xs).bind fun ys => ok (.list ys) := rfl
@[simp] theorem evo_no : evo Φ .no S = ok none := rfl
@[simp] theorem evo_so {a : CE} : evo Φ (.so a) S = (ev Φ a S).bind fun x => (asInt x).bind fun i => ok (some i) := rfl
@[simp] theorem evt_no : evt Φ .no S = ok true := rfl
@[simp] theorem evt_so {a : CE} : evt Φ (.so a) S = (ev Φ a S).bind tru := rfl
@[simp] theorem evs_nil : evs Φ .nil S = ok [] := rfl
@[simp] theorem evs_cons {a : CE} {as : CEs} : evs Φ (.cons a as) S = (ev Φ a S).bind fun x => (evs Φ as S).bind fun xs => ok (x :: xs) := rfl
@[simp] theorem evb_one {k : Bool} {a : CE} : evb Φ k (.cons a .nil) S = ev Φ a S := rfl
@[simp] theorem evb_cons {k : Bool} {a b : CE} {as : CEs} : evb Φ k (.cons a (.cons b as)) S = (ev Φ a S).bind fun x => (tru x).bind fun t => if t = k then evb Φ k (.cons b as) S else ok x := rfl
@[simp] theorem evi_seq {a : CE} : evi Φ (.seq a) S = (ev Φ a S).bind items := rfl
@[simp] theorem evi_rng {a : CE} : evi Φ (.rng a) S = (ev Φ a S).bind fun x => (asInt x).bind fun n => guard (rngB n) (ok (rangeD n)) := (rfl)
@[simp] theorem evi_zip {a b : CE} : evi Φ (.zip a b) S = (ev Φ a S).bind fun x => (ev Φ b S).bind fun y => zipI x y := rfl
@[simp] theorem evi_enum {a : CE} : evi Φ (.enum a) S = (ev Φ a S).bind enumI := rfl
@[simp] theorem asInt_int (i : Int) : asInt (.int i) = ok i := rfl
@[simp] theorem items_list (xs : List D) : items (.list xs) = ok xs := rfl
@[simp] theorem items_scr (ns : List Int) : items (scr ns) = ok (ns.map .int) := rfl
@[simp] theorem cop_is (a b : Bool) : cop .is (.bool a) (.bool b) = ok (.bool (a == b)) := rfl
@[simp] theorem cop_isn (a b : Bool) : cop .isn (.bool a) (.bool b) = ok (.bool (a != b)) := rfl
@[simp] theorem items_tuple (xs : List D) : items (.tuple xs) = ok xs := rfl
@[simp] theorem tru_bool' (b : Bool) : tru (.bool b) = ok b := rfl
@[simp] theorem tru_int (i : Int) : tru (.int i) = ok (i != 0) := rfl
@[simp] theorem tru_list (xs : List D) : tru (.list xs) = ok (!xs.isEmpty) := rfl
@[simp] theorem tru_tuple (xs : List D) : tru (.tuple xs) = ok (!xs.isEmpty) := rfl
@[simp] theorem tru_none : tru .none = ok false := rfl
@[simp] theorem bop_add (i j : Int) : bop .add (.int i) (.int j) = ok (.int (i + j)) := rfl
@[simp] theorem bop_sub (i j : Int) : bop .sub (.int i) (.int j) = ok (.int (i - j)) := rfl
@[simp] theorem bop_addL (xs ys : List D) : bop .add (.list xs) (.list ys) = guard (fits (xs.length + ys.length)) (ok (.list (xs ++ ys))) := (rfl)
@[simp] theorem bop_addT (xs ys : List D) : bop .add (.tuple xs) (.tuple ys) = guard (fits (xs.length + ys.length)) (ok (.tuple (xs ++ ys))) := (rfl)
@[simp] theorem bop_mul (i j : Int) : bop .mul (.int i) (.int j) = guard (mulOk i j) (ok (.int (i * j))) := (rfl)
@[simp] theorem bop_mod (i j : Int) : bop .mod (.int i) (.int j) = guard (decide (0 < j)) (ok (.int (i % j))) := (rfl)
@[simp] theorem bop_fdiv (i j : Int) : bop .fdiv (.int i) (.int j) = guard (decide (0 < j ∧ j.natAbs < 1073741824)) (ok (.int (i / j))) := (rfl)
@[simp] theorem bop_pow (i j : Int) : bop .pow (.int i) (.int j) = guard (decide (0 ≤ j ∧ j ≤ 1000000 ∧ i.natAbs < 2 ^ 64)) (ok (.int (i ^ j.toNat))) := (rfl)
@[simp] theorem cop_lt (i j : Int) : cop .lt (.int i) (.int j) = ok (.bool (decide (i < j))) := rfl
@[simp] theorem cop_le (i j : Int) : cop .le (.int i) (.int j) = ok (.bool (decide (i ≤ j))) := rfl
@[simp] theorem cop_gt (i j : Int) : cop .gt (.int i) (.int j) = ok (.bool (decide (j < i))) := rfl
@[simp] theorem cop_ge (i j : Int) : cop .ge (.int i) (.int j) = ok (.bool (decide (j ≤ i))) := rfl
@[simp] theorem shp_int (i : Int) : shp (.int i) = true := rfl
@[simp] theorem cop_eqI (i j : Int) : cop .eq (.int i) (.int j) = ok (.bool (decide (i = j))) := by
  show guard true (ok (PyData.bool (PyData.eqv (.int i) (.int j)))) = _
  simp [PyData.eqv]
  exact Bool.beq_eq_decide_eq i j
@[simp] theorem cop_neI (i j : Int) : cop .ne (.int i) (.int j) = ok (.bool (!decide (i = j))) := by
  show guard true (ok (PyData.bool (!PyData.eqv (.int i) (.int j)))) = _
  simp [PyData.eqv]
  exact Bool.beq_eq_decide_eq i j
@[simp] theorem b1_lenL (xs : List D) : b1 .len (.list xs) = ok (.int xs.length) := rfl
@[simp] theorem b1_lenT (xs : List D) : b1 .len (.tuple xs) = ok (.int xs.length) := rfl
@[simp] theorem b1_tupL (xs : List D) : b1 .tuple (.list xs) = ok (.tuple xs) := rfl
@[simp] theorem b1_tupT (xs : List D) : b1 .tuple (.tuple xs) = ok (.tuple xs) := rfl
@[simp] theorem b1_listL (xs : List D) : b1 .list (.list xs) = ok (.list xs) := rfl
@[simp] theorem b1_listT (xs : List D) : b1 .list (.tuple xs) = ok (.list xs) := rfl
@[simp] theorem b1_intI (i : Int) : b1 .int (.int i) = ok (.int i) := rfl
@[simp] theorem b1_intB (b : Bool) : b1 .int (.bool b) = ok (.int (if b = true then 1 else 0)) := rfl
@[simp] theorem isInt_int (i : Int) : b1 .isInt (.int i) = ok (.bool true) := rfl
@[simp] theorem isBool_int (i : Int) : b1 .isBool (.int i) = ok (.bool false) := rfl
@[simp] theorem isTuple_tuple (xs : List D) : b1 .isTuple (.tuple xs) = ok (.bool true) := rfl
@[simp] theorem isStr_str (s : Str) : b1 .isStr (.str s) = ok (.bool true) := rfl
@[simp] theorem isList_list (xs : List D) : b1 .isList (.list xs) = ok (.bool true) := rfl
@[simp] theorem b1_listrange (n : Int) : b1 .listrange (.int n) = guard (rngB n) (ok (.list (rangeD n))) := (rfl)
/-! slots -/
@[simp] theorem getF_zero (d : D) (S : St) : getF (.fz d :: S) 0 = ok d := rfl
@[simp] theorem getF_succ (x : Sl) (S : St) (i : Nat) : getF (x :: S) (i + 1) = getF S i := by
  unfold getF
  simp
@[simp] theorem getP_fz (d : D) (S : St) : getP (.fz d :: S) 0 = ok d := rfl
@[simp] theorem getP_ow (d : D) (S : St) : getP (.ow d :: S) 0 = ok d := rfl
@[simp] theorem getP_succ (x : Sl) (S : St) (i : Nat) : getP (x :: S) (i + 1) = getP S i := by
  unfold getP
  simp
@[simp] theorem bindT_one (i : Nat) (d : D) (S : St) : bindT (.one i) d S = ok (S.set i (.fz d)) := rfl
@[simp] theorem bindT_two (i j : Nat) (a b : D) (S : St) : bindT (.two i j) (.tuple [a, b]) S = ok ((S.set i (.fz a)).set j (.fz b)) := rfl
@[simp] theorem ownL_zero (xs : List D) (S : St) : ownL (.ow (.list xs) :: S) 0 = ok xs := rfl
@[simp] theorem ownL_succ (x : Sl) (S : St) (i : Nat) : ownL (x :: S) (i + 1) = ownL S i := by
  unfold ownL
  simp
@[simp] theorem ownA_zero (d : D) (S : St) : ownA (.ow d :: S) 0 = ok d := rfl
@[simp] theorem ownA_succ (x : Sl) (S : St) (i : Nat) : ownA (x :: S) (i + 1) = ownA S i := by
  unfold ownA
  simp
@[simp] theorem asList_list (xs : List D) : asList (.list xs) = ok xs := rfl
/-! statements -/
@[simp] theorem evS_set {i : Nat} {e : CE} : evS Φ wf (.set i e) S = (ev Φ e S).bind fun d => ok (.nx (S.set i (.fz d))) := rfl
@[simp] theorem evS_setl {i : Nat} {es : CEs} : evS Φ wf (.setl i es) S = (evs Φ es S).bind fun ds => guard (fits ds.length) (ok (.nx (S.set i (.ow (.list ds))))) := (rfl)
@[simp] theorem evS_unp {tg : Tg} {e : CE} : evS Φ wf (.unp tg e) S = (ev Φ e S).bind fun d => (bindT tg d S).map .nx := rfl
def unp3K (i j k : Nat) (S : St) : D → Out Fl
  | .tuple [a, b, c] => ok (.nx (((S.set i (.fz a)).set j (.fz b)).set k (.fz c)))
  | _ => bad
@[simp] theorem unp3K_t (i j k : Nat) (S : St) (a b c : D) : unp3K i j k S (.tuple [a, b, c]) = ok (.nx (((S.set i (.fz a)).set j (.fz b)).set k (.fz c))) := rfl
@[simp] theorem evS_unp3 {i j k : Nat} {e : CE} : evS Φ wf (.unp3 i j k e) S = (ev Φ e S).bind fun d => unp3K i j k S d := rfl
@[simp] theorem evS_par {i j : Nat} {a b : CE} : evS Φ wf (.par i j a b) S = (ev Φ a S).bind fun x => (ev Φ b S).bind fun y => ok (.nx ((S.set i (.fz x)).set j (.fz y))) := rfl
@[simp] theorem evS_aug {i : Nat} {e : CE} : evS Φ wf (.aug i e) S = (getF S i).bind fun x => (asInt x).bind fun m => (ev Φ e S).bind fun y => (asInt y).bind fun n => ok (.nx (S.set i (.fz (.int (m + n))))) := rfl
@[simp] theorem evS_app {i : Nat} {e : CE} : evS Φ wf (.app i e) S = (ownL S i).bind fun xs => (ev Φ e S).bind fun y => guard (fits xs.length) (ok (.nx (S.set i (.ow (.list (xs ++ [y])))))) := (rfl)
@[simp] theorem evS_ext {i : Nat} {e : CE} : evS Φ wf (.ext i e) S = (ownL S i).bind fun xs => (ev Φ e S).bind fun y => (asList y).bind fun ys => guard (fits (xs.length + ys.length)) (ok (.nx (S.set i (.ow (.list (xs ++ ys)))))) := (rfl)
@[simp] theorem evS_exp {e : CE} : evS Φ wf (.exp e) S = (ev Φ e S).bind fun _ => ok (.nx S) := rfl
@[simp] theorem evS_iff {c : CE} {a b : CSs} : evS Φ wf (.iff c a b) S = (ev Φ c S).bind fun x => (tru x).bind fun t => if t = true then evSs Φ wf a S else evSs Φ wf b S := rfl
def forF (Φ : Nat → List D → Out D) (wf : Nat) (tg : Tg) (b : CSs) : D → St → Out Fl := fun x S => (bindT tg x S).bind fun S2 => evSs Φ wf b S2
@[simp] theorem evS_for {tg : Tg} {it : CI} {b : CSs} : evS Φ wf (.for_ tg it b) S = (evi Φ it S).bind fun xs => forM (forF Φ wf tg b) xs S := rfl
@[simp] theorem evS_whl {c : CE} {b : CSs} : evS Φ wf (.whl c b) S = whlM (fun S => (ev Φ c S).bind tru) (fun S => evSs Φ wf b S) wf S := rfl
@[simp] theorem evS_ret {e : CE} : evS Φ wf (.ret e) S = (ev Φ e S).bind fun d => ok (.rt d) := rfl
@[simp] theorem tryM_ok (a : Fl) (f : Nat → Out Fl) : tryM (ok a) f = ok a := rfl
@[simp] theorem tryM_exc (k : Nat) (f : Nat → Out Fl) : tryM (exc k) f = f k := rfl
@[simp] theorem hnd_nil (k : Nat) : hnd [] k S = exc k := rfl
@[simp] theorem hnd_cons (j i : Nat) (d : D) (r : List (Nat × Nat × D)) (k : Nat) : hnd ((j, i, d) :: r) k S = if subX k j = true then ok (.nx (S.set i (.fz d))) else hnd r k S := (rfl)
@[simp] theorem evT_set {i : Nat} {e : CE} : evT Φ (.set i e) S = (ev Φ e S).bind fun d => ok (.nx (S.set i (.fz d))) := rfl
@[simp] theorem evT_exp {e : CE} : evT Φ (.exp e) S = (ev Φ e S).bind fun _ => ok (.nx S) := rfl
@[simp] theorem evT_iff {c : CE} {a b : TB} : evT Φ (.iff c a b) S = (ev Φ c S).bind fun x => (tru x).bind fun t => if t = true then evT Φ a S else evT Φ b S := rfl
@[simp] theorem evS_try {b : TB} {hs : List (Nat × Nat × D)} : evS Φ wf (.try_ b hs) S = tryM (evT Φ b S) fun k => hnd hs k S := rfl
@[simp] theorem evS_setd {i : Nat} {ks vs : CEs} : evS Φ wf (.setd i ks vs) S = (evs Φ ks S).bind fun xs => (evs Φ vs S).bind fun ys => (newN xs ys).bind fun d => ok (.nx (S.set i (.ow d))) := rfl
@[simp] theorem evS_setk {i : Nat} {ks : List D} {vs : CEs} : evS Φ wf (.setk i ks vs) S = (evs Φ vs S).calm.bind fun ds => (dspD ks ds).bind fun d => ok (.nx (S.set i (.ow d))) := rfl
@[simp] theorem evS_pard {i j : Nat} {k v b : CE} : evS Φ wf (.pard i j k v b) S = (ev Φ k S).bind fun x => (ev Φ v S).bind fun y => guard (tkD x) ((ev Φ b S).bind fun z => ok (.nx ((S.set i (.ow (.dict [mkD, (x, y)]))).set j (.fz z)))) := (rfl)
@[simp] theorem evS_put {i : Nat} {k v : CE} : evS Φ wf (.put i k v) S = (ev Φ v S).bind fun y => (ownA S i).bind fun d => (ev Φ k S).bind fun x => (putA d x y).bind fun d' => ok (.nx (S.set i (.ow d'))) := rfl
@[simp] theorem evS_sdf {i : Nat} {k v : CE} : evS Φ wf (.sdf i k v) S = (ownN S i).bind fun es => (ev Φ k S).bind fun x => (ev Φ v S).bind fun y => (sdfN x y es).bind fun d' => ok (.nx (S.set i (.ow d'))) := rfl
@[simp] theorem evS_setc {i : Nat} {it : CI} {tg : Tg} {t : CO} {e : CE} : evS Φ wf (.setc i it tg t e) S = (ev Φ (.lc it tg t e) S).bind fun d => ok (.nx (S.set i (.ow d))) := rfl
@[simp] theorem evS_rai {k : Nat} : evS Φ wf (.rai k) S = exc k := rfl
def frzK (i : Nat) (S : St) : Out Fl := match S[i]? with
  | some (.ow d) => ok (.nx (S.set i (.fz d)))
  | some (.fz _) => ok (.nx S)
  | _ => bad
@[simp] theorem evS_frz {i : Nat} : evS Φ wf (.frz i) S = frzK i S := rfl
def seqK (o : Out Fl) (k : St → Out Fl) : Out Fl := o.bind fun r => match r with
  | .nx S' => k S'
  | .rt d => ok (.rt d)
@[simp] theorem seqK_nx (S : St) (k : St → Out Fl) : seqK (ok (.nx S)) k = k S := rfl
@[simp] theorem seqK_rt (d : D) (k : St → Out Fl) : seqK (ok (.rt d)) k = ok (.rt d) := rfl
@[simp] theorem seqK_exc (j : Nat) (k : St → Out Fl) : seqK (exc j) k = exc j := rfl
@[simp] theorem seqK_bad (k : St → Out Fl) : seqK bad k = bad := rfl
@[simp] theorem evSs_nil : evSs Φ wf .nil S = ok (.nx S) := rfl
@[simp] theorem evSs_cons {a : CS} {as : CSs} : evSs Φ wf (.cons a as) S = seqK (evS Φ wf a S) fun S' => evSs Φ wf as S' := rfl
@[simp] theorem forM_nil (f : D → St → Out Fl) : forM f [] S = ok (.nx S) := rfl
theorem forM_cons (f : D → St → Out Fl) (x : D) (xs : List D) : forM f (x :: xs) S = seqK (f x S) fun S' => forM f xs S' := rfl
def endK (o : Out Fl) : Out D := o.bind fun r => match r with
  | .nx _ => ok .none
  | .rt d => ok d
@[simp] theorem endK_nx (S : St) : endK (ok (.nx S)) = ok .none := rfl
@[simp] theorem endK_rt (d : D) : endK (ok (.rt d)) = ok d := rfl
@[simp] theorem endK_exc (j : Nat) : endK (exc j) = exc j := rfl
theorem call_eq {tbl : Nat → Option Fn} {n f : Nat} {fn : Fn} {ds : List D} (h : tbl f = some fn) (hl : ds.length = fn.np) : call tbl wf (n + 1) f ds = endK (evSs (call tbl wf n) wf fn.body (startS fn.nn ds)) := by
  show (match tbl f with
    | some fn => runFn (call tbl wf n) wf fn ds
    | none => bad) = _
  rw [h]
  show guard (decide (ds.length = fn.np)) _ = _
  rw [decide_eq_true hl]
  rfl
end
@[simp] theorem startS_def (nn : Nat) (ds : List D) : startS nn ds = ds.map .fz ++ List.replicate (nn - ds.length) .no := rfl
@[simp] theorem frz_ow (d : D) (S : St) : frzK 0 (.ow d :: S) = ok (.nx (.fz d :: S)) := rfl
@[simp] theorem frz_fz (d : D) (S : St) : frzK 0 (.fz d :: S) = ok (.nx (.fz d :: S)) := rfl
end FL

/-! FLv1: mirrors, and the values of the first defs. -/
namespace FL
open PySem Out
/-! ### loops and lists -/
theorem lcM_map {f : D → Out (Option D)} {g : D → D} : ∀ {xs : List D}, (∀ x ∈ xs, f x = ok (some (g x))) → lcM f xs = ok (xs.map g)
  | [], _ => rfl
  | x :: xs, h => by
    have h1 := h x (List.mem_cons_self ..)
    have h2 := lcM_map (f := f) (g := g) (xs := xs) fun y hy => h y (List.mem_cons_of_mem _ hy)
    show (f x).bind _ = _
    rw [h1, bind_ok, h2]
    rfl
theorem lcM_filter {f : D → Out (Option D)} {g : D → Option D} : ∀ {xs : List D}, (∀ x ∈ xs, f x = ok (g x)) → lcM f xs = ok (xs.filterMap g)
  | [], _ => rfl
  | x :: xs, h => by
    have h1 := h x (List.mem_cons_self ..)
    have h2 := lcM_filter (f := f) (g := g) (xs := xs) fun y hy => h y (List.mem_cons_of_mem _ hy)
    show (f x).bind _ = _
    rw [h1, bind_ok, h2]
    cases e : g x <;> simp [consO, e]
/-- over a list that is a map -/
theorem lcM_mapI {α : Type} {f : D → Out (Option D)} {i : α → D} {g : α → D} {as : List α} (h : ∀ a ∈ as, f (i a) = ok (some (g a))) : lcM f (as.map i) = ok (as.map g) := by
  induction as with
  | nil => rfl
  | cons a as ih =>
    show (f (i a)).bind _ = _
    rw [h a (List.mem_cons_self ..), bind_ok, ih fun b hb => h b (List.mem_cons_of_mem _ hb)]
    rfl
theorem lcM_filterI {α : Type} {f : D → Out (Option D)} {i : α → D} {g : α → D} {p : α → Bool} {as : List α} (h : ∀ a ∈ as, f (i a) = ok (if p a = true then some (g a) else none)) : lcM f (as.map i) = ok ((as.filter p).map g) := by
  induction as with
  | nil => rfl
  | cons a as ih =>
    show (f (i a)).bind _ = _
    rw [h a (List.mem_cons_self ..), bind_ok, ih fun b hb => h b (List.mem_cons_of_mem _ hb)]
    by_cases e : p a = true <;> simp [e, consO]
theorem forM_inv {f : D → St → Out Fl} {xs : List D} {S : St} (I : List D → St → Prop) (h0 : I [] S) (hs : ∀ pre x post S, xs = pre ++ x :: post → I pre S → ∃ S', f x S = ok (.nx S') ∧ I (pre ++ [x]) S') : ∃ S', forM f xs S = ok (.nx S') ∧ I xs S' := by
  suffices h : ∀ (post pre : List D) (S : St), xs = pre ++ post → I pre S → ∃ S', forM f post S = ok (.nx S') ∧ I xs S' from h xs [] S rfl h0
  intro post
  induction post with
  | nil =>
    intro pre S e hi
    rw [List.append_nil] at e
    exact ⟨S, rfl, e ▸ hi⟩
  | cons x post ih =>
    intro pre S e hi
    obtain ⟨S1, e1, hi1⟩ := hs pre x post S e hi
    obtain ⟨S2, e2, hi2⟩ := ih (pre ++ [x]) S1 (by rw [e, List.append_assoc]; rfl) hi1
    refine ⟨S2, ?_, hi2⟩
    rw [forM_cons, e1, seqK_nx, e2]
/-- over a list that is a map, counted -/
theorem forM_invI {α : Type} {f : D → St → Out Fl} {i : α → D} {as : List α} {S : St} (I : List α → St → Prop) (h0 : I [] S) (hs : ∀ pre x post S, as = pre ++ x :: post → I pre S → ∃ S', f (i x) S = ok (.nx S') ∧ I (pre ++ [x]) S') : ∃ S', forM f (as.map i) S = ok (.nx S') ∧ I as S' := by
  suffices h : ∀ (post pre : List α) (S : St), as = pre ++ post → I pre S → ∃ S', forM f (post.map i) S = ok (.nx S') ∧ I as S' from h as [] S rfl h0
  intro post
  induction post with
  | nil =>
    intro pre S e hi
    rw [List.append_nil] at e
    exact ⟨S, rfl, e ▸ hi⟩
  | cons x post ih =>
    intro pre S e hi
    obtain ⟨S1, e1, hi1⟩ := hs pre x post S e hi
    obtain ⟨S2, e2, hi2⟩ := ih (pre ++ [x]) S1 (by rw [e, List.append_assoc]; rfl) hi1
    refine ⟨S2, ?_, hi2⟩
    rw [List.map_cons, forM_cons, e1, seqK_nx, e2]
@[simp] theorem atD_zero {α : Type} (x : α) (xs : List α) : atD (x :: xs) 0 = some x := by
  have h : (0 : Int) < ((x :: xs).length : Nat) := by simp
  simp only [atD, ixD]
  rw [if_pos (by decide), if_pos h]
  rfl
theorem atD_nat {α : Type} {xs : List α} {k : Nat} (h : k < xs.length) : atD xs (k : Int) = some xs[k] := by
  simp only [atD, ixD]
  rw [if_pos (by omega), if_pos (by omega)]
  simp [h]
@[simp] theorem atD_one {α : Type} (x y : α) (xs : List α) : atD (x :: y :: xs) 1 = some y := atD_nat (xs := x :: y :: xs) (k := 1) (by simp)
@[simp] theorem atD_two {α : Type} (x y z : α) (xs : List α) : atD (x :: y :: z :: xs) 2 = some z := atD_nat (xs := x :: y :: z :: xs) (k := 2) (by simp)
theorem atD_last {α : Type} {xs : List α} (h : xs ≠ []) : atD xs (-1) = some (xs.getLast h) := by
  have hl : 0 < xs.length := List.length_pos_iff.mpr h
  simp only [atD, ixD]
  rw [if_neg (by decide), if_pos (by omega)]
  have e : (-1 + (xs.length : Int)).toNat = xs.length - 1 := by omega
  simp only [Option.bind_some, e, List.getLast_eq_getElem]
  rw [List.getElem?_eq_getElem (by omega)]
@[simp] theorem idx_list (xs : List D) (i : Int) : idx (.list xs) (.int i) = ofOpt (atD xs i) := rfl
@[simp] theorem idx_tuple (xs : List D) (i : Int) : idx (.tuple xs) (.int i) = ofOpt (atD xs i) := rfl
@[simp] theorem slc_list (lo hi : Option Int) (xs : List D) : slc lo hi (.list xs) = ok (.list (cut xs lo hi)) := rfl
@[simp] theorem slc_tuple (lo hi : Option Int) (xs : List D) : slc lo hi (.tuple xs) = ok (.tuple (cut xs lo hi)) := rfl
theorem mulOk_small {i j : Int} (h0 : -(2 ^ 64) < j) (h : j < 2 ^ 64) : mulOk i j = true := by
  unfold mulOk
  exact decide_eq_true (Or.inr (by omega))
theorem mulOk_smallL {i j : Int} (h0 : -(2 ^ 64) < i) (h : i < 2 ^ 64) : mulOk i j = true := by
  unfold mulOk
  exact decide_eq_true (Or.inl (by omega))
theorem rngB_of {k : Nat} (h : k ≤ 1000000) : rngB (k : Int) = true := decide_eq_true (by simpa using h)
theorem fits_of {n : Nat} (h : n ≤ 1000000) : fits n = true := decide_eq_true h
@[simp] theorem cut_tail {α : Type} (xs : List α) : cut xs (some 1) none = xs.tail := by
  cases xs with
  | nil => rfl
  | cons x xs =>
    have e : (1 : Int).toNat = 1 := rfl
    simp only [cut, sIx, List.length_cons, e, if_neg (show ¬ (1 : Int) < 0 by decide)]
    have : min 1 (xs.length + 1) = 1 := by omega
    rw [this]
    simp
@[simp] theorem cut_first {α : Type} (xs : List α) : cut xs none (some 1) = xs.take 1 := by
  have e : (1 : Int).toNat = 1 := rfl
  simp only [cut, sIx, e, if_neg (show ¬ (1 : Int) < 0 by decide), List.drop_zero, Nat.sub_zero]
  cases xs with
  | nil => rfl
  | cons x xs =>
    have : min 1 (xs.length + 1) = 1 := by omega
    simp [this]
/-! ### equality of data -/
theorem eqvAll_map {α : Type} [DecidableEq α] {i : α → D} (hi : ∀ a b, PyData.eqv (i a) (i b) = decide (a = b)) : ∀ p q : List α, PyData.eqvAll (p.map i) (q.map i) = decide (p = q)
  | [], [] => rfl
  | [], _ :: _ => rfl
  | _ :: _, [] => rfl
  | a :: p, b :: q => by
    show (PyData.eqv (i a) (i b) && PyData.eqvAll (p.map i) (q.map i)) = _
    rw [hi, eqvAll_map hi p q]
    by_cases h1 : a = b <;> by_cases h2 : p = q <;> simp [h1, h2]
theorem eqv_int (a b : Int) : PyData.eqv (.int a) (.int b) = decide (a = b) := by
  show (a == b) = _
  exact Bool.beq_eq_decide_eq a b
theorem eqv_ints (p q : List Int) : PyData.eqv (.tuple (p.map .int)) (.tuple (q.map .int)) = decide (p = q) := eqvAll_map (i := PyData.int) eqv_int p q
/-- laid, and no deeper than n -/
def shN (n : Nat) (d : D) : Prop := d.canLay0 = true ∧ d.depth ≤ n
theorem shp_of {n : Nat} {d : D} (h : shN n d) (hn : n ≤ 64) : shp d = true := by
  unfold shp SeqAt.shaped
  rw [h.1, decide_eq_true (Nat.le_trans h.2 hn)]
  rfl
theorem shN_all {n : Nat} : ∀ {xs : List D}, (∀ x ∈ xs, shN n x) → PyData.canLayAll0 xs = true ∧ PyData.depthAll xs ≤ n
  | [], _ => ⟨rfl, Nat.zero_le _⟩
  | x :: xs, h => by
    have h1 := h x (List.mem_cons_self ..)
    have h2 := shN_all (n := n) (xs := xs) fun y hy => h y (List.mem_cons_of_mem _ hy)
    refine ⟨?_, ?_⟩
    · show (x.canLay0 && PyData.canLayAll0 xs) = true
      rw [h1.1, h2.1]
      rfl
    · show max x.depth (PyData.depthAll xs) ≤ n
      exact Nat.max_le.mpr ⟨h1.2, h2.2⟩
theorem shN_tuple {n : Nat} {xs : List D} (h : ∀ x ∈ xs, shN n x) : shN (n + 1) (.tuple xs) := ⟨(shN_all h).1, Nat.succ_le_succ (shN_all h).2⟩
theorem shN_list {n : Nat} {xs : List D} (h : ∀ x ∈ xs, shN n x) : shN (n + 1) (.list xs) := ⟨(shN_all h).1, Nat.succ_le_succ (shN_all h).2⟩
theorem shN_int (n : Nat) (i : Int) : shN n (.int i) := ⟨rfl, Nat.zero_le _⟩
theorem shN_bool (n : Nat) (i : Bool) : shN n (.bool i) := ⟨rfl, Nat.zero_le _⟩
theorem shN_none (n : Nat) : shN n .none := ⟨rfl, Nat.zero_le _⟩
theorem shN_str {n : Nat} {s : Str} (h : PyData.canLay0 (.str s) = true) : shN n (.str s) := ⟨h, Nat.zero_le _⟩
theorem shN_mono {n m : Nat} {d : D} (h : shN n d) (hm : n ≤ m) : shN m d := ⟨h.1, Nat.le_trans h.2 hm⟩
theorem shN_ints (n : Nat) (p : List Int) : shN (n + 1) (.tuple (p.map .int)) := shN_tuple fun x hx => by
  obtain ⟨i, _, rfl⟩ := List.mem_map.mp hx
  exact shN_int n i
@[simp] theorem shp_ints (p : List Int) : shp (.tuple (p.map .int)) = true := shp_of (shN_ints 0 p) (by decide)
@[simp] theorem cop_eqP (p q : List Int) : cop .eq (.tuple (p.map .int)) (.tuple (q.map .int)) = ok (.bool (decide (p = q))) := by
  show guard (shp _ && shp _) _ = _
  rw [shp_ints, shp_ints, eqv_ints]
  rfl
@[simp] theorem cop_neP (p q : List Int) : cop .ne (.tuple (p.map .int)) (.tuple (q.map .int)) = ok (.bool (!decide (p = q))) := by
  show guard (shp _ && shp _) _ = _
  rw [shp_ints, shp_ints, eqv_ints]
  rfl
end FL

namespace FL
open PySem Out
theorem cop_eq_of {a b : D} {r : Bool} (h : (shp a && shp b && (PyData.eqv a b == r)) = true) : cop .eq a b = ok (.bool r) := by
  simp only [Bool.and_eq_true, beq_iff_eq] at h
  show guard (shp a && shp b) (ok (PyData.bool (PyData.eqv a b))) = _
  rw [h.1.1, h.1.2, h.2]
  rfl
theorem cop_ne_of {a b : D} {r : Bool} (h : (shp a && shp b && ((!PyData.eqv a b) == r)) = true) : cop .ne a b = ok (.bool r) := by
  simp only [Bool.and_eq_true, beq_iff_eq] at h
  show guard (shp a && shp b) (ok (PyData.bool (!PyData.eqv a b))) = _
  rw [h.1.1, h.1.2, h.2]
  rfl
theorem cop_inT_of {a : D} {ys : List D} {r : Bool} (h : (flat a && ys.all flat && (anyEq a ys == r)) = true) : cop .inn a (.tuple ys) = ok (.bool r) := by
  simp only [Bool.and_eq_true, beq_iff_eq] at h
  have e : inD a (.tuple ys) = guard (flat a && ys.all flat) (ok (anyEq a ys)) := by cases a <;> rfl
  show (inD a (.tuple ys)).map PyData.bool = _
  rw [e, h.1.1, h.1.2, h.2]
  rfl
@[simp] theorem e_turn_turn : cop .eq (.str "turn") (.str "turn") = ok (.bool true) := cop_eq_of (by decide +kernel)
@[simp] theorem n_turn_turn : cop .ne (.str "turn") (.str "turn") = ok (.bool false) := cop_ne_of (by decide +kernel)
@[simp] theorem e_turn_flip : cop .eq (.str "turn") (.str "flip") = ok (.bool false) := cop_eq_of (by decide +kernel)
@[simp] theorem n_turn_flip : cop .ne (.str "turn") (.str "flip") = ok (.bool true) := cop_ne_of (by decide +kernel)
@[simp] theorem e_turn_shift : cop .eq (.str "turn") (.str "shift") = ok (.bool false) := cop_eq_of (by decide +kernel)
@[simp] theorem n_turn_shift : cop .ne (.str "turn") (.str "shift") = ok (.bool true) := cop_ne_of (by decide +kernel)
@[simp] theorem e_turn_greatest : cop .eq (.str "turn") (.str "greatest") = ok (.bool false) := cop_eq_of (by decide +kernel)
@[simp] theorem n_turn_greatest : cop .ne (.str "turn") (.str "greatest") = ok (.bool true) := cop_ne_of (by decide +kernel)
@[simp] theorem e_turn_least : cop .eq (.str "turn") (.str "least") = ok (.bool false) := cop_eq_of (by decide +kernel)
@[simp] theorem n_turn_least : cop .ne (.str "turn") (.str "least") = ok (.bool true) := cop_ne_of (by decide +kernel)
@[simp] theorem e_turn_mask : cop .eq (.str "turn") (.str "mask") = ok (.bool false) := cop_eq_of (by decide +kernel)
@[simp] theorem n_turn_mask : cop .ne (.str "turn") (.str "mask") = ok (.bool true) := cop_ne_of (by decide +kernel)
@[simp] theorem e_turn_lift : cop .eq (.str "turn") (.str "lift") = ok (.bool false) := cop_eq_of (by decide +kernel)
@[simp] theorem n_turn_lift : cop .ne (.str "turn") (.str "lift") = ok (.bool true) := cop_ne_of (by decide +kernel)
@[simp] theorem e_flip_turn : cop .eq (.str "flip") (.str "turn") = ok (.bool false) := cop_eq_of (by decide +kernel)
@[simp] theorem n_flip_turn : cop .ne (.str "flip") (.str "turn") = ok (.bool true) := cop_ne_of (by decide +kernel)
@[simp] theorem e_flip_flip : cop .eq (.str "flip") (.str "flip") = ok (.bool true) := cop_eq_of (by decide +kernel)
@[simp] theorem n_flip_flip : cop .ne (.str "flip") (.str "flip") = ok (.bool false) := cop_ne_of (by decide +kernel)
@[simp] theorem e_flip_shift : cop .eq (.str "flip") (.str "shift") = ok (.bool false) := cop_eq_of (by decide +kernel)
@[simp] theorem n_flip_shift : cop .ne (.str "flip") (.str "shift") = ok (.bool true) := cop_ne_of (by decide +kernel)
@[simp] theorem e_flip_greatest : cop .eq (.str "flip") (.str "greatest") = ok (.bool false) := cop_eq_of (by decide +kernel)
@[simp] theorem n_flip_greatest : cop .ne (.str "flip") (.str "greatest") = ok (.bool true) := cop_ne_of (by decide +kernel)
@[simp] theorem e_flip_least : cop .eq (.str "flip") (.str "least") = ok (.bool false) := cop_eq_of (by decide +kernel)
@[simp] theorem n_flip_least : cop .ne (.str "flip") (.str "least") = ok (.bool true) := cop_ne_of (by decide +kernel)
@[simp] theorem e_flip_mask : cop .eq (.str "flip") (.str "mask") = ok (.bool false) := cop_eq_of (by decide +kernel)
@[simp] theorem n_flip_mask : cop .ne (.str "flip") (.str "mask") = ok (.bool true) := cop_ne_of (by decide +kernel)
@[simp] theorem e_flip_lift : cop .eq (.str "flip") (.str "lift") = ok (.bool false) := cop_eq_of (by decide +kernel)
@[simp] theorem n_flip_lift : cop .ne (.str "flip") (.str "lift") = ok (.bool true) := cop_ne_of (by decide +kernel)
@[simp] theorem e_shift_turn : cop .eq (.str "shift") (.str "turn") = ok (.bool false) := cop_eq_of (by decide +kernel)
@[simp] theorem n_shift_turn : cop .ne (.str "shift") (.str "turn") = ok (.bool true) := cop_ne_of (by decide +kernel)
@[simp] theorem e_shift_flip : cop .eq (.str "shift") (.str "flip") = ok (.bool false) := cop_eq_of (by decide +kernel)
@[simp] theorem n_shift_flip : cop .ne (.str "shift") (.str "flip") = ok (.bool true) := cop_ne_of (by decide +kernel)
@[simp] theorem e_shift_shift : cop .eq (.str "shift") (.str "shift") = ok (.bool true) := cop_eq_of (by decide +kernel)
@[simp] theorem n_shift_shift : cop .ne (.str "shift") (.str "shift") = ok (.bool false) := cop_ne_of (by decide +kernel)
@[simp] theorem e_shift_greatest : cop .eq (.str "shift") (.str "greatest") = ok (.bool false) := cop_eq_of (by decide +kernel)
@[simp] theorem n_shift_greatest : cop .ne (.str "shift") (.str "greatest") = ok (.bool true) := cop_ne_of (by decide +kernel)
@[simp] theorem e_shift_least : cop .eq (.str "shift") (.str "least") = ok (.bool false) := cop_eq_of (by decide +kernel)
@[simp] theorem n_shift_least : cop .ne (.str "shift") (.str "least") = ok (.bool true) := cop_ne_of (by decide +kernel)
@[simp] theorem e_shift_mask : cop .eq (.str "shift") (.str "mask") = ok (.bool false) := cop_eq_of (by decide +kernel)
@[simp] theorem n_shift_mask : cop .ne (.str "shift") (.str "mask") = ok (.bool true) := cop_ne_of (by decide +kernel)
@[simp] theorem e_shift_lift : cop .eq (.str "shift") (.str "lift") = ok (.bool false) := cop_eq_of (by decide +kernel)
@[simp] theorem n_shift_lift : cop .ne (.str "shift") (.str "lift") = ok (.bool true) := cop_ne_of (by decide +kernel)
@[simp] theorem e_greatest_turn : cop .eq (.str "greatest") (.str "turn") = ok (.bool false) := cop_eq_of (by decide +kernel)
@[simp] theorem n_greatest_turn : cop .ne (.str "greatest") (.str "turn") = ok (.bool true) := cop_ne_of (by decide +kernel)
@[simp] theorem e_greatest_flip : cop .eq (.str "greatest") (.str "flip") = ok (.bool false) := cop_eq_of (by decide +kernel)
@[simp] theorem n_greatest_flip : cop .ne (.str "greatest") (.str "flip") = ok (.bool true) := cop_ne_of (by decide +kernel)
@[simp] theorem e_greatest_shift : cop .eq (.str "greatest") (.str "shift") = ok (.bool false) := cop_eq_of (by decide +kernel)
@[simp] theorem n_greatest_shift : cop .ne (.str "greatest") (.str "shift") = ok (.bool true) := cop_ne_of (by decide +kernel)
@[simp] theorem e_greatest_greatest : cop .eq (.str "greatest") (.str "greatest") = ok (.bool true) := cop_eq_of (by decide +kernel)
@[simp] theorem n_greatest_greatest : cop .ne (.str "greatest") (.str "greatest") = ok (.bool false) := cop_ne_of (by decide +kernel)
@[simp] theorem e_greatest_least : cop .eq (.str "greatest") (.str "least") = ok (.bool false) := cop_eq_of (by decide +kernel)
@[simp] theorem n_greatest_least : cop .ne (.str "greatest") (.str "least") = ok (.bool true) := cop_ne_of (by decide +kernel)
@[simp] theorem e_greatest_mask : cop .eq (.str "greatest") (.str "mask") = ok (.bool false) := cop_eq_of (by decide +kernel)
@[simp] theorem n_greatest_mask : cop .ne (.str "greatest") (.str "mask") = ok (.bool true) := cop_ne_of (by decide +kernel)
@[simp] theorem e_greatest_lift : cop .eq (.str "greatest") (.str "lift") = ok (.bool false) := cop_eq_of (by decide +kernel)
@[simp] theorem n_greatest_lift : cop .ne (.str "greatest") (.str "lift") = ok (.bool true) := cop_ne_of (by decide +kernel)
@[simp] theorem e_least_turn : cop .eq (.str "least") (.str "turn") = ok (.bool false) := cop_eq_of (by decide +kernel)
@[simp] theorem n_least_turn : cop .ne (.str "least") (.str "turn") = ok (.bool true) := cop_ne_of (by decide +kernel)
@[simp] theorem e_least_flip : cop .eq (.str "least") (.str "flip") = ok (.bool false) := cop_eq_of (by decide +kernel)
@[simp] theorem n_least_flip : cop .ne (.str "least") (.str "flip") = ok (.bool true) := cop_ne_of (by decide +kernel)
@[simp] theorem e_least_shift : cop .eq (.str "least") (.str "shift") = ok (.bool false) := cop_eq_of (by decide +kernel)
@[simp] theorem n_least_shift : cop .ne (.str "least") (.str "shift") = ok (.bool true) := cop_ne_of (by decide +kernel)
@[simp] theorem e_least_greatest : cop .eq (.str "least") (.str "greatest") = ok (.bool false) := cop_eq_of (by decide +kernel)
@[simp] theorem n_least_greatest : cop .ne (.str "least") (.str "greatest") = ok (.bool true) := cop_ne_of (by decide +kernel)
@[simp] theorem e_least_least : cop .eq (.str "least") (.str "least") = ok (.bool true) := cop_eq_of (by decide +kernel)
@[simp] theorem n_least_least : cop .ne (.str "least") (.str "least") = ok (.bool false) := cop_ne_of (by decide +kernel)
@[simp] theorem e_least_mask : cop .eq (.str "least") (.str "mask") = ok (.bool false) := cop_eq_of (by decide +kernel)
@[simp] theorem n_least_mask : cop .ne (.str "least") (.str "mask") = ok (.bool true) := cop_ne_of (by decide +kernel)
@[simp] theorem e_least_lift : cop .eq (.str "least") (.str "lift") = ok (.bool false) := cop_eq_of (by decide +kernel)
@[simp] theorem n_least_lift : cop .ne (.str "least") (.str "lift") = ok (.bool true) := cop_ne_of (by decide +kernel)
@[simp] theorem e_mask_turn : cop .eq (.str "mask") (.str "turn") = ok (.bool false) := cop_eq_of (by decide +kernel)
@[simp] theorem n_mask_turn : cop .ne (.str "mask") (.str "turn") = ok (.bool true) := cop_ne_of (by decide +kernel)
@[simp] theorem e_mask_flip : cop .eq (.str "mask") (.str "flip") = ok (.bool false) := cop_eq_of (by decide +kernel)
@[simp] theorem n_mask_flip : cop .ne (.str "mask") (.str "flip") = ok (.bool true) := cop_ne_of (by decide +kernel)
@[simp] theorem e_mask_shift : cop .eq (.str "mask") (.str "shift") = ok (.bool false) := cop_eq_of (by decide +kernel)
@[simp] theorem n_mask_shift : cop .ne (.str "mask") (.str "shift") = ok (.bool true) := cop_ne_of (by decide +kernel)
@[simp] theorem e_mask_greatest : cop .eq (.str "mask") (.str "greatest") = ok (.bool false) := cop_eq_of (by decide +kernel)
@[simp] theorem n_mask_greatest : cop .ne (.str "mask") (.str "greatest") = ok (.bool true) := cop_ne_of (by decide +kernel)
@[simp] theorem e_mask_least : cop .eq (.str "mask") (.str "least") = ok (.bool false) := cop_eq_of (by decide +kernel)
@[simp] theorem n_mask_least : cop .ne (.str "mask") (.str "least") = ok (.bool true) := cop_ne_of (by decide +kernel)
@[simp] theorem e_mask_mask : cop .eq (.str "mask") (.str "mask") = ok (.bool true) := cop_eq_of (by decide +kernel)
@[simp] theorem n_mask_mask : cop .ne (.str "mask") (.str "mask") = ok (.bool false) := cop_ne_of (by decide +kernel)
@[simp] theorem e_mask_lift : cop .eq (.str "mask") (.str "lift") = ok (.bool false) := cop_eq_of (by decide +kernel)
@[simp] theorem n_mask_lift : cop .ne (.str "mask") (.str "lift") = ok (.bool true) := cop_ne_of (by decide +kernel)
@[simp] theorem e_lift_turn : cop .eq (.str "lift") (.str "turn") = ok (.bool false) := cop_eq_of (by decide +kernel)
@[simp] theorem n_lift_turn : cop .ne (.str "lift") (.str "turn") = ok (.bool true) := cop_ne_of (by decide +kernel)
@[simp] theorem e_lift_flip : cop .eq (.str "lift") (.str "flip") = ok (.bool false) := cop_eq_of (by decide +kernel)
@[simp] theorem n_lift_flip : cop .ne (.str "lift") (.str "flip") = ok (.bool true) := cop_ne_of (by decide +kernel)
@[simp] theorem e_lift_shift : cop .eq (.str "lift") (.str "shift") = ok (.bool false) := cop_eq_of (by decide +kernel)
@[simp] theorem n_lift_shift : cop .ne (.str "lift") (.str "shift") = ok (.bool true) := cop_ne_of (by decide +kernel)
@[simp] theorem e_lift_greatest : cop .eq (.str "lift") (.str "greatest") = ok (.bool false) := cop_eq_of (by decide +kernel)
@[simp] theorem n_lift_greatest : cop .ne (.str "lift") (.str "greatest") = ok (.bool true) := cop_ne_of (by decide +kernel)
@[simp] theorem e_lift_least : cop .eq (.str "lift") (.str "least") = ok (.bool false) := cop_eq_of (by decide +kernel)
@[simp] theorem n_lift_least : cop .ne (.str "lift") (.str "least") = ok (.bool true) := cop_ne_of (by decide +kernel)
@[simp] theorem e_lift_mask : cop .eq (.str "lift") (.str "mask") = ok (.bool false) := cop_eq_of (by decide +kernel)
@[simp] theorem n_lift_mask : cop .ne (.str "lift") (.str "mask") = ok (.bool true) := cop_ne_of (by decide +kernel)
@[simp] theorem e_lift_lift : cop .eq (.str "lift") (.str "lift") = ok (.bool true) := cop_eq_of (by decide +kernel)
@[simp] theorem n_lift_lift : cop .ne (.str "lift") (.str "lift") = ok (.bool false) := cop_ne_of (by decide +kernel)
@[simp] theorem e_across_across : cop .eq (.str "across") (.str "across") = ok (.bool true) := cop_eq_of (by decide +kernel)
@[simp] theorem n_across_across : cop .ne (.str "across") (.str "across") = ok (.bool false) := cop_ne_of (by decide +kernel)
@[simp] theorem e_across_down : cop .eq (.str "across") (.str "down") = ok (.bool false) := cop_eq_of (by decide +kernel)
@[simp] theorem n_across_down : cop .ne (.str "across") (.str "down") = ok (.bool true) := cop_ne_of (by decide +kernel)
@[simp] theorem e_down_across : cop .eq (.str "down") (.str "across") = ok (.bool false) := cop_eq_of (by decide +kernel)
@[simp] theorem n_down_across : cop .ne (.str "down") (.str "across") = ok (.bool true) := cop_ne_of (by decide +kernel)
@[simp] theorem e_down_down : cop .eq (.str "down") (.str "down") = ok (.bool true) := cop_eq_of (by decide +kernel)
@[simp] theorem n_down_down : cop .ne (.str "down") (.str "down") = ok (.bool false) := cop_ne_of (by decide +kernel)
@[simp] theorem i_turn_shift_flip : cop .inn (.str "turn") (.tuple [.str "shift", .str "flip"]) = ok (.bool false) := cop_inT_of (by decide +kernel)
@[simp] theorem i_flip_shift_flip : cop .inn (.str "flip") (.tuple [.str "shift", .str "flip"]) = ok (.bool true) := cop_inT_of (by decide +kernel)
@[simp] theorem i_shift_shift_flip : cop .inn (.str "shift") (.tuple [.str "shift", .str "flip"]) = ok (.bool true) := cop_inT_of (by decide +kernel)
@[simp] theorem i_greatest_shift_flip : cop .inn (.str "greatest") (.tuple [.str "shift", .str "flip"]) = ok (.bool false) := cop_inT_of (by decide +kernel)
@[simp] theorem i_least_shift_flip : cop .inn (.str "least") (.tuple [.str "shift", .str "flip"]) = ok (.bool false) := cop_inT_of (by decide +kernel)
@[simp] theorem i_mask_shift_flip : cop .inn (.str "mask") (.tuple [.str "shift", .str "flip"]) = ok (.bool false) := cop_inT_of (by decide +kernel)
@[simp] theorem i_lift_shift_flip : cop .inn (.str "lift") (.tuple [.str "shift", .str "flip"]) = ok (.bool false) := cop_inT_of (by decide +kernel)
@[simp] theorem i_turn_greatest_least : cop .inn (.str "turn") (.tuple [.str "greatest", .str "least"]) = ok (.bool false) := cop_inT_of (by decide +kernel)
@[simp] theorem i_flip_greatest_least : cop .inn (.str "flip") (.tuple [.str "greatest", .str "least"]) = ok (.bool false) := cop_inT_of (by decide +kernel)
@[simp] theorem i_shift_greatest_least : cop .inn (.str "shift") (.tuple [.str "greatest", .str "least"]) = ok (.bool false) := cop_inT_of (by decide +kernel)
@[simp] theorem i_greatest_greatest_least : cop .inn (.str "greatest") (.tuple [.str "greatest", .str "least"]) = ok (.bool true) := cop_inT_of (by decide +kernel)
@[simp] theorem i_least_greatest_least : cop .inn (.str "least") (.tuple [.str "greatest", .str "least"]) = ok (.bool true) := cop_inT_of (by decide +kernel)
@[simp] theorem i_mask_greatest_least : cop .inn (.str "mask") (.tuple [.str "greatest", .str "least"]) = ok (.bool false) := cop_inT_of (by decide +kernel)
@[simp] theorem i_lift_greatest_least : cop .inn (.str "lift") (.tuple [.str "greatest", .str "least"]) = ok (.bool false) := cop_inT_of (by decide +kernel)
@[simp] theorem i_turn_mask_lift : cop .inn (.str "turn") (.tuple [.str "mask", .str "lift"]) = ok (.bool false) := cop_inT_of (by decide +kernel)
@[simp] theorem i_flip_mask_lift : cop .inn (.str "flip") (.tuple [.str "mask", .str "lift"]) = ok (.bool false) := cop_inT_of (by decide +kernel)
@[simp] theorem i_shift_mask_lift : cop .inn (.str "shift") (.tuple [.str "mask", .str "lift"]) = ok (.bool false) := cop_inT_of (by decide +kernel)
@[simp] theorem i_greatest_mask_lift : cop .inn (.str "greatest") (.tuple [.str "mask", .str "lift"]) = ok (.bool false) := cop_inT_of (by decide +kernel)
@[simp] theorem i_least_mask_lift : cop .inn (.str "least") (.tuple [.str "mask", .str "lift"]) = ok (.bool false) := cop_inT_of (by decide +kernel)
@[simp] theorem i_mask_mask_lift : cop .inn (.str "mask") (.tuple [.str "mask", .str "lift"]) = ok (.bool true) := cop_inT_of (by decide +kernel)
@[simp] theorem i_lift_mask_lift : cop .inn (.str "lift") (.tuple [.str "mask", .str "lift"]) = ok (.bool true) := cop_inT_of (by decide +kernel)
@[simp] theorem i_turn_greatest_least_mask_lift : cop .inn (.str "turn") (.tuple [.str "greatest", .str "least", .str "mask", .str "lift"]) = ok (.bool false) := cop_inT_of (by decide +kernel)
@[simp] theorem i_flip_greatest_least_mask_lift : cop .inn (.str "flip") (.tuple [.str "greatest", .str "least", .str "mask", .str "lift"]) = ok (.bool false) := cop_inT_of (by decide +kernel)
@[simp] theorem i_shift_greatest_least_mask_lift : cop .inn (.str "shift") (.tuple [.str "greatest", .str "least", .str "mask", .str "lift"]) = ok (.bool false) := cop_inT_of (by decide +kernel)
@[simp] theorem i_greatest_greatest_least_mask_lift : cop .inn (.str "greatest") (.tuple [.str "greatest", .str "least", .str "mask", .str "lift"]) = ok (.bool true) := cop_inT_of (by decide +kernel)
@[simp] theorem i_least_greatest_least_mask_lift : cop .inn (.str "least") (.tuple [.str "greatest", .str "least", .str "mask", .str "lift"]) = ok (.bool true) := cop_inT_of (by decide +kernel)
@[simp] theorem i_mask_greatest_least_mask_lift : cop .inn (.str "mask") (.tuple [.str "greatest", .str "least", .str "mask", .str "lift"]) = ok (.bool true) := cop_inT_of (by decide +kernel)
@[simp] theorem i_lift_greatest_least_mask_lift : cop .inn (.str "lift") (.tuple [.str "greatest", .str "least", .str "mask", .str "lift"]) = ok (.bool true) := cop_inT_of (by decide +kernel)
@[simp] theorem i_turn_turn_flip_shift : cop .inn (.str "turn") (.tuple [.str "turn", .str "flip", .str "shift"]) = ok (.bool true) := cop_inT_of (by decide +kernel)
@[simp] theorem i_flip_turn_flip_shift : cop .inn (.str "flip") (.tuple [.str "turn", .str "flip", .str "shift"]) = ok (.bool true) := cop_inT_of (by decide +kernel)
@[simp] theorem i_shift_turn_flip_shift : cop .inn (.str "shift") (.tuple [.str "turn", .str "flip", .str "shift"]) = ok (.bool true) := cop_inT_of (by decide +kernel)
@[simp] theorem i_greatest_turn_flip_shift : cop .inn (.str "greatest") (.tuple [.str "turn", .str "flip", .str "shift"]) = ok (.bool false) := cop_inT_of (by decide +kernel)
@[simp] theorem i_least_turn_flip_shift : cop .inn (.str "least") (.tuple [.str "turn", .str "flip", .str "shift"]) = ok (.bool false) := cop_inT_of (by decide +kernel)
@[simp] theorem i_mask_turn_flip_shift : cop .inn (.str "mask") (.tuple [.str "turn", .str "flip", .str "shift"]) = ok (.bool false) := cop_inT_of (by decide +kernel)
@[simp] theorem i_lift_turn_flip_shift : cop .inn (.str "lift") (.tuple [.str "turn", .str "flip", .str "shift"]) = ok (.bool false) := cop_inT_of (by decide +kernel)
@[simp] theorem i_turn_flip_shift_turn : cop .inn (.str "turn") (.tuple [.str "flip", .str "shift", .str "turn"]) = ok (.bool true) := cop_inT_of (by decide +kernel)
@[simp] theorem i_flip_flip_shift_turn : cop .inn (.str "flip") (.tuple [.str "flip", .str "shift", .str "turn"]) = ok (.bool true) := cop_inT_of (by decide +kernel)
@[simp] theorem i_shift_flip_shift_turn : cop .inn (.str "shift") (.tuple [.str "flip", .str "shift", .str "turn"]) = ok (.bool true) := cop_inT_of (by decide +kernel)
@[simp] theorem i_greatest_flip_shift_turn : cop .inn (.str "greatest") (.tuple [.str "flip", .str "shift", .str "turn"]) = ok (.bool false) := cop_inT_of (by decide +kernel)
@[simp] theorem i_least_flip_shift_turn : cop .inn (.str "least") (.tuple [.str "flip", .str "shift", .str "turn"]) = ok (.bool false) := cop_inT_of (by decide +kernel)
@[simp] theorem i_mask_flip_shift_turn : cop .inn (.str "mask") (.tuple [.str "flip", .str "shift", .str "turn"]) = ok (.bool false) := cop_inT_of (by decide +kernel)
@[simp] theorem i_lift_flip_shift_turn : cop .inn (.str "lift") (.tuple [.str "flip", .str "shift", .str "turn"]) = ok (.bool false) := cop_inT_of (by decide +kernel)
@[simp] theorem i_turn_turn_shift_flip : cop .inn (.str "turn") (.tuple [.str "turn", .str "shift", .str "flip"]) = ok (.bool true) := cop_inT_of (by decide +kernel)
@[simp] theorem i_flip_turn_shift_flip : cop .inn (.str "flip") (.tuple [.str "turn", .str "shift", .str "flip"]) = ok (.bool true) := cop_inT_of (by decide +kernel)
@[simp] theorem i_shift_turn_shift_flip : cop .inn (.str "shift") (.tuple [.str "turn", .str "shift", .str "flip"]) = ok (.bool true) := cop_inT_of (by decide +kernel)
@[simp] theorem i_greatest_turn_shift_flip : cop .inn (.str "greatest") (.tuple [.str "turn", .str "shift", .str "flip"]) = ok (.bool false) := cop_inT_of (by decide +kernel)
@[simp] theorem i_least_turn_shift_flip : cop .inn (.str "least") (.tuple [.str "turn", .str "shift", .str "flip"]) = ok (.bool false) := cop_inT_of (by decide +kernel)
@[simp] theorem i_mask_turn_shift_flip : cop .inn (.str "mask") (.tuple [.str "turn", .str "shift", .str "flip"]) = ok (.bool false) := cop_inT_of (by decide +kernel)
@[simp] theorem i_lift_turn_shift_flip : cop .inn (.str "lift") (.tuple [.str "turn", .str "shift", .str "flip"]) = ok (.bool false) := cop_inT_of (by decide +kernel)
@[simp] theorem i_across_sides : cop .inn (.str "across") (.tuple [.str "across", .str "down"]) = ok (.bool true) := cop_inT_of (by decide +kernel)
@[simp] theorem i_down_sides : cop .inn (.str "down") (.tuple [.str "across", .str "down"]) = ok (.bool true) := cop_inT_of (by decide +kernel)
end FL

set_option maxRecDepth 20000
/-! FLv2: worlds, deeds, pictures; what the looks say of good ones. -/
namespace FL
open PySem Out
structure Wd where
  w : Nat
  h : Nat
  t : Nat
deriving DecidableEq
def Wd.D (W : Wd) : D := .tuple [.int W.w, .int W.h, .int W.t]
def Wd.n (W : Wd) : Nat := W.w * W.h
/-- all worlds -/
def worlds : List Wd := [⟨1, 1, 3⟩, ⟨2, 1, 3⟩, ⟨3, 1, 3⟩, ⟨1, 2, 3⟩, ⟨2, 2, 3⟩, ⟨2, 2, 1⟩, ⟨3, 2, 1⟩, ⟨3, 1, 2⟩, ⟨2, 1, 1⟩, ⟨3, 1, 1⟩, ⟨1, 2, 1⟩, ⟨1, 2, 2⟩, ⟨2, 1, 2⟩, ⟨1, 1, 2⟩, ⟨2, 2, 2⟩, ⟨1, 1, 1⟩]
def Wd.Ok (W : Wd) : Prop := W ∈ worlds
structure Wd.In (W : Wd) : Prop where
  w1 : 1 ≤ W.w
  w3 : W.w ≤ 3
  h1 : 1 ≤ W.h
  h2 : W.h ≤ 2
  t1 : 1 ≤ W.t
  t3 : W.t ≤ 3
  n1 : 1 ≤ W.n
  n6 : W.n ≤ 6
  m : (W.t + 1) ^ W.n ≤ 256
theorem Wd.Ok.in {W : Wd} (h : W.Ok) : W.In := by
  have : ∀ W ∈ worlds, (1 ≤ W.w ∧ W.w ≤ 3) ∧ (1 ≤ W.h ∧ W.h ≤ 2) ∧ (1 ≤ W.t ∧ W.t ≤ 3) ∧ (1 ≤ W.n ∧ W.n ≤ 6) ∧ (W.t + 1) ^ W.n ≤ 256 := by decide
  obtain ⟨⟨a, b⟩, ⟨c, d⟩, ⟨e, f⟩, ⟨g, i⟩, j⟩ := this W h
  exact ⟨a, b, c, d, e, f, g, i, j⟩
def stepD (s : Nat × Nat) : D := .tuple [.int s.1, .int s.2]
inductive Deed where
  | turn
  | flip (a : Bool)
  | shift (a b : Nat)
  | great (v : List (Nat × Nat))
  | least (v : List (Nat × Nat))
  | mask (c : List Nat)
  | lift (c : List Nat)
deriving DecidableEq
def natsD (c : List Nat) : D := .tuple (c.map fun k => .int (k : Nat))
def sideD : Bool → D
  | true => .str "across"
  | false => .str "down"
def Deed.D : Deed → D
  | .turn => .tuple [.str "turn"]
  | .flip a => .tuple [.str "flip", sideD a]
  | .shift a b => .tuple [.str "shift", .int a, .int b]
  | .great v => .tuple [.str "greatest", .tuple (v.map stepD)]
  | .least v => .tuple [.str "least", .tuple (v.map stepD)]
  | .mask c => .tuple [.str "mask", natsD c]
  | .lift c => .tuple [.str "lift", natsD c]
def stepLt (s u : Nat × Nat) : Prop := s.1 < u.1 ∨ (s.1 = u.1 ∧ s.2 < u.2)
instance (s u : Nat × Nat) : Decidable (stepLt s u) := by unfold stepLt; infer_instance
def winOk (W : Wd) (v : List (Nat × Nat)) : Prop := v ≠ [] ∧ (∀ s ∈ v, s.1 < W.w ∧ s.2 < W.h) ∧ v.Pairwise stepLt
def cellsOk (W : Wd) (c : List Nat) : Prop := (∀ k ∈ c, k < W.n) ∧ c.Pairwise (· < ·)
def Deed.Ok (W : Wd) : Deed → Prop
  | .turn => True
  | .flip _ => True
  | .shift a b => a < W.w ∧ b < W.h
  | .great v => winOk W v
  | .least v => winOk W v
  | .mask c => cellsOk W c
  | .lift c => cellsOk W c
def rowD (r : List Deed) : D := .tuple (r.map Deed.D)
def RowOk (W : Wd) (r : List Deed) : Prop := ∀ d ∈ r, d.Ok W
abbrev Pic := List Int
def picD (p : Pic) : D := .tuple (p.map .int)
def PicOk (W : Wd) (p : Pic) : Prop := p.length = W.n ∧ ∀ x ∈ p, 0 ≤ x ∧ x ≤ (W.t : Int)
variable {L : Fn} {wf n : Nat} {W : Wd}
theorem v_is_within (x lo hi : Int) : call (tblL L) wf (n + 1) 78 [.int x, .int lo, .int hi] = ok (.bool (decide (lo ≤ x ∧ x ≤ hi))) := by
  rw [call_eq tc_is_within rfl]
  simp [c_is_within]
  by_cases h1 : lo ≤ x <;> by_cases h2 : x ≤ hi <;> simp [h1, h2]
theorem v_is_world (hW : W.Ok) : call (tblL L) wf (n + 2) 79 [W.D] = ok (.bool true) := by
  have h : ∀ W ∈ worlds, call (tblL L) wf (n + 2) 79 [W.D] = ok (.bool true) := by
    unfold worlds
    simp only [List.forall_mem_cons, List.not_mem_nil, false_implies, implies_true, and_true]
    exact ⟨by kernel_rfl, by kernel_rfl, by kernel_rfl, by kernel_rfl, by kernel_rfl, by kernel_rfl, by kernel_rfl, by kernel_rfl, by kernel_rfl, by kernel_rfl, by kernel_rfl, by kernel_rfl, by kernel_rfl, by kernel_rfl, by kernel_rfl, by kernel_rfl⟩
  exact h W hW
theorem v_look (hW : W.Ok) : call (tblL L) wf (n + 3) 82 [W.D] = ok .none := by
  refine (call_eq (n := n + 2) tc_look rfl).trans ?_
  have h := v_is_world (L := L) (wf := wf) (n := n) hW
  obtain ⟨Φ, hΦ⟩ : ∃ Φ, Φ = call (tblL L) wf (n + 2) := ⟨_, rfl⟩
  rw [← hΦ] at h ⊢
  clear hΦ
  simp [c_look, h]
theorem lcM_none {f : D → Out (Option D)} {xs : List D} (h : ∀ x ∈ xs, f x = ok none) : lcM f xs = ok [] := by
  rw [lcM_filter (g := fun _ => none) h]
  simp
theorem mul_ok (hW : W.Ok) : mulOk W.w W.h = true := by
  have i := hW.in
  exact mulOk_small (by have := i.h1; omega) (by have := i.h2; omega)
theorem v_is_picture (hW : W.Ok) {p : Pic} (hp : PicOk W p) : call (tblL L) wf (n + 2) 73 [W.D, picD p] = ok (.bool true) := by
  refine (call_eq (n := n + 1) tc_is_picture rfl).trans ?_
  have hm := mul_ok hW
  have hl : (p.length : Int) = W.w * W.h := by
    rw [hp.1]
    simp [Wd.n]
  have h := fun x lo hi => v_is_within (L := L) (wf := wf) (n := n) x lo hi
  obtain ⟨Φ, hΦ⟩ : ∃ Φ, Φ = call (tblL L) wf (n + 1) := ⟨_, rfl⟩
  rw [← hΦ] at h ⊢
  clear hΦ
  have e := lcM_none (f := lcF Φ (.one 2) (.so (.not (.call 78 (.cons (.var 2) (.cons (.con (.int 0)) (.cons (.idx (.var 0) (.con (.int 2))) .nil)))))) (.var 2) [.fz W.D, .fz (picD p), .no]) (xs := p.map .int) (by
    intro x hx
    obtain ⟨j, hj, rfl⟩ := List.mem_map.mp hx
    have := hp.2 j hj
    simp [lcF, Wd.D, h, this.1, this.2])
  simp [c_is_picture, Wd.D, picD, hm, hl] at e ⊢
  rw [e]
  simp
theorem v_look_picture (hW : W.Ok) {p : Pic} (hp : PicOk W p) : call (tblL L) wf (n + 3) 86 [W.D, picD p] = ok .none := by
  refine (call_eq (n := n + 2) tc_look_picture rfl).trans ?_
  have h := v_is_picture (L := L) (wf := wf) (n := n) hW hp
  obtain ⟨Φ, hΦ⟩ : ∃ Φ, Φ = call (tblL L) wf (n + 2) := ⟨_, rfl⟩
  rw [← hΦ] at h ⊢
  clear hΦ
  simp [c_look_picture, h]
theorem v_is_step (hW : W.Ok) {a b : Nat} (ha : a < W.w) (hb : b < W.h) : call (tblL L) wf (n + 2) 75 [W.D, .tuple [.int a, .int b]] = ok (.bool true) := by
  refine (call_eq (n := n + 1) tc_is_step rfl).trans ?_
  have h1 : (a : Int) ≤ W.w - 1 := by omega
  have h2 : (b : Int) ≤ W.h - 1 := by omega
  have h := fun x lo hi => v_is_within (L := L) (wf := wf) (n := n) x lo hi
  obtain ⟨Φ, hΦ⟩ : ∃ Φ, Φ = call (tblL L) wf (n + 1) := ⟨_, rfl⟩
  rw [← hΦ] at h ⊢
  clear hΦ
  simp [c_is_step, Wd.D, h, h1, h2]
/-! ### rising rows -/
def risesB (ge : D → D → Bool) : List D → Bool
  | x :: y :: r => !ge x y && risesB ge (y :: r)
  | _ => true
theorem zip_mem : ∀ (xs ys : List D) (z : D), z ∈ zipD xs ys → ∃ x ∈ xs, ∃ y ∈ ys, z = .tuple [x, y]
  | [], _, _, h => by simp [zipD] at h
  | _ :: _, [], _, h => by simp [zipD] at h
  | x :: xs, y :: ys, z, h => by
    simp only [zipD, List.mem_cons] at h
    rcases h with rfl | h
    · exact ⟨x, by simp, y, by simp, rfl⟩
    · obtain ⟨a, ha, b, hb, e⟩ := zip_mem xs ys z h
      exact ⟨a, by simp [ha], b, by simp [hb], e⟩
theorem rises_pair {α : Type} {lt : α → α → Prop} {i : α → D} {ge : D → D → Bool} (hg : ∀ a b, lt a b → ge (i a) (i b) = false) : ∀ {as : List α}, as.Pairwise lt → risesB ge (as.map i) = true
  | [], _ => rfl
  | [_], _ => rfl
  | a :: b :: r, h => by
    have h1 := (List.pairwise_cons.mp h).1 b (by simp)
    have h2 := rises_pair hg (List.pairwise_cons.mp h).2
    show (!ge (i a) (i b) && risesB ge ((b :: r).map i)) = true
    rw [hg a b h1, h2]
    rfl
def geK (ge : D → D → Bool) : D → Option D
  | .tuple [x, y] => if ge x y = true then some (.int 1) else none
  | _ => none
theorem rises_filter {ge : D → D → Bool} : ∀ xs : List D, risesB ge xs = true → (zipD xs xs.tail).filterMap (geK ge) = []
  | [], _ => rfl
  | [_], _ => rfl
  | x :: y :: r, h => by
    simp only [risesB, Bool.and_eq_true, Bool.not_eq_true'] at h
    have := rises_filter (y :: r) h.2
    simp only [List.tail_cons, zipD] at this ⊢
    simp [List.filterMap_cons, geK, h.1, this]
theorem v_rises {xs : List D} {ge : D → D → Bool} (hg : ∀ x ∈ xs, ∀ y ∈ xs, cop .ge x y = ok (.bool (ge x y))) (hr : risesB ge xs = true) : call (tblL L) wf (n + 1) 101 [.tuple xs] = ok (.bool true) := by
  refine (call_eq (n := n) tc_rises rfl).trans ?_
  obtain ⟨Φ, hΦ⟩ : ∃ Φ, Φ = call (tblL L) wf n := ⟨_, rfl⟩
  rw [← hΦ]
  clear hΦ
  have e := lcM_filter (f := lcF Φ (.two 1 2) (.so (.cmp .ge (.var 1) (.var 2))) (.con (.int 1)) [.fz (.tuple xs), .no, .no]) (g := geK ge) (xs := zipD xs xs.tail) (by
    intro z hz
    obtain ⟨x, hx, y, hy, rfl⟩ := zip_mem _ _ _ hz
    have h := hg x hx y (List.mem_of_mem_tail hy)
    by_cases g : ge x y = true <;> simp [lcF, h, g, geK])
  rw [rises_filter xs hr] at e
  have z : zipI (.tuple xs) (.tuple xs.tail) = ok (zipD xs xs.tail) := rfl
  simp [c_rises, z] at e ⊢
  rw [e]
  simp
def geI : D → D → Bool
  | .int i, .int j => decide (j ≤ i)
  | a, b => !PySem.W.dataLt a b
theorem ge_int (a b : Int) : cop .ge (.int a) (.int b) = ok (.bool (geI (.int a) (.int b))) := rfl
theorem ge_step : ((List.range 3).all fun a => (List.range 2).all fun b => (List.range 3).all fun c => (List.range 2).all fun d => ordOk (stepD (a, b)) (stepD (c, d)) && (PySem.W.dataLt (stepD (a, b)) (stepD (c, d)) == decide (stepLt (a, b) (c, d)))) = true := by decide +kernel
theorem ge_stepD {s u : Nat × Nat} (h1 : s.1 < 3) (h2 : s.2 < 2) (h3 : u.1 < 3) (h4 : u.2 < 2) : cop .ge (stepD s) (stepD u) = ok (.bool (geI (stepD s) (stepD u))) ∧ geI (stepD s) (stepD u) = !decide (stepLt s u) := by
  have h := ge_step
  simp only [List.all_eq_true, List.mem_range, Bool.and_eq_true, beq_iff_eq] at h
  have g := h s.1 h1 s.2 h2 u.1 h3 u.2 h4
  refine ⟨?_, ?_⟩
  · show guard (ordOk (stepD s) (stepD u)) _ = _
    rw [g.1]
    rfl
  · show (!PySem.W.dataLt (stepD s) (stepD u)) = _
    rw [g.2]
theorem v_is_window (hW : W.Ok) {v : List (Nat × Nat)} (hv : winOk W v) : call (tblL L) wf (n + 3) 77 [W.D, .tuple (v.map stepD)] = ok (.bool true) := by
  refine (call_eq (n := n + 2) tc_is_window rfl).trans ?_
  have i := hW.in
  have h3 : ∀ s ∈ v, s.1 < 3 ∧ s.2 < 2 := fun s hs => by
    have := hv.2.1 s hs
    have := i.w3
    have := i.h2
    omega
  have h := fun (a b : Nat) ha hb => v_is_step (L := L) (wf := wf) (n := n) hW (a := a) (b := b) ha hb
  have hr := v_rises (L := L) (wf := wf) (n := n + 1) (xs := v.map stepD) (ge := geI) (by
    intro x hx y hy
    obtain ⟨s, hs, rfl⟩ := List.mem_map.mp hx
    obtain ⟨u, hu, rfl⟩ := List.mem_map.mp hy
    exact (ge_stepD (h3 s hs).1 (h3 s hs).2 (h3 u hu).1 (h3 u hu).2).1) (by
    have hp : v.Pairwise (fun s u => stepLt s u ∧ s ∈ v ∧ u ∈ v) := by
      refine List.Pairwise.imp_of_mem (fun {a b} ha hb h => ⟨h, ha, hb⟩) hv.2.2
    refine rises_pair (lt := fun s u => stepLt s u ∧ s ∈ v ∧ u ∈ v) (fun a b hab => ?_) hp
    rw [(ge_stepD (h3 a hab.2.1).1 (h3 a hab.2.1).2 (h3 b hab.2.2).1 (h3 b hab.2.2).2).2, decide_eq_true hab.1]
    rfl)
  obtain ⟨Φ, hΦ⟩ : ∃ Φ, Φ = call (tblL L) wf (n + 2) := ⟨_, rfl⟩
  rw [← hΦ] at h hr ⊢
  clear hΦ
  have e := lcM_none (f := lcF Φ (.one 2) (.so (.not (.call 75 (.cons (.var 0) (.cons (.var 2) .nil))))) (.var 2) [.fz W.D, .fz (.tuple (v.map stepD)), .no]) (xs := v.map stepD) (by
    intro x hx
    obtain ⟨s, hs, rfl⟩ := List.mem_map.mp hx
    have := h s.1 s.2 (hv.2.1 s hs).1 (hv.2.1 s hs).2
    simp [lcF, stepD, this])
  have hne : v ≠ [] := hv.1
  simp [c_is_window, hne]
  rw [e]
  simp [hr]
theorem v_are_cells (hW : W.Ok) {c : List Nat} (hc : cellsOk W c) : call (tblL L) wf (n + 3) 54 [W.D, natsD c] = ok (.bool true) := by
  refine (call_eq (n := n + 2) tc_are_cells rfl).trans ?_
  have hm := mul_ok hW
  have h := fun x lo hi => v_is_within (L := L) (wf := wf) (n := n + 1) x lo hi
  have hr := v_rises (L := L) (wf := wf) (n := n + 1) (xs := c.map fun k => .int (k : Nat)) (ge := geI) (by
    intro x hx y hy
    obtain ⟨s, hs, rfl⟩ := List.mem_map.mp hx
    obtain ⟨u, hu, rfl⟩ := List.mem_map.mp hy
    rfl) (rises_pair (lt := fun a b => a < b) (fun a b hab => by
      show decide ((b : Int) ≤ a) = false
      exact decide_eq_false (by omega)) hc.2)
  have hle : ∀ k ∈ c, (k : Int) ≤ W.w * W.h - 1 := fun k hk => by
    have h1 : k < W.w * W.h := hc.1 k hk
    have h2 : (k : Int) < ((W.w * W.h : Nat) : Int) := by exact_mod_cast h1
    have h3 : ((W.w * W.h : Nat) : Int) = (W.w : Int) * W.h := by simp
    omega
  obtain ⟨Φ, hΦ⟩ : ∃ Φ, Φ = call (tblL L) wf (n + 2) := ⟨_, rfl⟩
  rw [← hΦ] at h hr ⊢
  clear hΦ
  have e := lcM_none (f := lcF Φ (.one 2) (.so (.not (.call 78 (.cons (.var 2) (.cons (.con (.int 0)) (.cons (.bin .sub (.bin .mul (.idx (.var 0) (.con (.int 0))) (.idx (.var 0) (.con (.int 1)))) (.con (.int 1))) .nil)))))) (.var 2) [.fz W.D, .fz (natsD c), .no]) (xs := c.map fun k => .int (k : Nat)) (by
    intro x hx
    obtain ⟨k, hk, rfl⟩ := List.mem_map.mp hx
    simp [lcF, Wd.D, h, hm, hle k hk])
  simp only [natsD] at e hr ⊢
  simp [c_are_cells]
  rw [e]
  simp [hr]
theorem v_is_deed (hW : W.Ok) {d : Deed} (hd : d.Ok W) : call (tblL L) wf (n + 4) 71 [W.D, d.D] = ok (.bool true) := by
  refine (call_eq (n := n + 3) tc_is_deed rfl).trans ?_
  have h1 := fun (a b : Nat) ha hb => v_is_step (L := L) (wf := wf) (n := n + 1) hW (a := a) (b := b) ha hb
  have h2 := fun v hv => v_is_window (L := L) (wf := wf) (n := n) hW (v := v) hv
  have h3 := fun c hc => v_are_cells (L := L) (wf := wf) (n := n) hW (c := c) hc
  obtain ⟨Φ, hΦ⟩ : ∃ Φ, Φ = call (tblL L) wf (n + 3) := ⟨_, rfl⟩
  rw [← hΦ] at h1 h2 h3 ⊢
  clear hΦ
  cases d with
  | turn => simp [c_is_deed, Deed.D]
  | flip a => cases a <;> simp [c_is_deed, Deed.D, sideD, fits]
  | shift a b => simp [c_is_deed, Deed.D, fits, h1 a b hd.1 hd.2]
  | great v => simp [c_is_deed, Deed.D, fits, h2 v hd]
  | least v => simp [c_is_deed, Deed.D, fits, h2 v hd]
  | mask c => simp [c_is_deed, Deed.D, fits, h3 c hd]
  | lift c => simp [c_is_deed, Deed.D, fits, h3 c hd]
theorem v_look_row (hW : W.Ok) {r : List Deed} (hr : RowOk W r) (hl : r.length ≤ 6) : call (tblL L) wf (n + 5) 87 [W.D, rowD r] = ok .none := by
  refine (call_eq (n := n + 4) tc_look_row rfl).trans ?_
  have h1 := v_look (L := L) (wf := wf) (n := n + 1) hW
  have h2 := fun d hd => v_is_deed (L := L) (wf := wf) (n := n) hW (d := d) hd
  obtain ⟨Φ, hΦ⟩ : ∃ Φ, Φ = call (tblL L) wf (n + 4) := ⟨_, rfl⟩
  rw [← hΦ] at h1 h2 ⊢
  clear hΦ
  have e := lcM_none (f := lcF Φ (.one 2) (.so (.not (.call 71 (.cons (.var 0) (.cons (.var 2) .nil))))) (.var 2) [.fz W.D, .fz (rowD r), .no]) (xs := r.map Deed.D) (by
    intro x hx
    obtain ⟨d, hd, rfl⟩ := List.mem_map.mp hx
    simp [lcF, h2 d (hr d hd)])
  have hl' : ¬ (6 : Int) < (r.length : Int) := by omega
  simp only [rowD] at e ⊢
  simp [c_look_row, h1, hl']
  rw [e]
  simp
end FL

set_option maxRecDepth 20000
/-! FLv3: done, all_done, after. -/
namespace FL
open PySem Out
def pg (p : Pic) (k : Nat) : Int := p.getD k 0
def wat (W : Wd) (x y : Nat) : Nat := y % W.h * W.w + x % W.w
def mv (W : Wd) : Deed → Nat → Nat
  | .flip true, c => wat W (W.w - 1 - c % W.w) (c / W.w)
  | .flip false, c => wat W (c % W.w) (W.h - 1 - c / W.w)
  | .shift a b, c => wat W (c % W.w + a) (c / W.w + b)
  | _, c => c
def iv (W : Wd) : Deed → Nat → Nat
  | .flip true, c => wat W (W.w - 1 - c % W.w) (c / W.w)
  | .flip false, c => wat W (c % W.w) (W.h - 1 - c / W.w)
  | .shift a b, c => wat W (c % W.w + W.w - a) (c / W.w + W.h - b)
  | _, c => c
def maxL (l : List Int) : Int := (maxI l).getD 0
def minL (l : List Int) : Int := (minI l).getD 0
/-- what a window shows -/
def mseen (W : Wd) (p : Pic) (v : List (Nat × Nat)) (c : Nat) : List Int := v.map fun s => pg p (wat W (c % W.w + s.1) (c / W.w + s.2))
def mcell (W : Wd) (p : Pic) : Deed → Nat → Int
  | .turn, c => W.t - pg p c
  | .flip a, c => pg p (iv W (.flip a) c)
  | .shift a b, c => pg p (iv W (.shift a b) c)
  | .great v, c => maxL (mseen W p v c)
  | .least v, c => minL (mseen W p v c)
  | .mask cs, c => if c ∈ cs then pg p c else 0
  | .lift cs, c => if c ∈ cs then W.t else pg p c
def mdone (W : Wd) (p : Pic) (d : Deed) : Pic := (List.range W.n).map (mcell W p d)
def mall (W : Wd) (p : Pic) (r : List Deed) : Pic := r.foldl (mdone W) p
variable {L : Fn} {wf n : Nat} {W : Wd}
theorem wat_lt (hW : W.Ok) (x y : Nat) : wat W x y < W.n := by
  have i := hW.in
  have h1 : y % W.h < W.h := Nat.mod_lt _ i.h1
  have h2 : x % W.w < W.w := Nat.mod_lt _ i.w1
  have h3 : (y % W.h + 1) * W.w ≤ W.h * W.w := Nat.mul_le_mul_right _ h1
  unfold wat Wd.n
  rw [Nat.mul_comm W.w W.h]
  rw [Nat.add_mul] at h3
  omega
theorem rangeD_nat (k : Nat) : rangeD (k : Int) = (List.range k).map fun k => .int (k : Nat) := by simp [rangeD]
theorem atD_pic {p : Pic} {k : Nat} (h : k < p.length) : atD (p.map PyData.int) (k : Int) = some (.int (pg p k)) := by
  rw [atD_nat (by simpa using h)]
  simp [pg, h]
theorem atD_picI {p : Pic} {k : Nat} {i : Int} (e : i = k) (h : k < p.length) : atD (p.map PyData.int) i = some (.int (pg p k)) := e ▸ atD_pic h
theorem pairs_map {α : Type} (f g : α → D) : ∀ as : List α, pairs (as.map fun a => .tuple [f a, g a]) = some (as.map fun a => (f a, g a))
  | [] => rfl
  | a :: as => by
    show (pairs (as.map _)).map _ = _
    rw [pairs_map f g as]
    rfl
theorem intsD_map {α : Type} (g : α → Int) : ∀ as : List α, intsD (as.map fun a => .int (g a)) = some (as.map g)
  | [] => rfl
  | a :: as => by
    show (intsD (as.map _)).map _ = _
    rw [intsD_map g as]
    rfl
/-! ### dicts with numbers for keys -/
def encK (l : List (Int × D)) : List (D × D) := l.map fun q => (.int q.1, q.2)
theorem put_enc (k : Int) (v : D) : ∀ l : List (Int × D), ∃ l', putD (.int k) v (encK l) = encK l' ∧ ∀ j, lookD (.int j) (encK l') = if k = j then some v else lookD (.int j) (encK l)
  | [] => ⟨[(k, v)], rfl, fun j => by
    show (if PyData.eqv (.int k) (.int j) = true then some v else none) = _
    rw [eqv_int]
    by_cases h : k = j <;> simp [h, encK, lookD]⟩
  | (a, b) :: l => by
    obtain ⟨l', e, h⟩ := put_enc k v l
    by_cases g : a = k
    · refine ⟨(a, v) :: l, ?_, fun j => ?_⟩
      · show (if PyData.eqv (.int a) (.int k) = true then _ else _) = _
        rw [eqv_int]
        simp [g, encK]
      · show (if PyData.eqv (.int a) (.int j) = true then some v else lookD (.int j) (encK l)) = if k = j then some v else (if PyData.eqv (.int a) (.int j) = true then some b else lookD (.int j) (encK l))
        rw [eqv_int]
        subst g
        by_cases h2 : a = j <;> simp [h2]
    · refine ⟨(a, b) :: l', ?_, fun j => ?_⟩
      · show (if PyData.eqv (.int a) (.int k) = true then _ else _) = _
        rw [eqv_int]
        simp [g, encK]
        exact e
      · show (if PyData.eqv (.int a) (.int j) = true then some b else lookD (.int j) (encK l')) = if k = j then some v else (if PyData.eqv (.int a) (.int j) = true then some b else lookD (.int j) (encK l))
        rw [eqv_int, h j]
        by_cases h2 : a = j
        · have h3 : ¬ k = j := fun q => g (h2.trans q.symm)
          simp [h2, h3]
        · simp [h2]
theorem look_all {c : Int} {v : D} : ∀ (kvs l : List (Int × D)), (∀ q ∈ kvs, q.1 = c → q.2 = v) → ((∃ q ∈ kvs, q.1 = c) ∨ lookD (.int c) (encK l) = some v) → lookD (.int c) (putAllD (encK l) (encK kvs)) = some v
  | [], l, _, h => by
    rcases h with ⟨q, hq, _⟩ | h
    · cases hq
    · exact h
  | (k, x) :: kvs, l, hu, h => by
    obtain ⟨l', e, hl⟩ := put_enc k x l
    show lookD (.int c) (putAllD (putD (.int k) x (encK l)) (encK kvs)) = some v
    rw [e]
    refine look_all kvs l' (fun q hq => hu q (List.mem_cons_of_mem _ hq)) ?_
    by_cases g : k = c
    · right
      rw [hl c, if_pos g]
      exact congrArg some (hu (k, x) (List.mem_cons_self ..) g)
    · rcases h with ⟨q, hq, hc⟩ | h
      · rcases List.mem_cons.mp hq with rfl | hq
        · exact absurd hc g
        · exact Or.inl ⟨q, hq, hc⟩
      · right
        rw [hl c, if_neg g, h]
/-! ### the moves -/
def movers (W : Wd) : List Deed := .flip true :: .flip false :: (List.range W.w).flatMap fun a => (List.range W.h).map fun b => .shift a b
theorem mv_iv : (worlds.all fun W => (movers W).all fun d => (List.range W.n).all fun c => decide (iv W d c < W.n) && (decide (mv W d (iv W d c) = c) && (List.range W.n).all fun k => decide (mv W d k = c → k = iv W d c))) = true := by decide +kernel
theorem mv_iv_of (hW : W.Ok) {d : Deed} (hd : d ∈ movers W) {c : Nat} (hc : c < W.n) : iv W d c < W.n ∧ mv W d (iv W d c) = c ∧ ∀ k < W.n, mv W d k = c → k = iv W d c := by
  have h := mv_iv
  simp only [List.all_eq_true, List.mem_range, Bool.and_eq_true, decide_eq_true_eq] at h
  exact h W hW d hd c hc
theorem v_cell_at (hW : W.Ok) (x y : Int) : call (tblL L) wf (n + 1) 57 [W.D, .int x, .int y] = ok (.int (y % W.h * W.w + x % W.w)) := by
  refine (call_eq (n := n) tc_cell_at rfl).trans ?_
  obtain ⟨Φ, hΦ⟩ : ∃ Φ, Φ = call (tblL L) wf n := ⟨_, rfl⟩
  rw [← hΦ]
  clear hΦ
  have i := hW.in
  have h1 : 0 < W.w := i.w1
  have h2 : 0 < W.h := i.h1
  have h3 : mulOk (y % W.h) W.w = true := mulOk_small (by omega) (by have := i.w3; omega)
  simp [c_cell_at, Wd.D, h1, h2, h3]
theorem v_moved (hW : W.Ok) {d : Deed} (hd : d ∈ movers W) {c : Nat} (hc : c < W.n) : call (tblL L) wf (n + 2) 91 [W.D, .int c, d.D] = ok (.int (mv W d c)) := by
  refine (call_eq (n := n + 1) tc_moved rfl).trans ?_
  have h := fun x y => v_cell_at (L := L) (wf := wf) (n := n) hW x y
  obtain ⟨Φ, hΦ⟩ : ∃ Φ, Φ = call (tblL L) wf (n + 1) := ⟨_, rfl⟩
  rw [← hΦ] at h ⊢
  clear hΦ
  have i := hW.in
  have h1 : 0 < W.w := i.w1
  have h2 : 0 < W.h := i.h1
  have h3 : W.w < 1073741824 := by have := i.w3; omega
  have hm : c % W.w < W.w := Nat.mod_lt _ h1
  have hd2 : c / W.w < W.h := Nat.div_lt_of_lt_mul hc
  have ew : (W.w : Int) - 1 - (c : Int) % W.w = ((W.w - 1 - c % W.w : Nat) : Int) := by
    have : ((c % W.w : Nat) : Int) = (c : Int) % W.w := by simp
    omega
  have eh : (W.h : Int) - 1 - (c : Int) / W.w = ((W.h - 1 - c / W.w : Nat) : Int) := by
    have : ((c / W.w : Nat) : Int) = (c : Int) / W.w := by simp
    omega
  simp only [movers, List.mem_cons, List.mem_flatMap, List.mem_map, List.mem_range] at hd
  rcases hd with rfl | rfl | ⟨a, ha, b, hb, rfl⟩
  · simp [c_moved, Wd.D, Deed.D, sideD, h1, h3]
    have h' := h
    simp only [Wd.D] at h'
    rw [ew, h']
    simp [mv, wat]
  · simp [c_moved, Wd.D, Deed.D, sideD, h1, h3]
    have h' := h
    simp only [Wd.D] at h'
    rw [eh, h']
    simp [mv, wat]
  · simp [c_moved, Wd.D, Deed.D, sideD, h1, h3]
    have h' := h
    simp only [Wd.D] at h'
    rw [h']
    simp [mv, wat]
theorem v_seen (hW : W.Ok) {p : Pic} (hp : p.length = W.n) (v : List (Nat × Nat)) (c : Nat) : call (tblL L) wf (n + 2) 105 [W.D, picD p, .tuple (v.map stepD), .int c] = ok (.list ((mseen W p v c).map .int)) := by
  refine (call_eq (n := n + 1) tc_seen rfl).trans ?_
  have h := fun x y => v_cell_at (L := L) (wf := wf) (n := n) hW x y
  obtain ⟨Φ, hΦ⟩ : ∃ Φ, Φ = call (tblL L) wf (n + 1) := ⟨_, rfl⟩
  rw [← hΦ] at h ⊢
  clear hΦ
  have i := hW.in
  have h1 : 0 < W.w := i.w1
  have h3 : W.w < 1073741824 := by have := i.w3; omega
  have e := lcM_mapI (f := lcF Φ (.one 6) .no (.idx (.var 1) (.call 57 (.cons (.var 0) (.cons (.bin .add (.var 4) (.idx (.var 6) (.con (.int 0)))) (.cons (.bin .add (.var 5) (.idx (.var 6) (.con (.int 1)))) .nil))))) [.fz W.D, .fz (picD p), .fz (.tuple (v.map stepD)), .fz (.int c), .fz (.int ((c : Int) % W.w)), .fz (.int ((c : Int) / W.w)), .no]) (i := stepD) (g := fun s => .int (pg p (wat W (c % W.w + s.1) (c / W.w + s.2)))) (as := v) (by
    intro s hs
    have hx := atD_picI (p := p) (k := wat W (c % W.w + s.1) (c / W.w + s.2)) (i := ((c : Int) / W.w + s.2) % W.h * W.w + ((c : Int) + s.1) % W.w) (by simp [wat]) (by rw [hp]; exact wat_lt hW _ _)
    simp only [lcF, bindT_one, evt_no, bind_ok, if_true]
    simp [stepD, h]
    simp [picD, hx])
  simp [c_seen, Wd.D, h1, h3, fits] at e ⊢
  rw [e]
  simp [mseen, List.map_map, Function.comp_def]
theorem maxI_some : ∀ l : List Int, l ≠ [] → maxI l = some (maxL l)
  | [], h => absurd rfl h
  | x :: l, _ => by
    unfold maxL
    show (match maxI l with
      | none => some x
      | some m => some (if m ≤ x then x else m)) = some ((match maxI l with
      | none => some x
      | some m => some (if m ≤ x then x else m)).getD 0)
    cases maxI l <;> rfl
theorem minI_some : ∀ l : List Int, l ≠ [] → minI l = some (minL l)
  | [], h => absurd rfl h
  | x :: l, _ => by
    unfold minL
    show (match minI l with
      | none => some x
      | some m => some (if x ≤ m then x else m)) = some ((match minI l with
      | none => some x
      | some m => some (if x ≤ m then x else m)).getD 0)
    cases minI l <;> rfl
theorem b1_maxI (l : List Int) (h : l ≠ []) : b1 .max (.list (l.map .int)) = ok (.int (maxL l)) := by
  have e : intsD (l.map .int) = some l := by
    have := intsD_map (fun x : Int => x) l
    simpa using this
  show (ofOpt ((intsD (l.map .int)).bind maxI)).map PyData.int = _
  rw [e, Option.bind_some, maxI_some l h]
  rfl
theorem b1_minI (l : List Int) (h : l ≠ []) : b1 .min (.list (l.map .int)) = ok (.int (minL l)) := by
  have e : intsD (l.map .int) = some l := by
    have := intsD_map (fun x : Int => x) l
    simpa using this
  show (match intsD (l.map .int) with
    | some ns => (ofOpt (minI ns)).map PyData.int
    | none => mnD (l.map .int)) = _
  rw [e]
  show (ofOpt (minI l)).map PyData.int = _
  rw [minI_some l h]
  rfl
theorem anyEq_nats (c : Nat) (cs : List Nat) : anyEq (.int (c : Nat)) (cs.map fun k => .int (k : Nat)) = decide (c ∈ cs) := by
  unfold anyEq
  rw [List.any_map]
  induction cs with
  | nil => rfl
  | cons k cs ih =>
    rw [List.any_cons, ih]
    show (PyData.eqv (.int (k : Nat)) (.int (c : Nat)) || _) = _
    rw [eqv_int]
    by_cases h : k = c
    · simp [h]
    · have h2 : ¬ c = k := fun q => h q.symm
      have h3 : ¬ (k : Int) = c := by omega
      simp [h2, h3]
theorem in_nats (c : Nat) (cs : List Nat) : cop .inn (.int (c : Nat)) (natsD cs) = ok (.bool (decide (c ∈ cs))) := by
  refine cop_inT_of ?_
  rw [anyEq_nats]
  simp [flat, List.all_map, Function.comp_def]
theorem map_pg (p : Pic) (f : Int → Int) : (List.range p.length).map (fun c => f (pg p c)) = p.map f := by
  refine List.ext_getElem (by simp) fun k h1 h2 => ?_
  simp at h1 h2
  simp [pg, h2]
theorem putAll_enc : ∀ (kvs l : List (Int × D)), ∃ l', putAllD (encK l) (encK kvs) = encK l'
  | [], l => ⟨l, rfl⟩
  | (k, x) :: kvs, l => by
    obtain ⟨l', e, _⟩ := put_enc k x l
    show ∃ l2, putAllD (putD (.int k) x (encK l)) (encK kvs) = encK l2
    rw [e]
    exact putAll_enc kvs l'
theorem idx_enc (l : List (Int × D)) (k : Int) : idx (.dict (encK l)) (.int k) = ofOpt (lookD (.int k) (encK l)) := by
  cases l with
  | nil => rfl
  | cons q l => cases l <;> rfl
theorem led_ok (hW : W.Ok) {p : Pic} (hp : p.length = W.n) {d : Deed} (hd : d ∈ movers W) : ∃ kvs, b1 .dict (.list ((List.range p.length).map fun c => .tuple [.int (mv W d c), .int (pg p c)])) = ok (.dict kvs) ∧ ∀ c < W.n, idx (.dict kvs) (.int (c : Nat)) = ok (.int (pg p (iv W d c))) := by
  have e1 := pairs_map (fun c : Nat => PyData.int (mv W d c)) (fun c => PyData.int (pg p c)) (List.range p.length)
  obtain ⟨l, el⟩ := putAll_enc ((List.range p.length).map fun c => (((mv W d c : Nat) : Int), PyData.int (pg p c))) []
  have e2 : ((List.range p.length).map fun c => (PyData.int (mv W d c), PyData.int (pg p c))) = encK ((List.range p.length).map fun c => (((mv W d c : Nat) : Int), PyData.int (pg p c))) := by
    unfold encK
    rw [List.map_map]
    rfl
  refine ⟨encK l, ?_, fun c hc => ?_⟩
  · show (match pairs ((List.range p.length).map fun c => PyData.tuple [.int (mv W d c), .int (pg p c)]) with
      | some kvs => guard (kvs.all fun q => keyD q.1) (ok (PyData.dict (putAllD [] kvs)))
      | none => bad) = _
    rw [e1]
    show guard _ (ok (PyData.dict (putAllD [] ((List.range p.length).map fun c => (PyData.int (mv W d c), PyData.int (pg p c)))))) = _
    have e3 : (((List.range p.length).map fun c => (PyData.int (mv W d c), PyData.int (pg p c))).all fun q => keyD q.1) = true := by
      simp [keyD]
    rw [e3, e2]
    show guard true (ok (PyData.dict (putAllD (encK []) _))) = _
    rw [el]
    rfl
  · rw [idx_enc, ← el]
    obtain ⟨h1, h2, h3⟩ := mv_iv_of hW hd hc
    rw [look_all (c := (c : Int)) (v := .int (pg p (iv W d c))) _ []]
    · rfl
    · intro q hq hqc
      obtain ⟨k, hk, rfl⟩ := List.mem_map.mp hq
      have hk' : k < W.n := by rw [← hp]; exact List.mem_range.mp hk
      have : mv W d k = c := by
        have h9 : ((mv W d k : Nat) : Int) = c := hqc
        omega
      rw [h3 k hk' this]
    · left
      refine ⟨(((mv W d (iv W d c) : Nat) : Int), .int (pg p (iv W d c))), List.mem_map.mpr ⟨iv W d c, List.mem_range.mpr (by rw [hp]; exact h1), rfl⟩, ?_⟩
      simp [h2]
theorem v_done (hW : W.Ok) {p : Pic} (hp : p.length = W.n) {d : Deed} (hd : d.Ok W) : call (tblL L) wf (n + 3) 59 [W.D, picD p, d.D] = ok (picD (mdone W p d)) := by
  refine (call_eq (n := n + 2) tc_done rfl).trans ?_
  have h1 := fun (d : Deed) (hd : d ∈ movers W) (c : Nat) (hc : c < W.n) => v_moved (L := L) (wf := wf) (n := n) hW hd hc
  have h2 := fun v c => v_seen (L := L) (wf := wf) (n := n) hW hp v c
  obtain ⟨Φ, hΦ⟩ : ∃ Φ, Φ = call (tblL L) wf (n + 2) := ⟨_, rfl⟩
  rw [← hΦ] at h1 h2 ⊢
  clear hΦ
  have i := hW.in
  have hr : rngB (p.length : Int) = true := rngB_of (by rw [hp]; have := i.n6; omega)
  cases d with
  | turn =>
    have e := lcM_mapI (f := lcF Φ (.one 7) .no (.bin .sub (.idx (.var 0) (.con (.int 2))) (.var 7)) [.fz W.D, .fz (picD p), .fz Deed.turn.D, .fz (.list ((List.range p.length).map fun k => .int (k : Nat))), .fz (.str "turn"), .no, .no, .no]) (i := PyData.int) (g := fun x => .int (W.t - x)) (as := p) (by
      intro x hx
      simp [lcF, Wd.D])
    simp [c_done, picD, hr, Deed.D, rangeD_nat] at e ⊢
    rw [e]
    have q : (List.range p.length).map (mcell W p .turn) = p.map (fun x => (W.t : Int) - x) := map_pg p (fun x => (W.t : Int) - x)
    simp only [bind_ok, seqK_rt, endK_rt, b1_tupL, mdone, ← hp]
    rw [q, List.map_map]
    rfl
  | flip a =>
    have hm : Deed.flip a ∈ movers W := by cases a <;> simp [movers]
    obtain ⟨kvs, k1, k2⟩ := led_ok hW hp hm
    have e1 := lcM_mapI (f := lcF Φ (.one 6) .no (.tup (.cons (.call 91 (.cons (.var 0) (.cons (.var 6) (.cons (.var 2) .nil)))) (.cons (.idx (.var 1) (.var 6)) .nil))) [.fz W.D, .fz (picD p), .fz (Deed.flip a).D, .fz (.list ((List.range p.length).map fun k => .int (k : Nat))), .fz (.str "flip"), .no, .no, .no]) (i := fun k : Nat => PyData.int k) (g := fun c => .tuple [.int (mv W (.flip a) c), .int (pg p c)]) (as := List.range p.length) (by
      intro c hc
      have hc' : c < p.length := List.mem_range.mp hc
      have h := h1 _ hm c (by rw [← hp]; exact hc')
      simp [lcF, h, picD, atD_pic hc', fits])
    have e := lcM_mapI (f := lcF Φ (.one 6) .no (.idx (.var 5) (.var 6)) [.fz W.D, .fz (picD p), .fz (Deed.flip a).D, .fz (.list ((List.range p.length).map fun k => .int (k : Nat))), .fz (.str "flip"), .fz (.dict kvs), .no, .no]) (i := fun k : Nat => PyData.int k) (g := fun c => .int (mcell W p (.flip a) c)) (as := List.range p.length) (by
      intro c hc
      have hc' : c < p.length := List.mem_range.mp hc
      simp [lcF, k2 c (by rw [← hp]; exact hc'), mcell])
    simp only [Deed.D, picD] at e e1
    simp [c_done, hr, Deed.D, rangeD_nat, fits, picD]
    rw [e1]
    simp only [bind_ok, k1, seqK_nx, List.set]
    simp
    rw [e]
    simp [mdone, ← hp, Function.comp_def, picD]
  | shift a b =>
    have hm : Deed.shift a b ∈ movers W := by
      have := hd.1
      have := hd.2
      simp [movers]
      exact ⟨hd.1, hd.2⟩
    obtain ⟨kvs, k1, k2⟩ := led_ok hW hp hm
    have e1 := lcM_mapI (f := lcF Φ (.one 6) .no (.tup (.cons (.call 91 (.cons (.var 0) (.cons (.var 6) (.cons (.var 2) .nil)))) (.cons (.idx (.var 1) (.var 6)) .nil))) [.fz W.D, .fz (picD p), .fz (Deed.shift a b).D, .fz (.list ((List.range p.length).map fun k => .int (k : Nat))), .fz (.str "shift"), .no, .no, .no]) (i := fun k : Nat => PyData.int k) (g := fun c => .tuple [.int (mv W (.shift a b) c), .int (pg p c)]) (as := List.range p.length) (by
      intro c hc
      have hc' : c < p.length := List.mem_range.mp hc
      have h := h1 _ hm c (by rw [← hp]; exact hc')
      simp [lcF, h, picD, atD_pic hc', fits])
    have e := lcM_mapI (f := lcF Φ (.one 6) .no (.idx (.var 5) (.var 6)) [.fz W.D, .fz (picD p), .fz (Deed.shift a b).D, .fz (.list ((List.range p.length).map fun k => .int (k : Nat))), .fz (.str "shift"), .fz (.dict kvs), .no, .no]) (i := fun k : Nat => PyData.int k) (g := fun c => .int (mcell W p (.shift a b) c)) (as := List.range p.length) (by
      intro c hc
      have hc' : c < p.length := List.mem_range.mp hc
      simp [lcF, k2 c (by rw [← hp]; exact hc'), mcell])
    simp only [Deed.D, picD] at e e1
    simp [c_done, hr, Deed.D, rangeD_nat, fits, picD]
    rw [e1]
    simp only [bind_ok, k1, seqK_nx, List.set]
    simp
    rw [e]
    simp [mdone, ← hp, Function.comp_def, picD]
  | great v =>
    have e := lcM_mapI (f := lcF Φ (.one 6) .no (.b1 .max (.call 105 (.cons (.var 0) (.cons (.var 1) (.cons (.idx (.var 2) (.con (.int 1))) (.cons (.var 6) .nil)))))) [.fz W.D, .fz (picD p), .fz (Deed.great v).D, .fz (.list ((List.range p.length).map fun k => .int (k : Nat))), .fz (.str "greatest"), .no, .no, .no]) (i := fun k : Nat => PyData.int k) (g := fun c => .int (mcell W p (.great v) c)) (as := List.range p.length) (by
      intro c hc
      have hc' : c < p.length := List.mem_range.mp hc
      have hne : mseen W p v c ≠ [] := by
        intro h
        exact hd.1 (by simpa [mseen] using h)
      simp [lcF, Deed.D, h2, b1_maxI _ hne, mcell])
    simp [c_done, hr, Deed.D, rangeD_nat, fits, picD] at e ⊢
    rw [e]
    simp [mdone, ← hp, Function.comp_def]
  | least v =>
    have e := lcM_mapI (f := lcF Φ (.one 6) .no (.b1 .min (.call 105 (.cons (.var 0) (.cons (.var 1) (.cons (.idx (.var 2) (.con (.int 1))) (.cons (.var 6) .nil)))))) [.fz W.D, .fz (picD p), .fz (Deed.least v).D, .fz (.list ((List.range p.length).map fun k => .int (k : Nat))), .fz (.str "least"), .no, .no, .no]) (i := fun k : Nat => PyData.int k) (g := fun c => .int (mcell W p (.least v) c)) (as := List.range p.length) (by
      intro c hc
      have hc' : c < p.length := List.mem_range.mp hc
      have hne : mseen W p v c ≠ [] := by
        intro h
        exact hd.1 (by simpa [mseen] using h)
      simp [lcF, Deed.D, h2, b1_minI _ hne, mcell])
    simp [c_done, hr, Deed.D, rangeD_nat, fits, picD] at e ⊢
    rw [e]
    simp [mdone, ← hp, Function.comp_def]
  | mask cs =>
    have e := lcM_mapI (f := lcF Φ (.one 6) .no (.ite (.cmp .inn (.var 6) (.idx (.var 2) (.con (.int 1)))) (.idx (.var 1) (.var 6)) (.con (.int 0))) [.fz W.D, .fz (picD p), .fz (Deed.mask cs).D, .fz (.list ((List.range p.length).map fun k => .int (k : Nat))), .fz (.str "mask"), .no, .no, .no]) (i := fun k : Nat => PyData.int k) (g := fun c => .int (mcell W p (.mask cs) c)) (as := List.range p.length) (by
      intro c hc
      have hc' : c < p.length := List.mem_range.mp hc
      have q := in_nats c cs
      by_cases g : c ∈ cs <;> simp [lcF, Deed.D, q, g, picD, atD_pic hc', mcell])
    simp [c_done, hr, Deed.D, rangeD_nat, fits, picD] at e ⊢
    rw [e]
    simp [mdone, ← hp, Function.comp_def]
  | lift cs =>
    have e := lcM_mapI (f := lcF Φ (.one 6) .no (.ite (.cmp .inn (.var 6) (.idx (.var 2) (.con (.int 1)))) (.idx (.var 0) (.con (.int 2))) (.idx (.var 1) (.var 6))) [.fz W.D, .fz (picD p), .fz (Deed.lift cs).D, .fz (.list ((List.range p.length).map fun k => .int (k : Nat))), .fz (.str "lift"), .no, .no, .no]) (i := fun k : Nat => PyData.int k) (g := fun c => .int (mcell W p (.lift cs) c)) (as := List.range p.length) (by
      intro c hc
      have hc' : c < p.length := List.mem_range.mp hc
      have q := in_nats c cs
      by_cases g : c ∈ cs <;> simp [lcF, Deed.D, q, g, picD, Wd.D, atD_pic hc', mcell])
    simp [c_done, hr, Deed.D, rangeD_nat, fits, picD] at e ⊢
    rw [e]
    simp [mdone, ← hp, Function.comp_def]
theorem mdone_len (W : Wd) (p : Pic) (d : Deed) : (mdone W p d).length = W.n := by simp [mdone]
theorem mdone_ok (hW : W.Ok) {p : Pic} (hp : PicOk W p) {d : Deed} (hd : d.Ok W) : PicOk W (mdone W p d) := by
  have hg : ∀ k, 0 ≤ pg p k ∧ pg p k ≤ (W.t : Int) := fun k => by
    unfold pg
    by_cases h : k < p.length
    · have e : p.getD k 0 = p[k] := by simp [h]
      rw [e]
      exact hp.2 _ (List.getElem_mem h)
    · have e : p.getD k 0 = 0 := by simp [Nat.le_of_not_lt h]
      rw [e]
      omega
  refine ⟨mdone_len W p d, fun x hx => ?_⟩
  obtain ⟨c, hc, rfl⟩ := List.mem_map.mp hx
  have hmax : ∀ l : List Int, (∀ x ∈ l, 0 ≤ x ∧ x ≤ (W.t : Int)) → (0 ≤ maxL l ∧ maxL l ≤ (W.t : Int)) ∧ (0 ≤ minL l ∧ minL l ≤ (W.t : Int)) := by
    intro l
    induction l with
    | nil => intro _; simp [maxL, minL, maxI, minI]
    | cons x l ih =>
      intro h
      have h1 := h x (List.mem_cons_self ..)
      have h2 := ih fun y hy => h y (List.mem_cons_of_mem _ hy)
      by_cases e : l = []
      · subst e
        simpa [maxL, minL, maxI, minI] using h1
      · have e1 := maxI_some l e
        have e2 := minI_some l e
        have f1 : maxL (x :: l) = if maxL l ≤ x then x else maxL l := by
          show (match maxI l with
            | none => some x
            | some m => some (if m ≤ x then x else m)).getD 0 = _
          rw [e1]
          rfl
        have f2 : minL (x :: l) = if x ≤ minL l then x else minL l := by
          show (match minI l with
            | none => some x
            | some m => some (if x ≤ m then x else m)).getD 0 = _
          rw [e2]
          rfl
        rw [f1, f2]
        refine ⟨?_, ?_⟩
        · by_cases q : maxL l ≤ x
          · rw [if_pos q]; exact h1
          · rw [if_neg q]; exact h2.1
        · by_cases q : x ≤ minL l
          · rw [if_pos q]; exact h1
          · rw [if_neg q]; exact h2.2
  have hs : ∀ v, ∀ x ∈ mseen W p v c, 0 ≤ x ∧ x ≤ (W.t : Int) := fun v x hx => by
    obtain ⟨s, _, rfl⟩ := List.mem_map.mp hx
    exact hg _
  cases d with
  | turn =>
    have := hg c
    simp only [mcell]
    omega
  | flip a => exact hg _
  | shift a b => exact hg _
  | great v => exact (hmax _ (hs v)).1
  | least v => exact (hmax _ (hs v)).2
  | mask cs =>
    simp only [mcell]
    by_cases q : c ∈ cs
    · rw [if_pos q]; exact hg c
    · rw [if_neg q]; omega
  | lift cs =>
    simp only [mcell]
    by_cases q : c ∈ cs
    · rw [if_pos q]; omega
    · rw [if_neg q]; exact hg c
theorem mall_ok (hW : W.Ok) : ∀ {r : List Deed} {p : Pic}, PicOk W p → RowOk W r → PicOk W (mall W p r)
  | [], _, hp, _ => hp
  | d :: r, p, hp, hr => mall_ok hW (r := r) (p := mdone W p d) (mdone_ok hW hp (hr d (List.mem_cons_self ..))) fun e he => hr e (List.mem_cons_of_mem _ he)
theorem v_all_done (hW : W.Ok) {p : Pic} (hp : PicOk W p) {r : List Deed} (hr : RowOk W r) : call (tblL L) wf (n + 4) 52 [W.D, picD p, rowD r] = ok (picD (mall W p r)) := by
  refine (call_eq (n := n + 3) tc_all_done rfl).trans ?_
  have h1 := fun (p : Pic) (hp : p.length = W.n) (d : Deed) (hd : d.Ok W) => v_done (L := L) (wf := wf) (n := n) hW hp hd
  obtain ⟨Φ, hΦ⟩ : ∃ Φ, Φ = call (tblL L) wf (n + 3) := ⟨_, rfl⟩
  rw [← hΦ] at h1 ⊢
  clear hΦ
  obtain ⟨S', e, q, eS⟩ := forM_invI (f := forF Φ wf (.one 3) (.cons (.set 1 (.call 59 (.cons (.var 0) (.cons (.var 1) (.cons (.var 3) .nil))))) .nil)) (i := Deed.D) (as := r) (S := [.fz W.D, .fz (picD p), .fz (rowD r), .no]) (fun pre S => ∃ q, S = [.fz W.D, .fz (picD (mall W p pre)), .fz (rowD r), q]) ⟨_, rfl⟩ (by
    rintro pre d post S er ⟨q, rfl⟩
    have hpre : RowOk W pre := fun x hx => hr x (by rw [er]; simp [hx])
    have hd : d.Ok W := hr d (by rw [er]; simp)
    have h := h1 (mall W p pre) (mall_ok hW hp hpre).1 d hd
    have em : mall W p (pre ++ [d]) = mdone W (mall W p pre) d := by simp [mall]
    refine ⟨_, ?_, ⟨.fz d.D, rfl⟩⟩
    simp [forF, h, em])
  simp only [rowD] at e ⊢
  simp [c_all_done]
  rw [e]
  simp [eS]
theorem v_after (hW : W.Ok) {p : Pic} (hp : PicOk W p) {r : List Deed} (hr : RowOk W r) (hl : r.length ≤ 6) : call (tblL L) wf (n + 6) 49 [W.D, rowD r, picD p] = ok (picD (mall W p r)) := by
  refine (call_eq (n := n + 5) tc_after rfl).trans ?_
  have h1 := v_look_row (L := L) (wf := wf) (n := n) hW hr hl
  have h2 := v_look_picture (L := L) (wf := wf) (n := n + 2) hW hp
  have h3 := v_all_done (L := L) (wf := wf) (n := n + 1) hW hp hr
  obtain ⟨Φ, hΦ⟩ : ∃ Φ, Φ = call (tblL L) wf (n + 5) := ⟨_, rfl⟩
  rw [← hΦ] at h1 h2 h3 ⊢
  clear hΦ
  simp [c_after, h1, h2, h3]
end FL

set_option maxRecDepth 20000
/-! FLv4: what the laws find by themselves: _law_done, _law_after; numbers from a script. -/
namespace FL
open PySem Out
variable {L : Fn} {wf n : Nat} {W : Wd}
/-! ### sorted numbers -/
theorem minL_of {l : List Int} {m : Int} (h1 : m ∈ l) (h2 : ∀ x ∈ l, m ≤ x) : minL l = m := by
  have key : ∀ l : List Int, l ≠ [] → minL l ∈ l ∧ ∀ x ∈ l, minL l ≤ x := by
    intro l
    induction l with
    | nil => intro h; exact absurd rfl h
    | cons x l ih =>
      intro _
      by_cases e : l = []
      · subst e
        simp [minL, minI]
      · obtain ⟨a, b⟩ := ih e
        have e2 := minI_some l e
        have f2 : minL (x :: l) = if x ≤ minL l then x else minL l := by
          show (match minI l with
            | none => some x
            | some m => some (if x ≤ m then x else m)).getD 0 = _
          rw [e2]
          rfl
        rw [f2]
        by_cases q : x ≤ minL l
        · rw [if_pos q]
          refine ⟨by simp, fun y hy => ?_⟩
          rcases List.mem_cons.mp hy with rfl | hy
          · omega
          · have := b y hy; omega
        · rw [if_neg q]
          refine ⟨by simp [a], fun y hy => ?_⟩
          rcases List.mem_cons.mp hy with rfl | hy
          · omega
          · exact b y hy
  obtain ⟨a, b⟩ := key l (List.ne_nil_of_mem h1)
  have := b m h1
  have := h2 _ a
  omega
theorem maxL_of {l : List Int} {m : Int} (h1 : m ∈ l) (h2 : ∀ x ∈ l, x ≤ m) : maxL l = m := by
  have key : ∀ l : List Int, l ≠ [] → maxL l ∈ l ∧ ∀ x ∈ l, x ≤ maxL l := by
    intro l
    induction l with
    | nil => intro h; exact absurd rfl h
    | cons x l ih =>
      intro _
      by_cases e : l = []
      · subst e
        simp [maxL, maxI]
      · obtain ⟨a, b⟩ := ih e
        have e2 := maxI_some l e
        have f2 : maxL (x :: l) = if maxL l ≤ x then x else maxL l := by
          show (match maxI l with
            | none => some x
            | some m => some (if m ≤ x then x else m)).getD 0 = _
          rw [e2]
          rfl
        rw [f2]
        by_cases q : maxL l ≤ x
        · rw [if_pos q]
          refine ⟨by simp, fun y hy => ?_⟩
          rcases List.mem_cons.mp hy with rfl | hy
          · omega
          · have := b y hy; omega
        · rw [if_neg q]
          refine ⟨by simp [a], fun y hy => ?_⟩
          rcases List.mem_cons.mp hy with rfl | hy
          · omega
          · exact b y hy
  obtain ⟨a, b⟩ := key l (List.ne_nil_of_mem h1)
  have := b m h1
  have := h2 _ a
  omega
def srt (l : List Int) : List Int := l.mergeSort fun a b => decide (a ≤ b)
theorem b1_sorted (l : List Int) : b1 .sorted (.list (l.map .int)) = ok (.list ((srt l).map .int)) := by
  have e : intsD (l.map .int) = some l := by
    have := intsD_map (fun x : Int => x) l
    simpa using this
  show (match intsD (l.map .int) with
    | some ns => ok (PyData.list ((ns.mergeSort fun a b => decide (a ≤ b)).map .int))
    | none => srtD (l.map .int)) = _
  rw [e]
  rfl
theorem srt_perm (l : List Int) : (srt l).Perm l := List.mergeSort_perm _ _
theorem srt_pair (l : List Int) : (srt l).Pairwise (· ≤ ·) := by
  have h := List.pairwise_mergeSort (le := fun a b : Int => decide (a ≤ b)) (by
    intro a b c h1 h2
    simp at h1 h2 ⊢
    omega) (by
    intro a b
    simp
    omega) l
  exact h.imp fun h => by simpa using h
theorem srt_first {l : List Int} (h : l ≠ []) : atD ((srt l).map PyData.int) 0 = some (.int (minL l)) := by
  have hp := srt_perm l
  have hs := srt_pair l
  cases e : srt l with
  | nil =>
    rw [e] at hp
    exact absurd hp.symm.eq_nil h
  | cons x r =>
    rw [e] at hp hs
    rw [minL_of (m := x) (hp.mem_iff.mp (by simp)) fun y hy => by
      rcases List.mem_cons.mp (hp.mem_iff.mpr hy) with rfl | hy
      · omega
      · exact (List.pairwise_cons.mp hs).1 y hy]
    simp
theorem srt_last {l : List Int} (h : l ≠ []) : atD ((srt l).map PyData.int) (-1) = some (.int (maxL l)) := by
  have hp := srt_perm l
  have hs := srt_pair l
  have hne : srt l ≠ [] := fun e => by
    rw [e] at hp
    exact h hp.symm.eq_nil
  have hm : (srt l).map PyData.int ≠ [] := by simpa using hne
  rw [atD_last hm, List.getLast_map]
  rw [maxL_of (m := (srt l).getLast hne) (hp.mem_iff.mp (List.getLast_mem hne)) fun y hy => ?_]
  have hy := hp.mem_iff.mpr hy
  obtain ⟨k, hk, rfl⟩ := List.getElem_of_mem hy
  rw [List.getLast_eq_getElem]
  by_cases g : k = (srt l).length - 1
  · subst g; omega
  · exact List.pairwise_iff_getElem.mp hs k _ hk (by omega) (by omega)
/-! ### the law's own done -/
theorem iv_fin : (worlds.all fun W => (List.range W.n).all fun c => (decide ((c : Int) / W.w * W.w + W.w - 1 - (c : Int) % W.w = (iv W (.flip true) c : Nat)) && decide (((W.h : Int) - 1 - (c : Int) / W.w) * W.w + (c : Int) % W.w = (iv W (.flip false) c : Nat))) && (List.range W.w).all fun a => (List.range W.h).all fun b => decide (((c : Int) / W.w - b) % W.h * W.w + ((c : Int) - a) % W.w = (iv W (.shift a b) c : Nat))) = true := by decide +kernel
theorem iv_of (hW : W.Ok) {c : Nat} (hc : c < W.n) : ((c : Int) / W.w * W.w + W.w - 1 - (c : Int) % W.w = (iv W (.flip true) c : Nat) ∧ ((W.h : Int) - 1 - (c : Int) / W.w) * W.w + (c : Int) % W.w = (iv W (.flip false) c : Nat)) ∧ ∀ a < W.w, ∀ b < W.h, ((c : Int) / W.w - b) % W.h * W.w + ((c : Int) - a) % W.w = (iv W (.shift a b) c : Nat) := by
  have h := iv_fin
  simp only [List.all_eq_true, List.mem_range, Bool.and_eq_true, decide_eq_true_eq] at h
  exact h W hW c hc
@[simp] theorem fits_0 : fits 0 = true := by decide
@[simp] theorem fits_1 : fits 1 = true := by decide
@[simp] theorem fits_2 : fits 2 = true := by decide
@[simp] theorem fits_3 : fits 3 = true := by decide
@[simp] theorem fits_4 : fits 4 = true := by decide
@[simp] theorem fits_5 : fits 5 = true := by decide
@[simp] theorem fits_6 : fits 6 = true := by decide
@[simp] theorem fits_7 : fits 7 = true := by decide
@[simp] theorem fits_8 : fits 8 = true := by decide
def lawBody : CSs := (.cons (.unp (.two 9 10) (.tup (.cons (.bin .mod (.var 5) (.var 6)) (.cons (.bin .fdiv (.var 5) (.var 6)) .nil))))
 (.cons (.iff (.cmp .eq (.var 3) (.con (.str "turn")))
 (.cons (.set 11 (.bin .sub (.var 8) (.idx (.var 1) (.var 5))))
 .nil)
 (.cons (.iff (.cmp .eq (.var 3) (.con (.str "shift")))
 (.cons (.set 11 (.idx (.var 1) (.bin .add (.bin .mul (.bin .mod (.bin .sub (.var 10) (.idx (.var 2) (.con (.int 2)))) (.var 7)) (.var 6)) (.bin .mod (.bin .sub (.var 9) (.idx (.var 2) (.con (.int 1)))) (.var 6)))))
 .nil)
 (.cons (.iff (.cmp .eq (.var 3) (.con (.str "flip")))
 (.cons (.set 11 (.ite (.cmp .eq (.idx (.var 2) (.con (.int 1))) (.con (.str "across"))) (.idx (.var 1) (.bin .sub (.bin .sub (.bin .add (.bin .mul (.var 10) (.var 6)) (.var 6)) (.con (.int 1))) (.var 9))) (.idx (.var 1) (.bin .add (.bin .mul (.bin .sub (.bin .sub (.var 7) (.con (.int 1))) (.var 10)) (.var 6)) (.var 9)))))
 .nil)
 (.cons (.iff (.cmp .eq (.var 3) (.con (.str "mask")))
 (.cons (.set 11 (.idx (.lst (.cons (.con (.int 0)) (.cons (.idx (.var 1) (.var 5)) .nil))) (.b1 .int (.cmp .inn (.var 5) (.idx (.var 2) (.con (.int 1)))))))
 .nil)
 (.cons (.iff (.cmp .eq (.var 3) (.con (.str "lift")))
 (.cons (.set 11 (.idx (.lst (.cons (.idx (.var 1) (.var 5)) (.cons (.var 8) .nil))) (.b1 .int (.cmp .inn (.var 5) (.idx (.var 2) (.con (.int 1)))))))
 .nil)
 (.cons (.set 12 (.b1 .sorted (.lc (.seq (.idx (.var 2) (.con (.int 1)))) (.two 13 14) .no (.idx (.var 1) (.bin .add (.bin .mul (.bin .mod (.bin .add (.var 10) (.var 14)) (.var 7)) (.var 6)) (.bin .mod (.bin .add (.var 9) (.var 13)) (.var 6)))))))
 (.cons (.set 11 (.ite (.cmp .eq (.var 3) (.con (.str "least"))) (.idx (.var 12) (.con (.int 0))) (.idx (.var 12) (.neg (.con (.int 1))))))
 .nil)))
 .nil))
 .nil))
 .nil))
 .nil))
 (.cons (.app 4 (.var 11))
 .nil)))
def wordD : Deed → D
  | .turn => .str "turn"
  | .flip _ => .str "flip"
  | .shift _ _ => .str "shift"
  | .great _ => .str "greatest"
  | .least _ => .str "least"
  | .mask _ => .str "mask"
  | .lift _ => .str "lift"
def lawS (W : Wd) (p : Pic) (d : Deed) (pre : List Nat) (a b c e f : Sl) : St := [.fz W.D, .fz (picD p), .fz d.D, .fz (wordD d), .ow (.list (pre.map fun c => .int (mcell W p d c))), a, .fz (.int W.w), .fz (.int W.h), .fz (.int W.t), b, c, e, f, .no, .no]
theorem law_turn {Φ : Nat → List D → Out D} (hW : W.Ok) {p : Pic} (hp : p.length = W.n) {d : Deed} (hd : d.Ok W) {pre : List Nat} (hl : pre.length ≤ 1000) {c : Nat} (hc : c < W.n) (a b b2 e f : Sl) : ∃ f', evSs Φ wf lawBody ((lawS W p d pre a b b2 e f).set 5 (.fz (.int c))) = ok (.nx (lawS W p d (pre ++ [c]) (.fz (.int c)) (.fz (.int ((c : Int) % W.w))) (.fz (.int ((c : Int) / W.w))) (.fz (.int (mcell W p d c))) f')) := by
  have i := hW.in
  have h1 : 0 < W.w := i.w1
  have h2 : 0 < W.h := i.h1
  have h3 : W.w < 1073741824 := by have := i.w3; omega
  have hf : fits pre.length = true := fits_of (by omega)
  have hp' : c < p.length := by rw [hp]; exact hc
  have hm : ∀ x : Int, mulOk x W.w = true := fun x => mulOk_small (by omega) (by have := i.w3; omega)
  obtain ⟨⟨q1, q2⟩, q3⟩ := iv_of hW hc
  cases d with
  | turn =>
    refine ⟨f, ?_⟩
    simp [lawBody, lawS, wordD, h1, h3, picD, atD_pic hp', mcell, hf]
  | flip s =>
    refine ⟨f, ?_⟩
    have hm2 : Deed.flip s ∈ movers W := by cases s <;> simp [movers]
    have hi := (mv_iv_of hW hm2 hc).1
    cases s with
    | true =>
      have hx := atD_picI (p := p) q1 (by rw [hp]; exact hi)
      simp [lawBody, lawS, wordD, h1, h3, picD, hx, mcell, hf, Deed.D, sideD, hm]
    | false =>
      have hx := atD_picI (p := p) q2 (by rw [hp]; exact hi)
      have nn : cop .eq (.str "down") (.str "across") = ok (.bool false) := e_down_across
      simp [lawBody, lawS, wordD, h1, h3, picD, hx, mcell, hf, Deed.D, sideD, hm]
  | shift x y =>
    refine ⟨f, ?_⟩
    have hm2 : Deed.shift x y ∈ movers W := by
      simp [movers]
      exact ⟨hd.1, hd.2⟩
    have hi := (mv_iv_of hW hm2 hc).1
    have hx := atD_picI (p := p) (q3 x hd.1 y hd.2) (by rw [hp]; exact hi)
    simp [lawBody, lawS, wordD, h1, h2, h3, picD, hx, mcell, hf, Deed.D, hm]
  | great v =>
    have hne : mseen W p v c ≠ [] := by
      intro h
      exact hd.1 (by simpa [mseen] using h)
    refine ⟨.fz (.list ((srt (mseen W p v c)).map .int)), ?_⟩
    have ee := lcM_mapI (f := lcF Φ (.two 13 14) .no (.idx (.var 1) (.bin .add (.bin .mul (.bin .mod (.bin .add (.var 10) (.var 14)) (.var 7)) (.var 6)) (.bin .mod (.bin .add (.var 9) (.var 13)) (.var 6)))) [.fz W.D, .fz (picD p), .fz (Deed.great v).D, .fz (.str "greatest"), .ow (.list (pre.map fun c => .int (mcell W p (.great v) c))), .fz (.int c), .fz (.int W.w), .fz (.int W.h), .fz (.int W.t), .fz (.int ((c : Int) % W.w)), .fz (.int ((c : Int) / W.w)), e, f, .no, .no]) (i := stepD) (g := fun s => .int (pg p (wat W (c % W.w + s.1) (c / W.w + s.2)))) (as := v) (by
      intro s hs
      have hx := atD_picI (p := p) (k := wat W (c % W.w + s.1) (c / W.w + s.2)) (i := ((c : Int) / W.w + s.2) % W.h * W.w + ((c : Int) + s.1) % W.w) (by simp [wat]) (by rw [hp]; exact wat_lt hW _ _)
      simp [lcF, stepD, h1, h2, hm, picD, hx])
    have e2 : (v.map fun s => PyData.int (pg p (wat W (c % W.w + s.1) (c / W.w + s.2)))) = (mseen W p v c).map .int := by simp [mseen, Function.comp_def]
    rw [e2] at ee
    simp only [picD, Deed.D] at ee
    simp [lawBody, lawS, wordD, h1, h3, picD, Deed.D]
    rw [ee]
    have f1 := srt_first hne
    have f2 := srt_last hne
    simp [b1_sorted, f1, f2, mcell, hf]
  | least v =>
    have hne : mseen W p v c ≠ [] := by
      intro h
      exact hd.1 (by simpa [mseen] using h)
    refine ⟨.fz (.list ((srt (mseen W p v c)).map .int)), ?_⟩
    have ee := lcM_mapI (f := lcF Φ (.two 13 14) .no (.idx (.var 1) (.bin .add (.bin .mul (.bin .mod (.bin .add (.var 10) (.var 14)) (.var 7)) (.var 6)) (.bin .mod (.bin .add (.var 9) (.var 13)) (.var 6)))) [.fz W.D, .fz (picD p), .fz (Deed.least v).D, .fz (.str "least"), .ow (.list (pre.map fun c => .int (mcell W p (.least v) c))), .fz (.int c), .fz (.int W.w), .fz (.int W.h), .fz (.int W.t), .fz (.int ((c : Int) % W.w)), .fz (.int ((c : Int) / W.w)), e, f, .no, .no]) (i := stepD) (g := fun s => .int (pg p (wat W (c % W.w + s.1) (c / W.w + s.2)))) (as := v) (by
      intro s hs
      have hx := atD_picI (p := p) (k := wat W (c % W.w + s.1) (c / W.w + s.2)) (i := ((c : Int) / W.w + s.2) % W.h * W.w + ((c : Int) + s.1) % W.w) (by simp [wat]) (by rw [hp]; exact wat_lt hW _ _)
      simp [lcF, stepD, h1, h2, hm, picD, hx])
    have e2 : (v.map fun s => PyData.int (pg p (wat W (c % W.w + s.1) (c / W.w + s.2)))) = (mseen W p v c).map .int := by simp [mseen, Function.comp_def]
    rw [e2] at ee
    simp only [picD, Deed.D] at ee
    simp [lawBody, lawS, wordD, h1, h3, picD, Deed.D]
    rw [ee]
    have f1 := srt_first hne
    have f2 := srt_last hne
    simp [b1_sorted, f1, f2, mcell, hf]
  | mask cs =>
    refine ⟨f, ?_⟩
    have q := in_nats c cs
    by_cases g : c ∈ cs <;> simp [lawBody, lawS, wordD, h1, h3, picD, atD_pic hp', mcell, hf, Deed.D, q, g]
  | lift cs =>
    refine ⟨f, ?_⟩
    have q := in_nats c cs
    by_cases g : c ∈ cs <;> simp [lawBody, lawS, wordD, h1, h3, picD, atD_pic hp', mcell, hf, Deed.D, q, g]
theorem v_law_done (hW : W.Ok) {p : Pic} (hp : p.length = W.n) {d : Deed} (hd : d.Ok W) : call (tblL L) wf (n + 1) 14 [W.D, picD p, d.D] = ok (picD (mdone W p d)) := by
  refine (call_eq (n := n) tc_law_done rfl).trans ?_
  obtain ⟨Φ, hΦ⟩ : ∃ Φ, Φ = call (tblL L) wf n := ⟨_, rfl⟩
  rw [← hΦ]
  clear hΦ
  have i := hW.in
  have hr : rngB (W.n : Int) = true := rngB_of (by have := i.n6; omega)
  have en : (W.n : Int) = (W.w : Int) * W.h := by simp [Wd.n]
  have hm := mul_ok hW
  obtain ⟨S', e, a, b, b2, e2, f, eS⟩ := forM_invI (f := forF Φ wf (.one 5) lawBody) (i := fun k : Nat => PyData.int k) (as := List.range W.n) (S := lawS W p d [] .no .no .no .no .no) (fun pre S => ∃ a b b2 e f, S = lawS W p d pre a b b2 e f) ⟨_, _, _, _, _, rfl⟩ (by
    rintro pre c post S er ⟨a, b, b2, e, f, rfl⟩
    have hc : c < W.n := List.mem_range.mp (by rw [er]; simp)
    have hl : pre.length ≤ 1000 := by
      have := congrArg List.length er
      simp at this
      have := i.n6
      omega
    obtain ⟨f', h⟩ := law_turn (Φ := Φ) (wf := wf) hW hp hd hl hc a b b2 e f
    exact ⟨_, h, _, _, _, _, _, rfl⟩)
  have ew : idx d.D (.int 0) = ok (wordD d) := by cases d <;> rfl
  have e' : forM (forF Φ wf (.one 5) lawBody) (rangeD (W.n : Int)) (lawS W p d [] .no .no .no .no .no) = ok (.nx S') := by rw [rangeD_nat]; exact e
  have hz : endK (evSs Φ wf c_law_done.body (startS c_law_done.nn [W.D, picD p, d.D])) = endK (seqK (forM (forF Φ wf (.one 5) lawBody) (rangeD (W.n : Int)) (lawS W p d [] .no .no .no .no .no)) fun S' => evSs Φ wf (.cons (.ret (.b1 .tuple (.pk 4))) .nil) S') := by
    rw [en] at hr ⊢
    simp [c_law_done, Wd.D, ew, fits, hm, hr]
    rfl
  rw [hz, e', eS]
  simp [lawS, mdone, picD, Function.comp_def]
theorem v_law_after (hW : W.Ok) {p : Pic} (hp : PicOk W p) {r : List Deed} (hr : RowOk W r) : call (tblL L) wf (n + 2) 1 [W.D, picD p, rowD r] = ok (picD (mall W p r)) := by
  refine (call_eq (n := n + 1) tc_law_after rfl).trans ?_
  have h1 := fun (p : Pic) (hp : p.length = W.n) (d : Deed) (hd : d.Ok W) => v_law_done (L := L) (wf := wf) (n := n) hW hp hd
  obtain ⟨Φ, hΦ⟩ : ∃ Φ, Φ = call (tblL L) wf (n + 1) := ⟨_, rfl⟩
  rw [← hΦ] at h1 ⊢
  clear hΦ
  obtain ⟨S', e, q, eS⟩ := forM_invI (f := forF Φ wf (.one 4) (.cons (.set 3 (.call 14 (.cons (.var 0) (.cons (.var 3) (.cons (.var 4) .nil))))) .nil)) (i := Deed.D) (as := r) (S := [.fz W.D, .fz (picD p), .fz (rowD r), .fz (picD p), .no]) (fun pre S => ∃ q, S = [.fz W.D, .fz (picD p), .fz (rowD r), .fz (picD (mall W p pre)), q]) ⟨_, rfl⟩ (by
    rintro pre d post S er ⟨q, rfl⟩
    have hpre : RowOk W pre := fun x hx => hr x (by rw [er]; simp [hx])
    have hd : d.Ok W := hr d (by rw [er]; simp)
    have h := h1 (mall W p pre) (mall_ok hW hp hpre).1 d hd
    have em : mall W p (pre ++ [d]) = mdone W (mall W p pre) d := by simp [mall]
    refine ⟨_, ?_, ⟨.fz d.D, rfl⟩⟩
    simp [forF, h, em])
  simp only [rowD] at e ⊢
  simp [c_law_after]
  rw [e]
  simp [eS]
end FL

set_option maxRecDepth 20000
/-! FLv5: the numbers, worlds, deeds, rows and pictures that a script gives. -/
namespace FL
open PySem Out
variable {L : Fn} {wf n : Nat} {W : Wd}
def mstep (t : Nat) (ps : List Pic) : List Pic := ps.flatMap fun p => (List.range (t + 1)).map fun (x : Nat) => p ++ [(x : Int)]
def mpow (t : Nat) : Nat → List Pic
  | 0 => [[]]
  | k + 1 => mstep t (mpow t k)
/-- all pictures of a world -/
def mevery (W : Wd) : List Pic := mpow W.t W.n
theorem v_law_every (hW : W.Ok) : call (tblL L) wf (n + 1) 17 [W.D] = ok (.list ((mevery W).map picD)) := by
  have h : ∀ W ∈ worlds, call (tblL L) wf (n + 1) 17 [W.D] = ok (.list ((mevery W).map picD)) := by
    unfold worlds
    simp only [List.forall_mem_cons, List.not_mem_nil, false_implies, implies_true, and_true]
    exact ⟨by kernel_rfl, by kernel_rfl, by kernel_rfl, by kernel_rfl, by kernel_rfl, by kernel_rfl, by kernel_rfl, by kernel_rfl, by kernel_rfl, by kernel_rfl, by kernel_rfl, by kernel_rfl, by kernel_rfl, by kernel_rfl, by kernel_rfl, by kernel_rfl⟩
  exact h W hW
theorem mstep_ok {t : Nat} {ps : List Pic} {k : Nat} (h : ∀ p ∈ ps, p.length = k ∧ ∀ x ∈ p, 0 ≤ x ∧ x ≤ (t : Int)) : ∀ p ∈ mstep t ps, p.length = k + 1 ∧ ∀ x ∈ p, 0 ≤ x ∧ x ≤ (t : Int) := by
  intro p hp
  simp only [mstep, List.mem_flatMap, List.mem_map, List.mem_range] at hp
  obtain ⟨q, hq, x, hx, rfl⟩ := hp
  refine ⟨by simp [(h q hq).1], fun y hy => ?_⟩
  rcases List.mem_append.mp hy with hy | hy
  · exact (h q hq).2 y hy
  · have e : y = x := by simpa using hy
    subst e
    omega
theorem mpow_ok (t : Nat) : ∀ k, ∀ p ∈ mpow t k, p.length = k ∧ ∀ x ∈ p, 0 ≤ x ∧ x ≤ (t : Int)
  | 0 => by simp [mpow]
  | k + 1 => mstep_ok (mpow_ok t k)
theorem mevery_ok (W : Wd) : ∀ p ∈ mevery W, PicOk W p := mpow_ok W.t W.n
theorem mpow_len (t : Nat) : ∀ k, (mpow t k).length = (t + 1) ^ k
  | 0 => rfl
  | k + 1 => by
    show (mstep t (mpow t k)).length = _
    unfold mstep
    rw [List.length_flatMap]
    have e : (mpow t k).map (fun p : Pic => ((List.range (t + 1)).map fun (x : Nat) => p ++ [(x : Int)]).length) = List.replicate ((t + 1) ^ k) (t + 1) := by
      rw [← mpow_len t k, ← List.map_const']
      simp
    rw [e]
    simp [Nat.pow_succ]
theorem mevery_pos (W : Wd) : 0 < (mevery W).length := by
  rw [mevery, mpow_len]
  exact Nat.pow_pos (Nat.succ_pos _)
theorem mevery_len (hW : W.Ok) : (mevery W).length ≤ 256 := by
  rw [mevery, mpow_len]
  exact hW.in.m
/-! ### numbers -/
def sd (s k : Int) : Int := ((s * 1103515245 + 7919 * k + 12345) % 2147483647) ^ 5 % 2147483647
theorem sd_pos (s k : Int) : 0 ≤ sd s k := Int.emod_nonneg _ (by decide)
@[simp] theorem len_scr (ns : List Int) : b1 .len (scr ns) = ok (.int ns.length) := by
  show ok (PyData.int ((ns.map PyData.int).length : Nat)) = _
  simp
@[simp] theorem idx_scr (ns : List Int) (i : Int) : idx (scr ns) (.int i) = ofOpt (atD (ns.map .int) i) := rfl
def cel (ns : List Int) (k : Int) : Int := ns.getD k.toNat 0
/-- a script, however it is held -/
structure Scr (S : D) (ns : List Int) : Prop where
  len : b1 .len S = ok (.int ns.length)
  at_ : ∀ i, idx S (.int i) = ofOpt (atD (ns.map .int) i)
theorem Scr.scr (ns : List Int) : Scr (scr ns) ns := ⟨len_scr ns, idx_scr ns⟩
theorem Scr.list (ns : List Int) : Scr (.list (ns.map .int)) ns := ⟨by simp, fun i => rfl⟩
theorem v_law_cellG {S : D} {ns : List Int} (hS : Scr S ns) {k : Int} (h0 : 0 ≤ k) : call (tblL L) wf (n + 1) 10 [S, .int k] = ok (.int (cel ns k)) := by
  refine (call_eq (n := n) tc_law_cell rfl).trans ?_
  obtain ⟨Φ, hΦ⟩ : ∃ Φ, Φ = call (tblL L) wf n := ⟨_, rfl⟩
  rw [← hΦ]
  clear hΦ
  by_cases h : k < ns.length
  · have hk : k.toNat < ns.length := by omega
    have e := atD_picI (p := ns) (k := k.toNat) (i := k) (by omega) hk
    simp [c_law_cell, hS.len, hS.at_, h, e, cel, pg]
  · have hk : ns.length ≤ k.toNat := by omega
    simp [c_law_cell, hS.len, h, cel, hk]
theorem v_law_cell (ns : List Int) {k : Int} (h0 : 0 ≤ k) : call (tblL L) wf (n + 1) 10 [scr ns, .int k] = ok (.int (cel ns k)) := v_law_cellG (Scr.scr ns) h0
theorem v_law_seed (s k : Int) : call (tblL L) wf (n + 1) 38 [.int s, .int k] = ok (.int (sd s k)) := by
  refine (call_eq (n := n) tc_law_seed rfl).trans ?_
  obtain ⟨Φ, hΦ⟩ : ∃ Φ, Φ = call (tblL L) wf n := ⟨_, rfl⟩
  rw [← hΦ]
  clear hΦ
  have h1 : mulOk s 1103515245 = true := mulOk_small (by decide) (by decide)
  have h2 : mulOk 7919 k = true := mulOk_smallL (by decide) (by decide)
  have h3 : ((s * 1103515245 + 7919 * k + 12345) % 2147483647).natAbs < 18446744073709551616 := by omega
  simp [c_law_seed, h1, h2, h3, sd]
theorem v_law_pick (s : Int) {m : Int} (hm : 0 < m) : call (tblL L) wf (n + 1) 32 [.int s, .int m] = ok (.int (s / 97 % m)) := by
  refine (call_eq (n := n) tc_law_pick rfl).trans ?_
  obtain ⟨Φ, hΦ⟩ : ∃ Φ, Φ = call (tblL L) wf n := ⟨_, rfl⟩
  rw [← hΦ]
  clear hΦ
  simp [c_law_pick, hm]
theorem atD_mem {α : Type} {l : List α} {i : Int} (h0 : 0 ≤ i) (h : i < l.length) : ∃ x ∈ l, atD l i = some x := by
  have hk : i.toNat < l.length := by omega
  refine ⟨l[i.toNat], List.getElem_mem hk, ?_⟩
  have := atD_nat (xs := l) hk
  rwa [show ((i.toNat : Nat) : Int) = i by omega] at this
theorem v_law_world (c : Int) : ∃ W : Wd, W.Ok ∧ ∀ n, call (tblL L) wf (n + 2) 47 [.int c] = ok W.D := by
  obtain ⟨x, hx, e⟩ := atD_mem (l := worlds.map Wd.D) (i := sd c 1 / 97 % 16) (by omega) (by
    show _ < ((16 : Nat) : Int)
    omega)
  obtain ⟨W, hW, rfl⟩ := List.mem_map.mp hx
  refine ⟨W, hW, fun n => ?_⟩
  refine (call_eq (n := n + 1) tc_law_world rfl).trans ?_
  have h1 := fun s k => v_law_seed (L := L) (wf := wf) (n := n) s k
  have h2 := fun s => v_law_pick (L := L) (wf := wf) (n := n) s (m := 16) (by decide)
  obtain ⟨Φ, hΦ⟩ : ∃ Φ, Φ = call (tblL L) wf (n + 1) := ⟨_, rfl⟩
  rw [← hΦ] at h1 h2 ⊢
  clear hΦ
  have f16 : fits 16 = true := by decide
  simp [worlds, Wd.D] at e
  simp [c_law_world, h1, h2, f16, e, Wd.D]
/-! ### windows -/
def msteps (W : Wd) : List (Nat × Nat) := (List.range W.w).flatMap fun a => (List.range W.h).map fun b => (a, b)
theorem msteps_fin : ∀ W ∈ worlds, (msteps W).Pairwise stepLt ∧ (msteps W).length = W.n ∧ ∀ s ∈ msteps W, s.1 < W.w ∧ s.2 < W.h := by decide +kernel
theorem enum_sub {f : D → Out (Option D)} {t : Nat → Bool} {i : Nat × Nat → D} : ∀ (as : List (Nat × Nat)) (k : Nat), (∀ a ∈ as, ∀ j : Nat, f (.tuple [.int j, i a]) = ok (if t j = true then some (i a) else none)) → ∃ bs : List (Nat × Nat), bs.Sublist as ∧ lcM f (enumD k (as.map i)) = ok (bs.map i)
  | [], _, _ => ⟨[], List.Sublist.refl _, rfl⟩
  | a :: as, k, h => by
    obtain ⟨bs, h1, h2⟩ := enum_sub (f := f) (t := t) (i := i) as (k + 1) fun b hb => h b (List.mem_cons_of_mem _ hb)
    have h3 := h a (List.mem_cons_self ..) k
    by_cases g : t k = true
    · refine ⟨a :: bs, h1.cons₂ a, ?_⟩
      show (f (.tuple [.int k, i a])).bind _ = _
      rw [h3, if_pos g, bind_ok, h2]
      rfl
    · refine ⟨bs, h1.cons a, ?_⟩
      show (f (.tuple [.int k, i a])).bind _ = _
      rw [h3, if_neg g, bind_ok, h2]
      rfl
theorem winOk_sub (hW : W.Ok) {v : List (Nat × Nat)} (h : v.Sublist (msteps W)) (hv : v ≠ []) : winOk W v := by
  obtain ⟨h1, _, h3⟩ := msteps_fin W hW
  exact ⟨hv, fun s hs => h3 s (h.subset hs), h1.sublist h⟩
theorem shN_step (s : Nat × Nat) : shN 1 (stepD s) := shN_tuple fun x hx => by
  simp at hx
  rcases hx with rfl | rfl <;> exact shN_int 0 _
theorem ne_nil_steps (v : List (Nat × Nat)) : cop .ne (.list (v.map stepD)) (.list []) = ok (.bool (!v.isEmpty)) := by
  have h1 : shp (.list (v.map stepD)) = true := shp_of (n := 2) (shN_list fun x hx => by
    obtain ⟨s, _, rfl⟩ := List.mem_map.mp hx
    exact shN_step s) (by decide)
  have h2 : shp (.list []) = true := by decide
  show guard (shp _ && shp _) _ = _
  rw [h1, h2]
  cases v <;> rfl
theorem v_steps (hW : W.Ok) (Φ : Nat → List D → Out D) (s : Int) : ∃ q, forM (forF Φ wf (.one 3) (.cons (.set 2 (.bin .add (.var 2) (.lc (.rng (.idx (.var 0) (.con (.int 1)))) (.one 7) .no (.tup (.cons (.var 3) (.cons (.var 7) .nil)))))) .nil)) (rangeD (W.w : Int)) [.fz W.D, .fz (.int s), .fz (.list []), .no, .no, .no, .no, .no] = ok (.nx [.fz W.D, .fz (.int s), .fz (.list ((msteps W).map stepD)), q, .no, .no, .no, .no]) := by
  have h : ∀ W ∈ worlds, ∃ q, forM (forF Φ wf (.one 3) (.cons (.set 2 (.bin .add (.var 2) (.lc (.rng (.idx (.var 0) (.con (.int 1)))) (.one 7) .no (.tup (.cons (.var 3) (.cons (.var 7) .nil)))))) .nil)) (rangeD (W.w : Int)) [.fz W.D, .fz (.int s), .fz (.list []), .no, .no, .no, .no, .no] = ok (.nx [.fz W.D, .fz (.int s), .fz (.list ((msteps W).map stepD)), q, .no, .no, .no, .no]) := by
    unfold worlds
    simp only [List.forall_mem_cons, List.not_mem_nil, false_implies, implies_true, and_true]
    exact ⟨⟨.fz (.int 0), by kernel_rfl⟩, ⟨.fz (.int 1), by kernel_rfl⟩, ⟨.fz (.int 2), by kernel_rfl⟩, ⟨.fz (.int 0), by kernel_rfl⟩, ⟨.fz (.int 1), by kernel_rfl⟩, ⟨.fz (.int 1), by kernel_rfl⟩, ⟨.fz (.int 2), by kernel_rfl⟩, ⟨.fz (.int 2), by kernel_rfl⟩, ⟨.fz (.int 1), by kernel_rfl⟩, ⟨.fz (.int 2), by kernel_rfl⟩, ⟨.fz (.int 0), by kernel_rfl⟩, ⟨.fz (.int 0), by kernel_rfl⟩, ⟨.fz (.int 1), by kernel_rfl⟩, ⟨.fz (.int 0), by kernel_rfl⟩, ⟨.fz (.int 1), by kernel_rfl⟩, ⟨.fz (.int 0), by kernel_rfl⟩⟩
  exact h W hW
theorem v_law_window (hW : W.Ok) (s : Int) : ∃ v, winOk W v ∧ ∀ n, call (tblL L) wf (n + 2) 45 [W.D, .int s] = ok (.tuple (v.map stepD)) := by
  have i := hW.in
  obtain ⟨m1, m2, m3⟩ := msteps_fin W hW
  have key : ∃ v, winOk W v ∧ ∀ Φ : Nat → List D → Out D, (∀ s k, Φ 38 [.int s, .int k] = ok (.int (sd s k))) → endK (evSs Φ wf c_law_window.body (startS c_law_window.nn [W.D, .int s])) = ok (.tuple (v.map stepD)) := by
    have hx : ∃ bs : List (Nat × Nat), bs.Sublist (msteps W) ∧ ∀ (Φ : Nat → List D → Out D) (q : Sl), (∀ s k, Φ 38 [.int s, .int k] = ok (.int (sd s k))) → lcM (lcF Φ (.two 5 6) (.so (.cmp .eq (.bin .mod (.bin .fdiv (.call 38 (.cons (.var 1) (.cons (.var 5) .nil))) (.con (.int 7))) (.con (.int 3))) (.con (.int 0)))) (.var 6) [.fz W.D, .fz (.int s), .fz (.list ((msteps W).map stepD)), q, .no, .no, .no, .no]) (enumD 0 ((msteps W).map stepD)) = ok (bs.map stepD) := by
      obtain ⟨bs, b1, b2⟩ := enum_sub (f := fun x => match x with
        | .tuple [.int j, y] => ok (if decide (sd s j / 7 % 3 = 0) = true then some y else none)
        | _ => bad) (t := fun j => decide (sd s j / 7 % 3 = 0)) (i := stepD) (msteps W) 0 (fun a ha j => rfl)
      refine ⟨bs, b1, fun Φ q h => ?_⟩
      rw [← b2]
      have hcong : ∀ (f g : D → Out (Option D)) (as : List (Nat × Nat)) (k : Nat), (∀ a ∈ as, ∀ j : Nat, f (.tuple [.int j, stepD a]) = g (.tuple [.int j, stepD a])) → lcM f (enumD k (as.map stepD)) = lcM g (enumD k (as.map stepD)) := by
        intro f g as
        induction as with
        | nil => intro k _; rfl
        | cons a as ih =>
          intro k hh
          show (f (.tuple [.int k, stepD a])).bind _ = (g (.tuple [.int k, stepD a])).bind _
          rw [hh a (List.mem_cons_self ..) k, ih (k + 1) fun b hb => hh b (List.mem_cons_of_mem _ hb)]
      refine hcong _ _ _ _ fun a ha j => ?_
      by_cases g : sd s j / 7 % 3 = 0 <;> simp [lcF, h, g]
    obtain ⟨bs, b1, b2⟩ := hx
    have hr : rngB (W.w : Int) = true := rngB_of (by have := i.w3; omega)
    by_cases hb : bs = []
    · have hlen : 0 < (msteps W).length := by rw [m2]; exact i.n1
      obtain ⟨x, hx, e⟩ := atD_mem (l := (msteps W).map stepD) (i := s / 5 % (msteps W).length) (Int.emod_nonneg _ (by omega)) (by
        rw [List.length_map]
        exact Int.emod_lt_of_pos _ (by omega))
      obtain ⟨u, hu, rfl⟩ := List.mem_map.mp hx
      refine ⟨[u], winOk_sub hW (List.singleton_sublist.mpr hu) (by simp), fun Φ h => ?_⟩
      obtain ⟨q, e1⟩ := v_steps (wf := wf) hW Φ s
      have e2 := b2 Φ q h
      have en : enumI (.list ((msteps W).map stepD)) = ok (enumD 0 ((msteps W).map stepD)) := rfl
      have nn := ne_nil_steps bs
      subst hb
      have hl0 : 0 < (msteps W).length := hlen
      simp only [Wd.D] at e1 e2
      simp [c_law_window, Wd.D, hr]
      rw [e1]
      simp [en]
      rw [e2]
      simp at nn
      simp [nn, hl0, e]
    · refine ⟨bs, winOk_sub hW b1 hb, fun Φ h => ?_⟩
      obtain ⟨q, e1⟩ := v_steps (wf := wf) hW Φ s
      have e2 := b2 Φ q h
      have en : enumI (.list ((msteps W).map stepD)) = ok (enumD 0 ((msteps W).map stepD)) := rfl
      have nn := ne_nil_steps bs
      simp only [Wd.D] at e1 e2
      simp [c_law_window, Wd.D, hr]
      rw [e1]
      simp [en]
      rw [e2]
      simp [nn, hb]
  obtain ⟨v, hv, key⟩ := key
  refine ⟨v, hv, fun n => ?_⟩
  refine (call_eq (n := n + 1) tc_law_window rfl).trans ?_
  exact key _ fun s k => v_law_seed (L := L) (wf := wf) (n := n) s k
end FL

set_option maxRecDepth 20000
/-! FLv6: deeds and rows that a script gives. -/
namespace FL
open PySem Out
variable {L : Fn} {wf n : Nat} {W : Wd}
theorem cut_take {α : Type} (xs : List α) (k : Nat) : cut xs none (some (k : Int)) = xs.take k := by
  simp only [cut, sIx, List.drop_zero, Nat.sub_zero]
  rw [if_neg (by omega)]
  have : ((k : Int)).toNat = k := by omega
  rw [this]
  by_cases h : k ≤ xs.length
  · rw [Nat.min_eq_left h]
  · rw [Nat.min_eq_right (by omega), List.take_of_length_le (by omega), List.take_of_length_le (by omega)]
theorem range_pair (k : Nat) : (List.range k).Pairwise (· < ·) := List.pairwise_lt_range
theorem cellsOk_sub {c : List Nat} (h : c.Sublist (List.range W.n)) : cellsOk W c := ⟨fun k hk => List.mem_range.mp (h.subset hk), (range_pair W.n).sublist h⟩
def mcs (W : Wd) (s : Int) : List Nat := (List.range W.n).filter fun (c : Nat) => decide (0 < sd s (c : Int) / 5 % 3)
theorem v_law_deed (hW : W.Ok) (s : Int) : ∃ d : Deed, d.Ok W ∧ ∀ n, call (tblL L) wf (n + 3) 12 [W.D, .int s] = ok d.D := by
  have i := hW.in
  obtain ⟨v, hv, hwin⟩ := v_law_window (L := L) (wf := wf) hW (sd s 3)
  have key : ∃ d : Deed, d.Ok W ∧ ∀ Φ : Nat → List D → Out D, (∀ s k, Φ 38 [.int s, .int k] = ok (.int (sd s k))) → (∀ s, Φ 32 [.int s, .int 9] = ok (.int (s / 97 % 9))) → Φ 45 [W.D, .int (sd s 3)] = ok (.tuple (v.map stepD)) → endK (evSs Φ wf c_law_deed.body (startS c_law_deed.nn [W.D, .int s])) = ok d.D := by
    have hk : (0 ≤ s / 97 % 9 ∧ s / 97 % 9 < 9) := by omega
    obtain ⟨k, ek⟩ : ∃ k, k = s / 97 % 9 := ⟨_, rfl⟩
    rw [← ek] at hk
    have h1 : 0 < W.w := i.w1
    have h2 : 0 < W.h := i.h1
    have hm := mul_ok hW
    have hr : rngB ((W.w : Int) * W.h) = true := by
      have := rngB_of (k := W.n) (by have := i.n6; omega)
      simpa [Wd.n] using this
    have two : ∀ j : Int, j / 7 % 2 = 0 ∨ j / 7 % 2 = 1 := fun j => by omega
    by_cases k0 : k = 0
    · exact ⟨.turn, trivial, fun Φ f1 f2 f3 => by simp [c_law_deed, f2, ← ek, k0, Deed.D]⟩
    by_cases k1 : k = 1
    · rcases two s with g | g
      · exact ⟨.flip true, trivial, fun Φ f1 f2 f3 => by simp [c_law_deed, f2, ← ek, k1, Deed.D, sideD, g]⟩
      · exact ⟨.flip false, trivial, fun Φ f1 f2 f3 => by simp [c_law_deed, f2, ← ek, k1, Deed.D, sideD, g]⟩
    by_cases k4 : k < 4
    · have ea : s / 7 % (W.w : Int) = ((s / 7 % (W.w : Int)).toNat : Nat) := by
        have := Int.emod_nonneg (s / 7) (b := (W.w : Int)) (by omega)
        omega
      have eb : s / 11 % (W.h : Int) = ((s / 11 % (W.h : Int)).toNat : Nat) := by
        have := Int.emod_nonneg (s / 11) (b := (W.h : Int)) (by omega)
        omega
      refine ⟨.shift (s / 7 % (W.w : Int)).toNat (s / 11 % (W.h : Int)).toNat, ⟨?_, ?_⟩, fun Φ f1 f2 f3 => ?_⟩
      · have := Int.emod_lt_of_pos (s / 7) (b := (W.w : Int)) (by omega)
        omega
      · have := Int.emod_lt_of_pos (s / 11) (b := (W.h : Int)) (by omega)
        omega
      · simp only [Deed.D]
        rw [← ea, ← eb]
        simp [c_law_deed, f2, ← ek, k0, k1, k4, Wd.D, h1, h2]
    by_cases k7 : k < 7
    · rcases two s with g | g
      · refine ⟨.great v, hv, fun Φ f1 f2 f3 => ?_⟩
        simp [c_law_deed, f1, f2, f3, ← ek, k0, k1, k4, k7, g, Deed.D]
      · refine ⟨.least v, hv, fun Φ f1 f2 f3 => ?_⟩
        simp [c_law_deed, f1, f2, f3, ← ek, k0, k1, k4, k7, g, Deed.D]
    have e : ∀ Φ : Nat → List D → Out D, (∀ s k, Φ 38 [.int s, .int k] = ok (.int (sd s k))) → lcM (lcF Φ (.one 4) (.so (.cmp .gt (.bin .mod (.bin .fdiv (.call 38 (.cons (.var 1) (.cons (.var 4) .nil))) (.con (.int 5))) (.con (.int 3))) (.con (.int 0)))) (.var 4) [.fz W.D, .fz (.int s), .fz (.int k), .no, .no]) ((List.range W.n).map fun k : Nat => PyData.int k) = ok ((mcs W s).map fun k : Nat => PyData.int k) := by
      intro Φ f1
      refine lcM_filterI (p := fun c : Nat => decide (0 < sd s c / 5 % 3)) (i := fun k : Nat => PyData.int k) (g := fun k : Nat => PyData.int k) fun c hc => ?_
      by_cases g : 0 < sd s c / 5 % 3 <;> simp [lcF, f1, g]
    have en : rangeD ((W.w : Int) * W.h) = (List.range W.n).map fun k : Nat => PyData.int k := by
      have := rangeD_nat W.n
      simpa [Wd.n] using this
    have hs : (mcs W s).Sublist (List.range W.n) := List.filter_sublist
    by_cases k8 : k = 7
    · refine ⟨.mask (mcs W s), cellsOk_sub hs, fun Φ f1 f2 f3 => ?_⟩
      have e' := e Φ f1
      simp only [Wd.D] at e'
      simp [c_law_deed, f2, ← ek, k0, k1, k4, k7, Wd.D, hm, hr, en]
      rw [e']
      simp [k8, Deed.D, natsD]
    · have k9 : k = 8 := by omega
      have three : s / 7 % 3 = 0 ∨ s / 7 % 3 = 1 ∨ s / 7 % 3 = 2 := by omega
      have c9 := cut_take (α := D) ((mcs W s).map fun k : Nat => PyData.int k) 9
      have c2 := cut_take (α := D) ((mcs W s).map fun k : Nat => PyData.int k) 2
      have c1 := cut_take (α := D) ((mcs W s).map fun k : Nat => PyData.int k) 1
      rcases three with g | g | g
      · refine ⟨.lift ((mcs W s).take 9), cellsOk_sub ((List.take_sublist _ _).trans hs), fun Φ f1 f2 f3 => ?_⟩
        have e' := e Φ f1
        simp only [Wd.D] at e'
        simp [c_law_deed, f2, ← ek, k0, k1, k4, k7, Wd.D, hm, hr, en]
        rw [e']
        simp [k9, Deed.D, natsD, g] at c9 ⊢
        rw [c9]
      · refine ⟨.lift ((mcs W s).take 1), cellsOk_sub ((List.take_sublist _ _).trans hs), fun Φ f1 f2 f3 => ?_⟩
        have e' := e Φ f1
        simp only [Wd.D] at e'
        simp [c_law_deed, f2, ← ek, k0, k1, k4, k7, Wd.D, hm, hr, en]
        rw [e']
        simp [k9, Deed.D, natsD, g]
      · refine ⟨.lift ((mcs W s).take 2), cellsOk_sub ((List.take_sublist _ _).trans hs), fun Φ f1 f2 f3 => ?_⟩
        have e' := e Φ f1
        simp only [Wd.D] at e'
        simp [c_law_deed, f2, ← ek, k0, k1, k4, k7, Wd.D, hm, hr, en]
        rw [e']
        simp [k9, Deed.D, natsD, g] at c2 ⊢
        rw [c2]
  obtain ⟨d, hd, key⟩ := key
  refine ⟨d, hd, fun n => ?_⟩
  refine (call_eq (n := n + 2) tc_law_deed rfl).trans ?_
  exact key _ (fun s k => v_law_seed (L := L) (wf := wf) (n := n + 1) s k) (fun s => v_law_pick (L := L) (wf := wf) (n := n + 1) s (by decide)) (hwin n)
/-- the deed that a number gives -/
theorem v_law_rowG (hW : W.Ok) {Sc : D} {ns : List Int} (hS : Scr Sc ns) {at_ most : Int} (ha : 0 ≤ at_) (hm0 : 0 ≤ most) (hm6 : most ≤ 1000) : ∃ r : List Deed, RowOk W r ∧ r.length ≤ most.toNat ∧ ∀ n, call (tblL L) wf (n + 4) 36 [W.D, Sc, .int at_, .int most] = ok (rowD r) := by
  have hd : ∀ s : Int, ∃ d : Deed, d.Ok W ∧ ∀ n, call (tblL L) wf (n + 3) 12 [W.D, .int s] = ok d.D := fun s => v_law_deed hW s
  obtain ⟨F, hF⟩ := Classical.axiomOfChoice hd
  let g : Nat → Int := fun k => sd (cel ns (at_ + 1 + (k : Int) % 3) + 41 * k) k
  let N : Nat := (cel ns at_ % (most + 1)).toNat
  have hN : ((N : Nat) : Int) = cel ns at_ % (most + 1) := by
    have := Int.emod_nonneg (cel ns at_) (b := most + 1) (by omega)
    show (((cel ns at_ % (most + 1)).toNat : Nat) : Int) = _
    omega
  have hN2 : N ≤ most.toNat := by
    have := Int.emod_lt_of_pos (cel ns at_) (b := most + 1) (by omega)
    omega
  refine ⟨(List.range N).map fun k => F (g k), fun d hd => ?_, by simpa using hN2, fun n => ?_⟩
  · obtain ⟨k, _, rfl⟩ := List.mem_map.mp hd
    exact (hF _).1
  refine (call_eq (n := n + 3) tc_law_row rfl).trans ?_
  have f1 := fun (k : Int) (h : 0 ≤ k) => v_law_cellG (L := L) (wf := wf) (n := n + 2) hS h
  have f2 := fun s k => v_law_seed (L := L) (wf := wf) (n := n + 2) s k
  have f3 := fun s => (hF s).2 n
  obtain ⟨Φ, hΦ⟩ : ∃ Φ, Φ = call (tblL L) wf (n + 3) := ⟨_, rfl⟩
  rw [← hΦ] at f1 f2 f3 ⊢
  clear hΦ
  obtain ⟨S', e, q, eS⟩ := forM_invI (f := forF Φ wf (.one 5) (.cons (.app 4 (.call 12 (.cons (.var 0) (.cons (.call 38 (.cons (.bin .add (.call 10 (.cons (.var 1) (.cons (.bin .add (.bin .add (.var 2) (.con (.int 1))) (.bin .mod (.var 5) (.con (.int 3)))) .nil))) (.bin .mul (.con (.int 41)) (.var 5))) (.cons (.var 5) .nil))) .nil)))) .nil)) (i := fun k : Nat => PyData.int k) (as := List.range N) (S := [.fz W.D, .fz Sc, .fz (.int at_), .fz (.int most), .ow (.list []), .no]) (fun pre S => ∃ q, S = [.fz W.D, .fz Sc, .fz (.int at_), .fz (.int most), .ow (.list (pre.map fun k => (F (g k)).D)), q]) ⟨_, rfl⟩ (by
    rintro pre k post S er ⟨q, rfl⟩
    have hl : fits pre.length = true := fits_of (by
      have := congrArg List.length er
      simp at this
      omega)
    have hmu : mulOk 41 (k : Int) = true := mulOk_smallL (by decide) (by decide)
    have f1' := f1 (at_ + 1 + (k : Int) % 3) (by omega)
    have f3' := f3 (g k)
    simp only [g] at f3'
    refine ⟨_, ?_, ⟨.fz (.int k), rfl⟩⟩
    simp [forF, f1', f2, hmu, hl, f3', g])
  have hr : rngB ((N : Nat) : Int) = true := rngB_of (by omega)
  have e' : forM (forF Φ wf (.one 5) (.cons (.app 4 (.call 12 (.cons (.var 0) (.cons (.call 38 (.cons (.bin .add (.call 10 (.cons (.var 1) (.cons (.bin .add (.bin .add (.var 2) (.con (.int 1))) (.bin .mod (.var 5) (.con (.int 3)))) .nil))) (.bin .mul (.con (.int 41)) (.var 5))) (.cons (.var 5) .nil))) .nil)))) .nil)) (rangeD (cel ns at_ % (most + 1))) [.fz W.D, .fz Sc, .fz (.int at_), .fz (.int most), .ow (.list []), .no] = ok (.nx S') := by
    rw [← hN, rangeD_nat]
    exact e
  rw [hN] at hr
  have hmo : 0 < most + 1 := by omega
  simp [c_law_row, f1 at_ ha, hmo, hr]
  rw [e', eS]
  simp [rowD, Function.comp_def]
theorem v_law_row (hW : W.Ok) (ns : List Int) {at_ most : Int} (ha : 0 ≤ at_) (hm0 : 0 ≤ most) (hm6 : most ≤ 1000) : ∃ r : List Deed, RowOk W r ∧ r.length ≤ most.toNat ∧ ∀ n, call (tblL L) wf (n + 4) 36 [W.D, scr ns, .int at_, .int most] = ok (rowD r) := v_law_rowG hW (Scr.scr ns) ha hm0 hm6
end FL

set_option maxRecDepth 20000
/-! FLv7: the picture that parts two rows; needless deeds; the shortest row. -/
namespace FL
open PySem Out
variable {L : Fn} {wf n : Nat} {W : Wd}
theorem v_all_pictures (hW : W.Ok) : call (tblL L) wf (n + 1) 53 [W.D] = ok (.list ((mevery W).map picD)) := by
  have h : ∀ W ∈ worlds, call (tblL L) wf (n + 1) 53 [W.D] = ok (.list ((mevery W).map picD)) := by
    unfold worlds
    simp only [List.forall_mem_cons, List.not_mem_nil, false_implies, implies_true, and_true]
    exact ⟨by kernel_rfl, by kernel_rfl, by kernel_rfl, by kernel_rfl, by kernel_rfl, by kernel_rfl, by kernel_rfl, by kernel_rfl, by kernel_rfl, by kernel_rfl, by kernel_rfl, by kernel_rfl, by kernel_rfl, by kernel_rfl, by kernel_rfl, by kernel_rfl⟩
  exact h W hW
/-- a loop that ends at the first that is looked for -/
theorem forM_find {α : Type} {f : D → St → Out Fl} {i : α → D} {p : α → Bool} {g : α → D} (I : St → Prop) : ∀ {as : List α} {S : St}, I S → (∀ a ∈ as, ∀ S, I S → ∃ S', I S' ∧ f (i a) S = if p a = true then ok (.rt (g a)) else ok (.nx S')) → (∃ S', I S' ∧ forM f (as.map i) S = match as.find? p with
    | some a => ok (.rt (g a))
    | none => ok (.nx S'))
  | [], S, h, _ => ⟨S, h, rfl⟩
  | a :: as, S, h, hs => by
    obtain ⟨S1, h1, e1⟩ := hs a (List.mem_cons_self ..) S h
    rw [List.map_cons, forM_cons, e1]
    by_cases q : p a = true
    · refine ⟨S1, h1, ?_⟩
      rw [if_pos q, List.find?_cons_of_pos q]
      rfl
    · obtain ⟨S2, h2, e2⟩ := forM_find I h1 fun b hb => hs b (List.mem_cons_of_mem _ hb)
      refine ⟨S2, h2, ?_⟩
      rw [if_neg q, seqK_nx, e2, List.find?_cons_of_neg (by simpa using q)]
/-- the least picture that parts two rows -/
def mparted (W : Wd) (r s : List Deed) : Option Pic := (mevery W).find? fun p => decide (mall W p r ≠ mall W p s)
def optD : Option Pic → D
  | none => .none
  | some p => picD p
theorem first_core {Φ : Nat → List D → Out D} {a b : Nat} {r s : List Deed} (fn : Fn) (hfn : fn = ⟨3, 4, (.cons (.for_ (.one 3) (.seq (.call a (.cons (.var 0) .nil)))
 (.cons (.iff (.cmp .ne (.call b (.cons (.var 0) (.cons (.var 3) (.cons (.var 1) .nil)))) (.call b (.cons (.var 0) (.cons (.var 3) (.cons (.var 2) .nil)))))
 (.cons (.ret (.var 3))
 .nil)
 .nil)
 .nil))
 (.cons (.ret (.con .none))
 .nil))⟩) (f1 : Φ a [W.D] = ok (.list ((mevery W).map picD))) (f2 : ∀ p, PicOk W p → Φ b [W.D, picD p, rowD r] = ok (picD (mall W p r)) ∧ Φ b [W.D, picD p, rowD s] = ok (picD (mall W p s))) : endK (evSs Φ wf fn.body (startS fn.nn [W.D, rowD r, rowD s])) = ok (optD (mparted W r s)) := by
  subst hfn
  obtain ⟨S', ⟨q, rfl⟩, e⟩ := forM_find (f := forF Φ wf (.one 3) (.cons (.iff (.cmp .ne (.call b (.cons (.var 0) (.cons (.var 3) (.cons (.var 1) .nil)))) (.call b (.cons (.var 0) (.cons (.var 3) (.cons (.var 2) .nil))))) (.cons (.ret (.var 3)) .nil) .nil) .nil)) (i := picD) (p := fun p => decide (mall W p r ≠ mall W p s)) (g := picD) (fun S => ∃ q, S = [.fz W.D, .fz (rowD r), .fz (rowD s), q]) (as := mevery W) (S := [.fz W.D, .fz (rowD r), .fz (rowD s), .no]) ⟨_, rfl⟩ (by
    rintro p hp S ⟨q, rfl⟩
    obtain ⟨h1, h2⟩ := f2 p (mevery_ok W p hp)
    refine ⟨_, ⟨.fz (picD p), rfl⟩, ?_⟩
    have hn : ∀ x y, cop .ne (picD x) (picD y) = ok (.bool (!decide (x = y))) := fun x y => cop_neP x y
    by_cases g : mall W p r = mall W p s <;> simp [forF, h1, h2, hn, g])
  simp [f1]
  rw [e]
  unfold mparted
  cases (mevery W).find? fun p => decide (mall W p r ≠ mall W p s) <;> simp [optD]
theorem v_first_parted (hW : W.Ok) {r s : List Deed} (hr : RowOk W r) (hs : RowOk W s) : call (tblL L) wf (n + 5) 63 [W.D, rowD r, rowD s] = ok (optD (mparted W r s)) := by
  refine (call_eq (n := n + 4) tc_first_parted rfl).trans ?_
  exact first_core c_first_parted rfl (v_all_pictures (n := n + 3) hW) fun p hp => ⟨v_all_done (n := n) hW hp hr, v_all_done (n := n) hW hp hs⟩
theorem v_law_parted (hW : W.Ok) {r s : List Deed} (hr : RowOk W r) (hs : RowOk W s) : call (tblL L) wf (n + 3) 30 [W.D, rowD r, rowD s] = ok (optD (mparted W r s)) := by
  refine (call_eq (n := n + 2) tc_law_parted rfl).trans ?_
  exact first_core c_law_parted rfl (v_law_every (n := n + 1) hW) fun p hp => ⟨v_law_after (n := n) hW hp hr, v_law_after (n := n) hW hp hs⟩
theorem v_parts (hW : W.Ok) {r s : List Deed} (hr : RowOk W r) (hs : RowOk W s) (lr : r.length ≤ 6) (ls : s.length ≤ 6) : call (tblL L) wf (n + 6) 93 [W.D, rowD r, rowD s] = ok (optD (mparted W r s)) := by
  refine (call_eq (n := n + 5) tc_parts rfl).trans ?_
  have h1 := v_look_row (L := L) (wf := wf) (n := n) hW hr lr
  have h2 := v_look_row (L := L) (wf := wf) (n := n) hW hs ls
  have h3 := v_first_parted (L := L) (wf := wf) (n := n) hW hr hs
  obtain ⟨Φ, hΦ⟩ : ∃ Φ, Φ = call (tblL L) wf (n + 5) := ⟨_, rfl⟩
  rw [← hΦ] at h1 h2 h3 ⊢
  clear hΦ
  simp [c_parts, h1, h2, h3]
theorem isN_opt (o : Option Pic) : isNB true (optD o) = o.isNone := by cases o <;> rfl
theorem v_alike (hW : W.Ok) {r s : List Deed} (hr : RowOk W r) (hs : RowOk W s) (lr : r.length ≤ 6) (ls : s.length ≤ 6) : call (tblL L) wf (n + 7) 51 [W.D, rowD r, rowD s] = ok (.bool (mparted W r s).isNone) := by
  refine (call_eq (n := n + 6) tc_alike rfl).trans ?_
  have h1 := v_parts (L := L) (wf := wf) (n := n) hW hr hs lr ls
  obtain ⟨Φ, hΦ⟩ : ∃ Φ, Φ = call (tblL L) wf (n + 6) := ⟨_, rfl⟩
  rw [← hΦ] at h1 ⊢
  clear hΦ
  simp [c_alike, h1, isN_opt]
/-! ### alike rows -/
theorem mparted_none {r s : List Deed} : mparted W r s = none ↔ ∀ p ∈ mevery W, mall W p r = mall W p s := by
  unfold mparted
  rw [List.find?_eq_none]
  simp
/-! ### a deed left out -/
def del (r : List Deed) (k : Nat) : List Deed := r.take k ++ r.drop (k + 1)
theorem del_ok {r : List Deed} (h : RowOk W r) (k : Nat) : RowOk W (del r k) := fun d hd => by
  rcases List.mem_append.mp hd with hd | hd
  · exact h d (List.mem_of_mem_take hd)
  · exact h d (List.mem_of_mem_drop hd)
theorem del_len {r : List Deed} {k : Nat} (h : k < r.length) : (del r k).length = r.length - 1 := by
  simp [del]
  omega
def mneed (W : Wd) (r : List Deed) : List Nat := (List.range r.length).filter fun k => (mparted W r (del r k)).isNone
theorem cut_drop {α : Type} (xs : List α) (k : Nat) : cut xs (some (k : Int)) none = xs.drop k := by
  simp only [cut, sIx]
  rw [if_neg (by omega)]
  have : ((k : Int)).toNat = k := by omega
  rw [this]
  by_cases h : k ≤ xs.length
  · rw [Nat.min_eq_left h, List.take_of_length_le (by simp)]
  · rw [Nat.min_eq_right (by omega), List.drop_of_length_le (by omega), List.drop_of_length_le (by omega)]
    simp
theorem slc_lo (r : List Deed) (k : Nat) : slc none (some (k : Int)) (rowD r) = ok (rowD (r.take k)) := by
  simp only [rowD, slc_tuple, cut_take]
  rw [List.map_take]
theorem slc_hi (r : List Deed) (k : Nat) : slc (some ((k : Int) + 1)) none (rowD r) = ok (rowD (r.drop (k + 1))) := by
  have := cut_drop (r.map Deed.D) (k + 1)
  simp only [rowD, slc_tuple]
  rw [show ((k : Int) + 1) = ((k + 1 : Nat) : Int) by simp, this, List.map_drop]
theorem row_add (r s : List Deed) (h : r.length + s.length ≤ 1000) : bop .add (rowD r) (rowD s) = ok (rowD (r ++ s)) := by
  have hf : fits (r.length + s.length) = true := fits_of (by omega)
  simp [rowD, hf]
theorem need_core {Φ : Nat → List D → Out D} {r : List Deed} {j a : Nat} {S : St} (q : Nat) (hl : r.length ≤ 6)
    (f1 : ∀ k, k < r.length → Φ a [W.D, rowD r, rowD (del r k)] = ok (optD (mparted W r (del r k)))) (w0 : ∀ x, getF (S.set q x) j = ok (rowD r)) (w1 : ∀ x, getF (S.set q x) i = ok W.D) (w2 : ∀ d, getF (S.set q (.fz d)) q = ok d) :
    lcM (lcF Φ (.one q) (.so (.isN true (.call a (.cons (.var i) (.cons (.var j) (.cons (.bin .add (.slc (.var j) .no (.so (.var q))) (.slc (.var j) (.so (.bin .add (.var q) (.con (.int 1)))) .no)) .nil)))))) (.var q) S) ((List.range r.length).map fun k : Nat => PyData.int k) = ok ((mneed W r).map fun k : Nat => PyData.int k) := by
  refine lcM_filterI (p := fun k : Nat => (mparted W r (del r k)).isNone) (i := fun k : Nat => PyData.int k) (g := fun k : Nat => PyData.int k) fun k hk => ?_
  have hk : k < r.length := List.mem_range.mp hk
  have e := f1 k hk
  have ea := row_add (r.take k) (r.drop (k + 1)) (by simp; omega)
  simp only [del] at e
  by_cases g : (mparted W r (del r k)).isNone = true <;> simp only [del] at g <;> simp [lcF, w0, w1, w2, slc_lo, slc_hi, ea, e, isN_opt, g, del]
theorem need_mem {r : List Deed} {k : Nat} (h : k ∈ mneed W r) : k < r.length ∧ mparted W r (del r k) = none := by
  simp only [mneed, List.mem_filter, List.mem_range] at h
  exact ⟨h.1, by simpa using h.2⟩
theorem v_needless (hW : W.Ok) {r : List Deed} (hr : RowOk W r) (lr : r.length ≤ 6) : call (tblL L) wf (n + 6) 92 [W.D, rowD r] = ok (.list ((mneed W r).map fun k : Nat => PyData.int k)) := by
  refine (call_eq (n := n + 5) tc_needless rfl).trans ?_
  have h1 := v_look_row (L := L) (wf := wf) (n := n) hW hr lr
  have h2 := fun k => v_first_parted (L := L) (wf := wf) (n := n) hW hr (del_ok hr k)
  obtain ⟨Φ, hΦ⟩ : ∃ Φ, Φ = call (tblL L) wf (n + 5) := ⟨_, rfl⟩
  rw [← hΦ] at h1 h2 ⊢
  clear hΦ
  have e := need_core (W := W) (Φ := Φ) (r := r) (i := 0) (j := 1) (a := 63) (S := [.fz W.D, .fz (rowD r), .no]) 2 lr (fun k _ => h2 k) (fun x => by simp) (fun x => by simp) (fun d => by simp)
  have hg : rngB (r.length : Int) = true := rngB_of (by omega)
  have hl : b1 .len (rowD r) = ok (.int r.length) := by simp [rowD]
  simp [c_needless, h1, hl, hg, rangeD_nat]
  rw [e]
  simp
/-! ### deeds left out again and again -/
def mshortN (W : Wd) : Nat → List Deed → List Deed
  | 0, r => r
  | k + 1, r => match (mneed W r).getLast? with
    | none => r
    | some a => mshortN W k (del r a)
def mshort (W : Wd) (r : List Deed) : List Deed := mshortN W r.length r
theorem need_nil {r : List Deed} (h : r.length = 0) : mneed W r = [] := by simp [mneed, h]
theorem shortN_none : ∀ (k : Nat) {r : List Deed}, r.length ≤ k → mneed W (mshortN W k r) = []
  | 0, r, h => need_nil (r := r) (by omega)
  | k + 1, r, h => by
    cases e : (mneed W r).getLast? with
    | none =>
      have : mshortN W (k + 1) r = r := by simp [mshortN, e]
      rw [this]
      exact List.getLast?_eq_none_iff.mp e
    | some a =>
      have : mshortN W (k + 1) r = mshortN W k (del r a) := by simp [mshortN, e]
      rw [this]
      have ha := need_mem (List.mem_of_getLast? e)
      exact shortN_none k (by rw [del_len ha.1]; omega)
theorem shortN_like : ∀ (k : Nat) {r : List Deed}, ∀ p ∈ mevery W, mall W p (mshortN W k r) = mall W p r
  | 0, r, p, _ => rfl
  | k + 1, r, p, hp => by
    cases e : (mneed W r).getLast? with
    | none => simp [mshortN, e]
    | some a =>
      have : mshortN W (k + 1) r = mshortN W k (del r a) := by simp [mshortN, e]
      rw [this, shortN_like k p hp]
      exact (mparted_none.mp (need_mem (List.mem_of_getLast? e)).2 p hp).symm
theorem shortN_ok : ∀ (k : Nat) {r : List Deed}, RowOk W r → RowOk W (mshortN W k r)
  | 0, r, h => h
  | k + 1, r, h => by
    cases e : (mneed W r).getLast? with
    | none => simpa [mshortN, e] using h
    | some a =>
      have : mshortN W (k + 1) r = mshortN W k (del r a) := by simp [mshortN, e]
      rw [this]
      exact shortN_ok k (del_ok h a)
theorem shortN_len : ∀ (k : Nat) {r : List Deed}, (mshortN W k r).length ≤ r.length
  | 0, r => Nat.le_refl _
  | k + 1, r => by
    cases e : (mneed W r).getLast? with
    | none => simp [mshortN, e]
    | some a =>
      have : mshortN W (k + 1) r = mshortN W k (del r a) := by simp [mshortN, e]
      rw [this]
      have ha := need_mem (List.mem_of_getLast? e)
      have := shortN_len k (r := del r a)
      rw [del_len ha.1] at this
      omega
/-- a while that leaves deeds out -/
theorem whl_short {c : St → Out Bool} {f : St → Out Fl} {st : List Deed → St} (hc : ∀ r, RowOk W r → r.length ≤ 6 → c (st r) = ok (!(mneed W r).isEmpty)) (hf : ∀ r a, RowOk W r → r.length ≤ 6 → (mneed W r).getLast? = some a → f (st r) = ok (.nx (st (del r a)))) : ∀ (k m : Nat) (r : List Deed), RowOk W r → r.length ≤ 6 → r.length ≤ k → k < m → whlM c f m (st r) = ok (.nx (st (mshortN W k r)))
  | _, 0, _, _, _, _, h => by omega
  | 0, m + 1, r, hr, lr, hk, _ => by
    have e : mneed W r = [] := need_nil (by omega)
    show (c (st r)).bind _ = _
    rw [hc r hr lr, e]
    rfl
  | k + 1, m + 1, r, hr, lr, hk, hm => by
    show (c (st r)).bind _ = _
    rw [hc r hr lr]
    cases e : (mneed W r).getLast? with
    | none =>
      have e2 := List.getLast?_eq_none_iff.mp e
      have : mshortN W (k + 1) r = r := by simp [mshortN, e]
      rw [this, e2]
      rfl
    | some a =>
      have this : mshortN W (k + 1) r = mshortN W k (del r a) := by simp [mshortN, e]
      have ha := need_mem (List.mem_of_getLast? e)
      have hne : (mneed W r).isEmpty = false := by
        cases q : mneed W r with
        | nil => rw [q] at e; cases e
        | cons _ _ => rfl
      rw [this, hne]
      show (f (st r)).bind _ = _
      rw [hf r a hr lr e]
      have hl := del_len ha.1
      exact whl_short hc hf k m (del r a) (del_ok hr a) (by omega) (by omega) (by omega)
theorem last_need {r : List Deed} {a : Nat} (e : (mneed W r).getLast? = some a) : atD ((mneed W r).map fun k : Nat => PyData.int k) (-1) = some (.int (a : Nat)) := by
  have hne : mneed W r ≠ [] := fun q => by rw [q] at e; cases e
  have hm : ((mneed W r).map fun k : Nat => PyData.int k) ≠ [] := by simpa using hne
  rw [atD_last hm, List.getLast_map]
  rw [List.getLast?_eq_some_getLast hne] at e
  cases e
  rfl
theorem v_shortest (hW : W.Ok) (hw : 7 ≤ wf) {r : List Deed} (hr : RowOk W r) (lr : r.length ≤ 6) : call (tblL L) wf (n + 7) 107 [W.D, rowD r] = ok (rowD (mshort W r)) := by
  refine (call_eq (n := n + 6) tc_shortest rfl).trans ?_
  have h1 := fun (r : List Deed) (hr : RowOk W r) (lr : r.length ≤ 6) => v_needless (L := L) (wf := wf) (n := n) hW hr lr
  obtain ⟨Φ, hΦ⟩ : ∃ Φ, Φ = call (tblL L) wf (n + 6) := ⟨_, rfl⟩
  rw [← hΦ] at h1 ⊢
  clear hΦ
  have e := whl_short (W := W) (c := fun S => (ev Φ (.var 2) S).bind tru) (f := fun S => evSs Φ wf (.cons (.set 1 (.bin .add (.slc (.var 1) .no (.so (.idx (.var 2) (.neg (.con (.int 1)))))) (.slc (.var 1) (.so (.bin .add (.idx (.var 2) (.neg (.con (.int 1)))) (.con (.int 1)))) .no))) (.cons (.set 2 (.call 92 (.cons (.var 0) (.cons (.var 1) .nil)))) .nil)) S) (st := fun r => [.fz W.D, .fz (rowD r), .fz (.list ((mneed W r).map fun k : Nat => PyData.int k))]) (fun r hr lr => by simp) (fun r a hr lr ea => by
      have hl := last_need ea
      have ha := need_mem (List.mem_of_getLast? ea)
      have eb := row_add (r.take a) (r.drop (a + 1)) (by simp; omega)
      have h2 := h1 (del r a) (del_ok hr a) (by rw [del_len ha.1]; omega)
      simp only [del] at h2
      simp [hl, slc_lo, slc_hi, eb, h2, del]) r.length wf r hr lr (Nat.le_refl _) (by omega)
  have e0 : evS Φ wf (.set 2 (.call 92 (.cons (.var 0) (.cons (.var 1) .nil)))) [.fz W.D, .fz (rowD r), .no] = ok (.nx [.fz W.D, .fz (rowD r), .fz (.list ((mneed W r).map fun k : Nat => PyData.int k))]) := by simp [h1 r hr lr]
  show endK (seqK (evS Φ wf (.set 2 (.call 92 (.cons (.var 0) (.cons (.var 1) .nil)))) [.fz W.D, .fz (rowD r), .no]) fun S1 => seqK (whlM (fun S => (ev Φ (.var 2) S).bind tru) (fun S => evSs Φ wf (.cons (.set 1 (.bin .add (.slc (.var 1) .no (.so (.idx (.var 2) (.neg (.con (.int 1)))))) (.slc (.var 1) (.so (.bin .add (.idx (.var 2) (.neg (.con (.int 1)))) (.con (.int 1)))) .no))) (.cons (.set 2 (.call 92 (.cons (.var 0) (.cons (.var 1) .nil)))) .nil)) S) wf S1) fun S2 => evSs Φ wf (.cons (.ret (.var 1)) .nil) S2) = _
  rw [e0, seqK_nx, e]
  simp [mshort]
end FL

set_option maxRecDepth 20000
/-! FLv8: data alike themselves; mixed numbers. -/
namespace FL
open PySem Out
variable {L : Fn} {wf n : Nat} {W : Wd}
mutual
theorem eqv_refl : ∀ d : D, d.canLay0 = true → PyData.eqv d d = true
  | .none, _ => rfl
  | .bool b, _ => by
    show (b == b) = true
    simp
  | .int i, _ => by
    show (i == i) = true
    simp
  | .str s, _ => by
    show (s == s) = true
    simp
  | .list xs, h => eqvAll_refl xs h
  | .tuple xs, h => eqvAll_refl xs h
  | .dict _, h => by cases h
theorem eqvAll_refl : ∀ xs : List D, PyData.canLayAll0 xs = true → PyData.eqvAll xs xs = true
  | [], _ => rfl
  | x :: xs, h => by
    have h' : (x.canLay0 && PyData.canLayAll0 xs) = true := h
    rw [Bool.and_eq_true] at h'
    show (PyData.eqv x x && PyData.eqvAll xs xs) = true
    rw [eqv_refl x h'.1, eqvAll_refl xs h'.2]
    rfl
end
theorem eq_self {n : Nat} {d : D} (h : shN n d) (hn : n ≤ 64) : cop .eq d d = ok (.bool true) := by
  show guard (shp d && shp d) (ok (PyData.bool (PyData.eqv d d))) = _
  rw [shp_of h hn, eqv_refl d h.1]
  rfl
theorem ne_self {n : Nat} {d : D} (h : shN n d) (hn : n ≤ 64) : cop .ne d d = ok (.bool false) := by
  show guard (shp d && shp d) (ok (PyData.bool (!PyData.eqv d d))) = _
  rw [shp_of h hn, eqv_refl d h.1]
  rfl
theorem shN_nats (c : List Nat) : shN 1 (natsD c) := shN_tuple fun x hx => by
  obtain ⟨k, _, rfl⟩ := List.mem_map.mp hx
  exact shN_int 0 _
theorem shN_steps (v : List (Nat × Nat)) : shN 2 (.tuple (v.map stepD)) := shN_tuple fun x hx => by
  obtain ⟨k, _, rfl⟩ := List.mem_map.mp hx
  exact shN_step k
theorem shN_deed (d : Deed) : shN 3 d.D := by
  cases d with
  | turn =>
    refine shN_tuple fun x hx => ?_
    simp at hx
    subst hx
    exact shN_str (by decide +kernel)
  | flip a =>
    refine shN_tuple fun x hx => ?_
    simp at hx
    rcases hx with rfl | rfl
    · exact shN_str (by decide +kernel)
    · cases a <;> exact shN_str (by decide +kernel)
  | shift a b =>
    refine shN_tuple fun x hx => ?_
    simp at hx
    rcases hx with rfl | rfl | rfl
    · exact shN_str (by decide +kernel)
    · exact shN_int _ _
    · exact shN_int _ _
  | great v =>
    refine shN_tuple fun x hx => ?_
    simp at hx
    rcases hx with rfl | rfl
    · exact shN_str (by decide +kernel)
    · exact shN_steps v
  | least v =>
    refine shN_tuple fun x hx => ?_
    simp at hx
    rcases hx with rfl | rfl
    · exact shN_str (by decide +kernel)
    · exact shN_steps v
  | mask c =>
    refine shN_tuple fun x hx => ?_
    simp at hx
    rcases hx with rfl | rfl
    · exact shN_str (by decide +kernel)
    · exact shN_mono (shN_nats c) (by decide)
  | lift c =>
    refine shN_tuple fun x hx => ?_
    simp at hx
    rcases hx with rfl | rfl
    · exact shN_str (by decide +kernel)
    · exact shN_mono (shN_nats c) (by decide)
theorem shN_row (r : List Deed) : shN 4 (rowD r) := shN_tuple fun x hx => by
  obtain ⟨d, _, rfl⟩ := List.mem_map.mp hx
  exact shN_deed d
theorem shN_natL (c : List Nat) : shN 1 (.list (c.map fun k : Nat => PyData.int k)) := shN_list fun x hx => by
  obtain ⟨k, _, rfl⟩ := List.mem_map.mp hx
  exact shN_int 0 _
theorem natL_ne (c : List Nat) : cop .ne (.list (c.map fun k : Nat => PyData.int k)) (.list []) = ok (.bool (!c.isEmpty)) := by
  show guard (shp _ && shp _) _ = _
  have h0 : shp (.list []) = true := by decide
  rw [shp_of (shN_natL c) (by decide), h0]
  cases c <;> rfl
theorem v_law_mix (c : Int) {p m : Int} (hp : 0 < p) (hp2 : p.natAbs < 1000000) (hm : 0 < m) : call (tblL L) wf (n + 1) 28 [.int c, .int p, .int m] = ok (.int ((c * 48271 % p) ^ 3 % p % m)) := by
  refine (call_eq (n := n) tc_law_mix rfl).trans ?_
  obtain ⟨Φ, hΦ⟩ : ∃ Φ, Φ = call (tblL L) wf n := ⟨_, rfl⟩
  rw [← hΦ]
  clear hΦ
  have h1 : mulOk c 48271 = true := mulOk_small (by decide) (by decide)
  have h3 : (c * 48271 % p).natAbs < 18446744073709551616 := by
    have := Int.emod_nonneg (c * 48271) (b := p) (by omega)
    have := Int.emod_lt_of_pos (c * 48271) hp
    omega
  simp [c_law_mix, h1, h3, hp, hm]
end FL

set_option maxRecDepth 20000
/-! FLv9: deeds led past free ones. -/
namespace FL
open PySem Out
variable {L : Fn} {wf n : Nat} {W : Wd}
def Deed.free : Deed → Bool
  | .turn => true
  | .flip _ => true
  | .shift _ _ => true
  | _ => false
def ledStep (W : Wd) (a : Bool) (s : Nat × Nat) : Nat × Nat := if a = true then ((W.w - s.1) % W.w, s.2) else (s.1, (W.h - s.2) % W.h)
def ledCells (W : Wd) (f : Deed) (cs : List Nat) : List Nat := (List.range W.n).filter fun c => decide (mv W f c ∈ cs)
def restOf (W : Wd) (cs : List Nat) : List Nat := (List.range W.n).filter fun c => decide (c ∉ cs)
def stepLe (s u : Nat × Nat) : Bool := decide (s.1 < u.1 ∨ (s.1 = u.1 ∧ s.2 ≤ u.2))
def srtS (v : List (Nat × Nat)) : List (Nat × Nat) := v.mergeSort stepLe
def mpast (W : Wd) : Deed → Deed → Deed
  | .turn, .great v => .least v
  | .turn, .least v => .great v
  | .turn, .mask c => .lift (restOf W c)
  | .turn, .lift c => .mask (restOf W c)
  | f, .mask c => .mask (ledCells W f c)
  | f, .lift c => .lift (ledCells W f c)
  | .flip a, .great v => .great (srtS (v.map (ledStep W a)))
  | .flip a, .least v => .least (srtS (v.map (ledStep W a)))
  | _, d => d
/-! ### sorted steps -/
theorem le_step : ((List.range 3).all fun a => (List.range 2).all fun b => (List.range 3).all fun c => (List.range 2).all fun d => PySem.W.alike (stepD (a, b)) (stepD (c, d)) && (PySem.W.dataLe false id (stepD (a, b)) (stepD (c, d)) == stepLe (a, b) (c, d))) = true := by decide +kernel
theorem le_stepD {s u : Nat × Nat} (h1 : s.1 < 3) (h2 : s.2 < 2) (h3 : u.1 < 3) (h4 : u.2 < 2) : PySem.W.alike (stepD s) (stepD u) = true ∧ PySem.W.dataLe false id (stepD s) (stepD u) = stepLe s u := by
  have h := le_step
  simp only [List.all_eq_true, List.mem_range, Bool.and_eq_true, beq_iff_eq] at h
  exact h s.1 h1 s.2 h2 u.1 h3 u.2 h4
theorem intsD_steps (s : Nat × Nat) (v : List (Nat × Nat)) : intsD ((s :: v).map stepD) = none := rfl
theorem sorted_steps {v : List (Nat × Nat)} (hv : ∀ s ∈ v, s.1 < 3 ∧ s.2 < 2) : b1 .sorted (.list (v.map stepD)) = ok (.list ((srtS v).map stepD)) := by
  cases v with
  | nil =>
    show ok (PyData.list ((([] : List Int).mergeSort fun a b => decide (a ≤ b)).map .int)) = _
    simp [srtS]
  | cons s v =>
    show (match intsD ((s :: v).map stepD) with
      | some ns => ok (PyData.list ((ns.mergeSort fun a b => decide (a ≤ b)).map .int))
      | none => srtD ((s :: v).map stepD)) = _
    rw [intsD_steps]
    show guard (srtOk ((s :: v).map stepD)) (ok (PyData.list (((s :: v).map stepD).mergeSort (PySem.W.dataLe false id)))) = _
    have g : srtOk ((s :: v).map stepD) = true := by
      unfold srtOk
      simp only [Bool.and_eq_true, Bool.or_eq_true, List.all_eq_true]
      refine ⟨fun d hd e he => ?_, Or.inl fun d hd => ?_, fun d hd => ?_⟩
      · obtain ⟨a, ha, rfl⟩ := List.mem_map.mp hd
        obtain ⟨b, hb, rfl⟩ := List.mem_map.mp he
        exact (le_stepD (hv a ha).1 (hv a ha).2 (hv b hb).1 (hv b hb).2).1
      · obtain ⟨a, ha, rfl⟩ := List.mem_map.mp hd
        rfl
      · obtain ⟨a, ha, rfl⟩ := List.mem_map.mp hd
        exact shp_of (shN_step a) (by decide)
    rw [g]
    have e : (srtS (s :: v)).map stepD = ((s :: v).map stepD).mergeSort (PySem.W.dataLe false id) := List.map_mergeSort fun a ha b hb => ((le_stepD (hv a ha).1 (hv a ha).2 (hv b hb).1 (hv b hb).2).2).symm
    rw [guard_true, e]
theorem srtS_perm (v : List (Nat × Nat)) : (srtS v).Perm v := List.mergeSort_perm _ _
theorem srtS_pair (v : List (Nat × Nat)) : (srtS v).Pairwise (fun s u => s.1 < u.1 ∨ (s.1 = u.1 ∧ s.2 ≤ u.2)) := by
  have h := List.pairwise_mergeSort (le := stepLe) (by
    intro a b c h1 h2
    simp only [stepLe, decide_eq_true_eq] at h1 h2 ⊢
    omega) (by
    intro a b
    simp only [stepLe, Bool.or_eq_true, decide_eq_true_eq]
    omega) v
  exact h.imp fun h => by simpa [stepLe] using h
theorem srtS_lt {v : List (Nat × Nat)} (nd : v.Nodup) : (srtS v).Pairwise stepLt := by
  have h1 := srtS_pair v
  have h2 : (srtS v).Nodup := (srtS_perm v).nodup_iff.mpr nd
  refine (h1.and h2).imp fun {a b} h => ?_
  obtain ⟨h, ne⟩ := h
  unfold stepLt
  rcases h with h | ⟨e, h⟩
  · exact Or.inl h
  · refine Or.inr ⟨e, ?_⟩
    have : a.2 ≠ b.2 := fun z => ne (Prod.ext e z)
    omega
theorem win_nodup {v : List (Nat × Nat)} (h : v.Pairwise stepLt) : v.Nodup := h.imp fun {a b} h => by
  intro e
  subst e
  unfold stepLt at h
  omega
/-! ### the moves and windows, by all cases -/
theorem led_fin : (worlds.all fun W => (List.range W.n).all fun c => (List.range W.w).all fun a => (List.range W.h).all fun b =>
    (decide (iv W (.flip true) (wat W (c % W.w + a) (c / W.w + b)) = wat W (iv W (.flip true) c % W.w + (ledStep W true (a, b)).1) (iv W (.flip true) c / W.w + (ledStep W true (a, b)).2)) &&
    (decide (iv W (.flip false) (wat W (c % W.w + a) (c / W.w + b)) = wat W (iv W (.flip false) c % W.w + (ledStep W false (a, b)).1) (iv W (.flip false) c / W.w + (ledStep W false (a, b)).2)) &&
    (List.range W.w).all fun x => (List.range W.h).all fun y => decide (iv W (.shift x y) (wat W (c % W.w + a) (c / W.w + b)) = wat W (iv W (.shift x y) c % W.w + a) (iv W (.shift x y) c / W.w + b))))) = true := by decide +kernel
theorem led_flip (hW : W.Ok) (k : Bool) {c : Nat} (hc : c < W.n) {s : Nat × Nat} (h1 : s.1 < W.w) (h2 : s.2 < W.h) : iv W (.flip k) (wat W (c % W.w + s.1) (c / W.w + s.2)) = wat W (iv W (.flip k) c % W.w + (ledStep W k s).1) (iv W (.flip k) c / W.w + (ledStep W k s).2) := by
  have h := led_fin
  simp only [List.all_eq_true, List.mem_range, Bool.and_eq_true, decide_eq_true_eq] at h
  have g := h W hW c hc s.1 h1 s.2 h2
  cases k with
  | true => exact g.1
  | false => exact g.2.1
theorem led_shift (hW : W.Ok) {x y : Nat} (hx : x < W.w) (hy : y < W.h) {c : Nat} (hc : c < W.n) {s : Nat × Nat} (h1 : s.1 < W.w) (h2 : s.2 < W.h) : iv W (.shift x y) (wat W (c % W.w + s.1) (c / W.w + s.2)) = wat W (iv W (.shift x y) c % W.w + s.1) (iv W (.shift x y) c / W.w + s.2) := by
  have h := led_fin
  simp only [List.all_eq_true, List.mem_range, Bool.and_eq_true, decide_eq_true_eq] at h
  exact (h W hW c hc s.1 h1 s.2 h2).2.2 x hx y hy
theorem ledStep_fin : (worlds.all fun W => (List.range W.w).all fun a => (List.range W.h).all fun b => [true, false].all fun k => decide ((ledStep W k (a, b)).1 < W.w ∧ (ledStep W k (a, b)).2 < W.h ∧ ledStep W k (ledStep W k (a, b)) = (a, b))) = true := by decide +kernel
theorem ledStep_ok (hW : W.Ok) (k : Bool) {s : Nat × Nat} (h1 : s.1 < W.w) (h2 : s.2 < W.h) : (ledStep W k s).1 < W.w ∧ (ledStep W k s).2 < W.h ∧ ledStep W k (ledStep W k s) = s := by
  have h := ledStep_fin
  simp only [List.all_eq_true, List.mem_range, decide_eq_true_eq] at h
  exact h W hW s.1 h1 s.2 h2 k (by cases k <;> simp)
theorem led_win (hW : W.Ok) (k : Bool) {v : List (Nat × Nat)} (hv : winOk W v) : winOk W (srtS (v.map (ledStep W k))) := by
  have hp := srtS_perm (v.map (ledStep W k))
  refine ⟨fun e => ?_, fun s hs => ?_, srtS_lt ?_⟩
  · have := hp.length_eq
    rw [e, List.length_map] at this
    exact hv.1 (List.length_eq_zero_iff.mp this.symm)
  · obtain ⟨u, hu, rfl⟩ := List.mem_map.mp (hp.mem_iff.mp hs)
    have := ledStep_ok hW k (hv.2.1 u hu).1 (hv.2.1 u hu).2
    exact ⟨this.1, this.2.1⟩
  · have nd := win_nodup hv.2.2
    rw [List.Nodup, List.pairwise_map]
    refine List.Pairwise.imp_of_mem (fun {a b} ha hb ne e => ne ?_) nd
    have e1 := (ledStep_ok hW k (hv.2.1 a ha).1 (hv.2.1 a ha).2).2.2
    have e2 := (ledStep_ok hW k (hv.2.1 b hb).1 (hv.2.1 b hb).2).2.2
    rw [← e1, ← e2, e]
theorem filter_ok (p : Nat → Bool) : cellsOk W ((List.range W.n).filter p) := cellsOk_sub List.filter_sublist
theorem mpast_ok (hW : W.Ok) {f d : Deed} (hf : f.free = true) (hd : d.Ok W) (hb : d.free = false) : (mpast W f d).Ok W ∧ (mpast W f d).free = false := by
  cases f <;> first | (cases hf; done) | skip
  all_goals (cases d <;> first | (cases hb; done) | skip)
  all_goals first
    | exact ⟨hd, rfl⟩
    | exact ⟨filter_ok _, rfl⟩
    | exact ⟨led_win hW _ hd, rfl⟩
/-! ### greatest and least of what is led -/
theorem maxL_perm {l m : List Int} (h : l.Perm m) : maxL l = maxL m := by
  cases l with
  | nil => rw [h.symm.eq_nil]
  | cons x l =>
    have hm : m ≠ [] := fun e => by
      rw [e] at h
      exact absurd h.eq_nil (by simp)
    obtain ⟨h1, h2⟩ := maxI_spec (maxI_some m hm)
    exact maxL_of (h.mem_iff.mpr h1) fun y hy => h2 y (h.mem_iff.mp hy)
theorem minL_perm {l m : List Int} (h : l.Perm m) : minL l = minL m := by
  cases l with
  | nil => rw [h.symm.eq_nil]
  | cons x l =>
    have hm : m ≠ [] := fun e => by
      rw [e] at h
      exact absurd h.eq_nil (by simp)
    obtain ⟨h1, h2⟩ := minI_spec (minI_some m hm)
    exact minL_of (h.mem_iff.mpr h1) fun y hy => h2 y (h.mem_iff.mp hy)
theorem max_turn {l : List Int} (h : l ≠ []) (t : Int) : maxL (l.map fun x => t - x) = t - minL l := by
  obtain ⟨h1, h2⟩ := minI_spec (minI_some l h)
  refine maxL_of (List.mem_map.mpr ⟨_, h1, rfl⟩) fun y hy => ?_
  obtain ⟨x, hx, rfl⟩ := List.mem_map.mp hy
  have := h2 x hx
  omega
theorem min_turn {l : List Int} (h : l ≠ []) (t : Int) : minL (l.map fun x => t - x) = t - maxL l := by
  obtain ⟨h1, h2⟩ := maxI_spec (maxI_some l h)
  refine minL_of (List.mem_map.mpr ⟨_, h1, rfl⟩) fun y hy => ?_
  obtain ⟨x, hx, rfl⟩ := List.mem_map.mp hy
  have := h2 x hx
  omega
theorem pg_done {p : Pic} {d : Deed} {c : Nat} (hc : c < W.n) : pg (mdone W p d) c = mcell W p d c := by
  unfold pg mdone
  simp [hc]
theorem done_ext {p q : Pic} (hp : p.length = W.n) (hq : q.length = W.n) (h : ∀ c < W.n, pg p c = pg q c) : p = q := by
  refine List.ext_getElem (by rw [hp, hq]) fun k h1 h2 => ?_
  have := h k (by rw [← hp]; exact h1)
  unfold pg at this
  simpa [h1, h2] using this
theorem free_mover (f : Deed) (hf : f.free = true) (ho : f.Ok W) : f = .turn ∨ f ∈ movers W := by
  cases f with
  | turn => exact Or.inl rfl
  | flip a => exact Or.inr (by cases a <;> simp [movers])
  | shift a b => exact Or.inr (by simp [movers]; exact ⟨ho.1, ho.2⟩)
  | _ => cases hf
theorem mcell_mover {p : Pic} {f : Deed} (hm : f ∈ movers W) (c : Nat) : mcell W p f c = pg p (iv W f c) := by
  simp only [movers, List.mem_cons, List.mem_flatMap, List.mem_map] at hm
  rcases hm with rfl | rfl | ⟨a, _, b, _, rfl⟩ <;> rfl
theorem in_led (hW : W.Ok) {f : Deed} (hm : f ∈ movers W) {c : Nat} (hc : c < W.n) (cs : List Nat) : iv W f c ∈ ledCells W f cs ↔ c ∈ cs := by
  obtain ⟨h1, h2, h3⟩ := mv_iv_of hW hm hc
  unfold ledCells
  rw [List.mem_filter, List.mem_range, h2]
  simp [h1]
theorem in_rest {c : Nat} (hc : c < W.n) (cs : List Nat) : c ∈ restOf W cs ↔ c ∉ cs := by
  unfold restOf
  rw [List.mem_filter, List.mem_range]
  simp [hc]
theorem seen_led (hW : W.Ok) {p : Pic} {f : Deed} (hm : f ∈ movers W) {v : List (Nat × Nat)} (g : Nat × Nat → Nat × Nat) {c : Nat} (h : ∀ s ∈ v, iv W f (wat W (c % W.w + s.1) (c / W.w + s.2)) = wat W (iv W f c % W.w + (g s).1) (iv W f c / W.w + (g s).2)) :
    mseen W (mdone W p f) v c = mseen W p (v.map g) (iv W f c) := by
  unfold mseen
  rw [List.map_map]
  refine List.map_congr_left fun s hs => ?_
  rw [pg_done (wat_lt hW _ _), mcell_mover hm, h s hs]
  rfl
theorem seen_turn (hW : W.Ok) {p : Pic} {v : List (Nat × Nat)} {c : Nat} : mseen W (mdone W p .turn) v c = (mseen W p v c).map fun x => (W.t : Int) - x := by
  unfold mseen
  rw [List.map_map]
  refine List.map_congr_left fun s hs => ?_
  rw [pg_done (wat_lt hW _ _)]
  rfl
theorem seen_perm {p : Pic} {v u : List (Nat × Nat)} (h : v.Perm u) (c : Nat) : (mseen W p v c).Perm (mseen W p u c) := h.map _
theorem seen_ne {p : Pic} {v : List (Nat × Nat)} (hv : winOk W v) (c : Nat) : mseen W p v c ≠ [] := fun h => hv.1 (by simpa [mseen] using h)
/-- a deed behind a free one is what it is led to, ahead of it -/
theorem past_comm (hW : W.Ok) {f d : Deed} (hf : f.free = true) (hfo : f.Ok W) (hd : d.Ok W) (hb : d.free = false) (p : Pic) : mdone W (mdone W p f) d = mdone W (mdone W p (mpast W f d)) f := by
  refine done_ext (mdone_len _ _ _) (mdone_len _ _ _) fun c hc => ?_
  rw [pg_done hc, pg_done hc]
  rcases free_mover f hf hfo with rfl | hm
  · cases d <;> first | (cases hb; done) | skip
    · rename_i v
      show maxL (mseen W (mdone W p .turn) v c) = W.t - pg (mdone W p (.least v)) c
      rw [seen_turn hW, pg_done hc, max_turn (seen_ne hd c)]
      rfl
    · rename_i v
      show minL (mseen W (mdone W p .turn) v c) = W.t - pg (mdone W p (.great v)) c
      rw [seen_turn hW, pg_done hc, min_turn (seen_ne hd c)]
      rfl
    · rename_i cs
      show (if c ∈ cs then pg (mdone W p .turn) c else 0) = W.t - pg (mdone W p (.lift (restOf W cs))) c
      rw [pg_done hc, pg_done hc]
      show (if c ∈ cs then W.t - pg p c else 0) = W.t - (if c ∈ restOf W cs then (W.t : Int) else pg p c)
      by_cases h : c ∈ cs
      · rw [if_pos h, if_neg (fun z => (in_rest hc cs).mp z h)]
      · rw [if_neg h, if_pos ((in_rest hc cs).mpr h)]
        omega
    · rename_i cs
      show (if c ∈ cs then (W.t : Int) else pg (mdone W p .turn) c) = W.t - pg (mdone W p (.mask (restOf W cs))) c
      rw [pg_done hc, pg_done hc]
      show (if c ∈ cs then (W.t : Int) else W.t - pg p c) = W.t - (if c ∈ restOf W cs then pg p c else 0)
      by_cases h : c ∈ cs
      · rw [if_pos h, if_neg (fun z => (in_rest hc cs).mp z h)]
        omega
      · rw [if_neg h, if_pos ((in_rest hc cs).mpr h)]
  · have hi := (mv_iv_of hW hm hc).1
    rw [mcell_mover hm, pg_done hi]
    have hmask : ∀ cs, d = .mask cs → mcell W (mdone W p f) d c = mcell W p (.mask (ledCells W f cs)) (iv W f c) := fun cs e => by
      subst e
      show (if c ∈ cs then pg (mdone W p f) c else 0) = if iv W f c ∈ ledCells W f cs then pg p (iv W f c) else 0
      rw [pg_done hc, mcell_mover hm]
      by_cases h : c ∈ cs
      · rw [if_pos h, if_pos ((in_led hW hm hc cs).mpr h)]
      · rw [if_neg h, if_neg (fun z => h ((in_led hW hm hc cs).mp z))]
    have hlift : ∀ cs, d = .lift cs → mcell W (mdone W p f) d c = mcell W p (.lift (ledCells W f cs)) (iv W f c) := fun cs e => by
      subst e
      show (if c ∈ cs then (W.t : Int) else pg (mdone W p f) c) = if iv W f c ∈ ledCells W f cs then (W.t : Int) else pg p (iv W f c)
      rw [pg_done hc, mcell_mover hm]
      by_cases h : c ∈ cs
      · rw [if_pos h, if_pos ((in_led hW hm hc cs).mpr h)]
      · rw [if_neg h, if_neg (fun z => h ((in_led hW hm hc cs).mp z))]
    cases f with
    | flip k =>
      cases d <;> first | (cases hb; done) | skip
      · rename_i v
        show maxL (mseen W (mdone W p (.flip k)) v c) = maxL (mseen W p (srtS (v.map (ledStep W k))) (iv W (.flip k) c))
        rw [seen_led hW hm (ledStep W k) fun s hs => led_flip hW k hc (hd.2.1 s hs).1 (hd.2.1 s hs).2]
        exact maxL_perm (seen_perm (srtS_perm _).symm _)
      · rename_i v
        show minL (mseen W (mdone W p (.flip k)) v c) = minL (mseen W p (srtS (v.map (ledStep W k))) (iv W (.flip k) c))
        rw [seen_led hW hm (ledStep W k) fun s hs => led_flip hW k hc (hd.2.1 s hs).1 (hd.2.1 s hs).2]
        exact minL_perm (seen_perm (srtS_perm _).symm _)
      · exact hmask _ rfl
      · exact hlift _ rfl
    | shift x y =>
      cases d <;> first | (cases hb; done) | skip
      · rename_i v
        show maxL (mseen W (mdone W p (.shift x y)) v c) = maxL (mseen W p v (iv W (.shift x y) c))
        rw [seen_led hW hm (fun s => s) fun s hs => led_shift hW hfo.1 hfo.2 hc (hd.2.1 s hs).1 (hd.2.1 s hs).2, List.map_id']
      · rename_i v
        show minL (mseen W (mdone W p (.shift x y)) v c) = minL (mseen W p v (iv W (.shift x y) c))
        rw [seen_led hW hm (fun s => s) fun s hs => led_shift hW hfo.1 hfo.2 hc (hd.2.1 s hs).1 (hd.2.1 s hs).2, List.map_id']
      · exact hmask _ rfl
      · exact hlift _ rfl
    | turn => simp [movers] at hm
    | _ => cases hf
end FL

set_option maxRecDepth 20000
/-! FLv10: the values of the defs of passing. -/
namespace FL
open PySem Out
variable {L : Fn} {wf n : Nat} {W : Wd}
theorem cop_nin_of {a : D} {ys : List D} {r : Bool} (h : (flat a && ys.all flat && (anyEq a ys == r)) = true) : cop .nin a (.tuple ys) = ok (.bool (!r)) := by
  simp only [Bool.and_eq_true, beq_iff_eq] at h
  have e : inD a (.tuple ys) = guard (flat a && ys.all flat) (ok (anyEq a ys)) := by cases a <;> rfl
  show ((inD a (.tuple ys)).map fun r => PyData.bool (!r)) = _
  rw [e, h.1.1, h.1.2, h.2]
  rfl
theorem nin_nats (c : Nat) (cs : List Nat) : cop .nin (.int (c : Nat)) (natsD cs) = ok (.bool (!decide (c ∈ cs))) := by
  refine cop_nin_of ?_
  rw [anyEq_nats]
  simp [flat, List.all_map, Function.comp_def]
theorem rng_n (hW : W.Ok) : rngB ((W.w : Int) * W.h) = true := by
  have i := hW.in
  have en : (W.n : Int) = (W.w : Int) * W.h := by simp [Wd.n]
  rw [← en]
  exact rngB_of (by have := i.n6; omega)
theorem rangeD_n : rangeD ((W.w : Int) * W.h) = (List.range W.n).map fun k : Nat => PyData.int k := by
  have en : (W.w : Int) * W.h = (W.n : Int) := by simp [Wd.n]
  rw [en, rangeD_nat]
theorem v_rest_of (hW : W.Ok) (cs : List Nat) : call (tblL L) wf (n + 1) 100 [W.D, natsD cs] = ok (natsD (restOf W cs)) := by
  refine (call_eq (n := n) tc_rest_of rfl).trans ?_
  obtain ⟨Φ, hΦ⟩ : ∃ Φ, Φ = call (tblL L) wf n := ⟨_, rfl⟩
  rw [← hΦ]
  clear hΦ
  have e := lcM_filterI (f := lcF Φ (.one 2) (.so (.cmp .nin (.var 2) (.var 1))) (.var 2) [.fz W.D, .fz (natsD cs), .no]) (i := fun k : Nat => PyData.int k) (g := fun k : Nat => PyData.int k) (p := fun c => decide (c ∉ cs)) (as := List.range W.n) (by
    intro c hc
    have q := nin_nats c cs
    by_cases g : c ∈ cs <;> simp [lcF, q, g])
  simp [c_rest_of, Wd.D, mul_ok hW, rng_n hW, rangeD_n] at e ⊢
  rw [e]
  simp [natsD, restOf]
theorem v_led_cells (hW : W.Ok) {f : Deed} (hm : f ∈ movers W) (cs : List Nat) : call (tblL L) wf (n + 3) 80 [W.D, f.D, natsD cs] = ok (natsD (ledCells W f cs)) := by
  refine (call_eq (n := n + 2) tc_led_cells rfl).trans ?_
  have h1 := fun (c : Nat) (hc : c < W.n) => v_moved (L := L) (wf := wf) (n := n) hW hm hc
  obtain ⟨Φ, hΦ⟩ : ∃ Φ, Φ = call (tblL L) wf (n + 2) := ⟨_, rfl⟩
  rw [← hΦ] at h1 ⊢
  clear hΦ
  have e := lcM_filterI (f := lcF Φ (.one 3) (.so (.cmp .inn (.call 91 (.cons (.var 0) (.cons (.var 3) (.cons (.var 1) .nil)))) (.var 2))) (.var 3) [.fz W.D, .fz f.D, .fz (natsD cs), .no]) (i := fun k : Nat => PyData.int k) (g := fun k : Nat => PyData.int k) (p := fun c => decide (mv W f c ∈ cs)) (as := List.range W.n) (by
    intro c hc
    have q := in_nats (mv W f c) cs
    have h := h1 c (List.mem_range.mp hc)
    by_cases g : mv W f c ∈ cs <;> simp [lcF, h, q, g])
  simp [c_led_cells, Wd.D, mul_ok hW, rng_n hW, rangeD_n] at e ⊢
  rw [e]
  simp [natsD, ledCells]
theorem led_eqs (hW : W.Ok) {s : Nat × Nat} (h1 : s.1 < W.w) (h2 : s.2 < W.h) : -(s.1 : Int) % W.w = ((W.w - s.1) % W.w : Nat) ∧ -(s.2 : Int) % W.h = ((W.h - s.2) % W.h : Nat) := by
  have key : ∀ (a b : Nat), a < b → -(a : Int) % b = ((b - a) % b : Nat) := fun a b h => by
    rw [Int.natCast_emod, Int.ofNat_sub (Nat.le_of_lt h), ← Int.add_emod_right]
    congr 1
    omega
  exact ⟨key _ _ h1, key _ _ h2⟩
theorem v_led_step (hW : W.Ok) (k : Bool) {s : Nat × Nat} (h1 : s.1 < W.w) (h2 : s.2 < W.h) : call (tblL L) wf (n + 1) 81 [W.D, (Deed.flip k).D, stepD s] = ok (stepD (ledStep W k s)) := by
  refine (call_eq (n := n) tc_led_step rfl).trans ?_
  obtain ⟨Φ, hΦ⟩ : ∃ Φ, Φ = call (tblL L) wf n := ⟨_, rfl⟩
  rw [← hΦ]
  clear hΦ
  have i := hW.in
  have w1 : 0 < W.w := i.w1
  have w2 : 0 < W.h := i.h1
  obtain ⟨e1, e2⟩ := led_eqs hW h1 h2
  cases k with
  | true => simp [c_led_step, Deed.D, sideD, Wd.D, stepD, w1, e1, ledStep]
  | false => simp [c_led_step, Deed.D, sideD, Wd.D, stepD, w2, e2, ledStep]
theorem v_turned_deed (hW : W.Ok) {d : Deed} (hb : d.free = false) : call (tblL L) wf (n + 2) 111 [W.D, d.D] = ok (mpast W .turn d).D := by
  refine (call_eq (n := n + 1) tc_turned_deed rfl).trans ?_
  have h1 := fun cs => v_rest_of (L := L) (wf := wf) (n := n) hW cs
  obtain ⟨Φ, hΦ⟩ : ∃ Φ, Φ = call (tblL L) wf (n + 1) := ⟨_, rfl⟩
  rw [← hΦ] at h1 ⊢
  clear hΦ
  cases d <;> first | (cases hb; done) | skip
  · simp [c_turned_deed, Deed.D, mpast]
  · simp [c_turned_deed, Deed.D, mpast]
  · simp [c_turned_deed, Deed.D, mpast, h1]
  · simp [c_turned_deed, Deed.D, mpast, h1]
theorem v_past (hW : W.Ok) {f d : Deed} (hf : f.free = true) (hfo : f.Ok W) (hd : d.Ok W) (hb : d.free = false) : call (tblL L) wf (n + 4) 95 [W.D, f.D, d.D] = ok (mpast W f d).D := by
  refine (call_eq (n := n + 3) tc_past rfl).trans ?_
  have h1 := v_turned_deed (L := L) (wf := wf) (n := n + 1) hW hb
  have h2 := fun (f : Deed) (hm : f ∈ movers W) cs => v_led_cells (L := L) (wf := wf) (n := n) hW hm cs
  have h3 := fun (k : Bool) (s : Nat × Nat) a b => v_led_step (L := L) (wf := wf) (n := n + 2) hW k (s := s) a b
  obtain ⟨Φ, hΦ⟩ : ∃ Φ, Φ = call (tblL L) wf (n + 3) := ⟨_, rfl⟩
  rw [← hΦ] at h1 h2 h3 ⊢
  clear hΦ
  have i := hW.in
  have hb3 : ∀ (k : Bool) (v : List (Nat × Nat)), winOk W v → ∀ s ∈ v.map (ledStep W k), s.1 < 3 ∧ s.2 < 2 := fun k v hv s hs => by
    obtain ⟨u, hu, rfl⟩ := List.mem_map.mp hs
    have := ledStep_ok hW k (hv.2.1 u hu).1 (hv.2.1 u hu).2
    have := i.w3
    have := i.h2
    omega
  have win : ∀ (k : Bool) (v : List (Nat × Nat)), winOk W v → ∀ w, (b1 .sorted (.list ((v.map (ledStep W k)).map stepD))).bind (fun x => b1 .tuple x) = ok (.tuple ((srtS (v.map (ledStep W k))).map stepD)) ∧
      lcM (lcF Φ (.one 3) .no (.call 81 (.cons (.var 0) (.cons (.var 1) (.cons (.var 3) .nil)))) [.fz W.D, .fz (Deed.flip k).D, .fz (.tuple [w, .tuple (v.map stepD)]), .no]) (v.map stepD) = ok ((v.map (ledStep W k)).map stepD) := fun k v hv w => by
    refine ⟨?_, ?_⟩
    · rw [sorted_steps fun s hs => ?_]
      · rfl
      · obtain ⟨u, hu, rfl⟩ := List.mem_map.mp hs
        have := ledStep_ok hW k (hv.2.1 u hu).1 (hv.2.1 u hu).2
        have := i.w3
        have := i.h2
        omega
    · rw [List.map_map]
      refine lcM_mapI fun s hs => ?_
      have h := h3 k s (hv.2.1 s hs).1 (hv.2.1 s hs).2
      simp [lcF, h]
  cases f with
  | turn =>
    have e0 : (Deed.turn).D = .tuple [.str "turn"] := rfl
    rw [e0]
    simp [c_past, h1]
  | flip k =>
    have hm : Deed.flip k ∈ movers W := by cases k <;> simp [movers]
    cases d <;> first | (cases hb; done) | skip
    · rename_i v
      obtain ⟨g1, g2⟩ := win k v hd (.str "greatest")
      simp only [Deed.D] at g2
      simp [c_past, Deed.D, mpast]
      rw [g2]
      simp only [bind_ok, sorted_steps (hb3 k v hd), b1_tupL, seqK_rt, endK_rt]
      try simp
    · rename_i v
      obtain ⟨g1, g2⟩ := win k v hd (.str "least")
      simp only [Deed.D] at g2
      simp [c_past, Deed.D, mpast]
      rw [g2]
      simp only [bind_ok, sorted_steps (hb3 k v hd), b1_tupL, seqK_rt, endK_rt]
      try simp
    · rename_i cs
      have h := h2 _ hm cs
      simp only [Deed.D] at h
      simp [c_past, Deed.D, mpast, h]
    · rename_i cs
      have h := h2 _ hm cs
      simp only [Deed.D] at h
      simp [c_past, Deed.D, mpast, h]
  | shift x y =>
    have hm : Deed.shift x y ∈ movers W := by simp [movers]; exact ⟨hfo.1, hfo.2⟩
    cases d <;> first | (cases hb; done) | skip
    · simp [c_past, Deed.D, mpast]
    · simp [c_past, Deed.D, mpast]
    · rename_i cs
      have h := h2 _ hm cs
      simp only [Deed.D] at h
      simp [c_past, Deed.D, mpast, h]
    · rename_i cs
      have h := h2 _ hm cs
      simp only [Deed.D] at h
      simp [c_past, Deed.D, mpast, h]
  | _ => cases hf
theorem v_look_deed (hW : W.Ok) {d : Deed} (hd : d.Ok W) : call (tblL L) wf (n + 5) 84 [W.D, d.D] = ok .none := by
  refine (call_eq (n := n + 4) tc_look_deed rfl).trans ?_
  have h := v_is_deed (L := L) (wf := wf) (n := n) hW hd
  obtain ⟨Φ, hΦ⟩ : ∃ Φ, Φ = call (tblL L) wf (n + 4) := ⟨_, rfl⟩
  rw [← hΦ] at h ⊢
  clear hΦ
  simp [c_look_deed, h]
theorem word0 (d : Deed) : idx d.D (.int 0) = ok (wordD d) := by cases d <;> rfl
theorem free_in (d : Deed) : cop .inn (wordD d) (.tuple [.str "shift", .str "flip", .str "turn"]) = ok (.bool d.free) := by
  cases d <;> (simp only [wordD, Deed.free]; exact cop_inT_of (by decide +kernel))
theorem free_nin (d : Deed) : cop .nin (wordD d) (.tuple [.str "shift", .str "flip", .str "turn"]) = ok (.bool (!d.free)) := by
  cases d <;> (simp only [wordD, Deed.free]; exact cop_nin_of (by decide +kernel))
/-- passed: the deed that it is led to, or BadDeed -/
theorem v_passed (hW : W.Ok) {f d : Deed} (hf : f.Ok W) (hd : d.Ok W) : call (tblL L) wf (n + 6) 94 [W.D, f.D, d.D] = if (f.free && !d.free) = true then ok (mpast W f d).D else exc 2 := by
  refine (call_eq (n := n + 5) tc_passed rfl).trans ?_
  have h1 := v_look (L := L) (wf := wf) (n := n + 2) hW
  have h2 := fun (d : Deed) (hd : d.Ok W) => v_look_deed (L := L) (wf := wf) (n := n) hW hd
  have h3 := fun a b => v_past (L := L) (wf := wf) (n := n + 1) hW (f := f) (d := d) a hf hd b
  obtain ⟨Φ, hΦ⟩ : ∃ Φ, Φ = call (tblL L) wf (n + 5) := ⟨_, rfl⟩
  rw [← hΦ] at h1 h2 h3 ⊢
  clear hΦ
  have g1 := h2 f hf
  have g2 := h2 d hd
  by_cases a : f.free = true
  · by_cases b : d.free = false
    · simp [c_passed, h1, g1, g2, word0, free_in, free_nin, a, b, h3 a b]
    · have b : d.free = true := by simpa using b
      simp [c_passed, h1, g1, g2, word0, free_in, free_nin, a, b]
  · have a : f.free = false := by simpa using a
    simp [c_passed, h1, g1, g2, word0, free_in, free_nin, a]
theorem v_law_passed (hW : W.Ok) {f d : Deed} (hf : f.Ok W) (hd : d.Ok W) : call (tblL L) wf (n + 7) 31 [W.D, f.D, d.D] = ok (if (f.free && !d.free) = true then (mpast W f d).D else .str "deed") := by
  refine (call_eq (n := n + 6) tc_law_passed rfl).trans ?_
  have h1 := v_passed (L := L) (wf := wf) (n := n) hW hf hd
  obtain ⟨Φ, hΦ⟩ : ∃ Φ, Φ = call (tblL L) wf (n + 6) := ⟨_, rfl⟩
  rw [← hΦ] at h1 ⊢
  clear hΦ
  by_cases a : (f.free && !d.free) = true
  · rw [if_pos a] at h1 ⊢
    simp [c_law_passed, h1]
  · rw [if_neg a] at h1 ⊢
    have s : subX 2 2 = true := by decide
    simp [c_law_passed, h1, s]
end FL

set_option maxRecDepth 20000
/-! FLv11: the value of _law_ahead. -/
namespace FL
open PySem Out
variable {L : Fn} {wf n : Nat} {W : Wd}
def swapW : Deed → D
  | .great _ => .str "least"
  | .least _ => .str "greatest"
  | .mask _ => .str "lift"
  | _ => .str "mask"
def wordsK : List (D × D) := [(.str "greatest", .str "least"), (.str "least", .str "greatest"), (.str "mask", .str "lift"), (.str "lift", .str "mask")]
theorem words_dsp : dspD [.str "greatest", .str "least", .str "mask", .str "lift"] [.str "least", .str "greatest", .str "lift", .str "mask"] = ok (.dict wordsK) := by kernel_rfl
theorem words_idx {d : Deed} (hb : d.free = false) : idx (.dict wordsK) (wordD d) = ok (swapW d) := by
  cases d <;> first | (cases hb; done) | (simp only [wordD, swapW]; kernel_rfl)
theorem ahead_fin : (worlds.all fun W => (List.range W.n).all fun c => (List.range W.w).all fun a => (List.range W.h).all fun b => decide (mv W (.shift a b) c = iv W (.shift ((W.w - a) % W.w) ((W.h - b) % W.h)) c)) = true := by decide +kernel
theorem ahead_shift (hW : W.Ok) {a b c : Nat} (ha : a < W.w) (hb : b < W.h) (hc : c < W.n) : mv W (.shift a b) c = iv W (.shift ((W.w - a) % W.w) ((W.h - b) % W.h)) c := by
  have h := ahead_fin
  simp only [List.all_eq_true, List.mem_range, decide_eq_true_eq] at h
  exact h W hW c hc a ha b hb
/-- cells as a picture -/
def marks (W : Wd) (cs : List Nat) : Pic := (List.range W.n).map fun c => if c ∈ cs then 1 else 0
theorem marks_len (cs : List Nat) : (marks W cs).length = W.n := by simp [marks]
theorem pg_marks {c : Nat} (hc : c < W.n) (cs : List Nat) : pg (marks W cs) c = if c ∈ cs then 1 else 0 := by simp [pg, marks, hc]
theorem pg_marks1 {c : Nat} (hc : c < W.n) (cs : List Nat) : (pg (marks W cs) c = 1) ↔ c ∈ cs := by
  rw [pg_marks hc]
  by_cases h : c ∈ cs <;> simp [h]
theorem in_mark (c : Nat) (cs : List Nat) : (cop .inn (.int (c : Nat)) (natsD cs)).bind (fun x => b1 .int x) = ok (.int (if c ∈ cs then 1 else 0)) := by
  rw [in_nats]
  by_cases h : c ∈ cs <;> simp [h]
theorem marks_led (hW : W.Ok) {f g : Deed} (hg : g ∈ movers W) (h : ∀ c < W.n, mv W f c = iv W g c) (cs : List Nat) : ((List.range W.n).filter fun c => decide (pg (mdone W (marks W cs) g) c = 1)) = ledCells W f cs := by
  unfold ledCells
  refine List.filter_congr fun c hc => ?_
  have hc := List.mem_range.mp hc
  rw [pg_done hc, mcell_mover hg, h c hc]
  have := pg_marks1 (mv_iv_of hW hg hc).1 cs
  by_cases q : iv W g c ∈ cs <;> simp [this, q]
theorem v_law_ahead (hW : W.Ok) {f d : Deed} (hf : f.free = true) (hfo : f.Ok W) (hd : d.Ok W) (hb : d.free = false) : call (tblL L) wf (n + 2) 2 [W.D, f.D, d.D] = ok (mpast W f d).D := by
  refine (call_eq (n := n + 1) tc_law_ahead rfl).trans ?_
  have h1 := fun (p : Pic) (hp : p.length = W.n) (d : Deed) (hd : d.Ok W) => v_law_done (L := L) (wf := wf) (n := n) hW hp hd
  obtain ⟨Φ, hΦ⟩ : ∃ Φ, Φ = call (tblL L) wf (n + 1) := ⟨_, rfl⟩
  rw [← hΦ] at h1 ⊢
  clear hΦ
  have i := hW.in
  have w1 : 0 < W.w := i.w1
  have w2 : 0 < W.h := i.h1
  have hm := mul_ok hW
  have hr := rng_n hW
  have hb3 : ∀ (k : Bool) (v : List (Nat × Nat)), winOk W v → ∀ s ∈ v.map (ledStep W k), s.1 < 3 ∧ s.2 < 2 := fun k v hv s hs => by
    obtain ⟨u, hu, rfl⟩ := List.mem_map.mp hs
    have := ledStep_ok hW k (hv.2.1 u hu).1 (hv.2.1 u hu).2
    have := i.w3
    have := i.h2
    omega
  -- windows behind a flip
  have winA : ∀ (v : List (Nat × Nat)), winOk W v → ∀ S : St, S[3]? = some (.fz (.int W.w)) → S.length = 13 → lcM (lcF Φ (.two 11 12) .no (.tup (.cons (.bin .mod (.bin .sub (.var 3) (.var 11)) (.var 3)) (.cons (.var 12) .nil))) S) (v.map stepD) = ok ((v.map (ledStep W true)).map stepD) := fun v hv S hS hl => by
    rw [List.map_map]
    refine lcM_mapI fun s hs => ?_
    have hs1 := (hv.2.1 s hs).1
    have e : ((W.w : Int) - s.1) % W.w = ((W.w - s.1) % W.w : Nat) := by
      rw [Int.natCast_emod, Int.ofNat_sub (Nat.le_of_lt hs1)]
    have g3 : ∀ a b : D, getF ((S.set 11 (.fz a)).set 12 (.fz b)) 3 = ok (.int W.w) ∧ getF ((S.set 11 (.fz a)).set 12 (.fz b)) 11 = ok a ∧ getF ((S.set 11 (.fz a)).set 12 (.fz b)) 12 = ok b := fun a b => by
      unfold getF
      refine ⟨?_, ?_, ?_⟩
      · rw [List.getElem?_set_ne (by decide), List.getElem?_set_ne (by decide), hS]
      · rw [List.getElem?_set_ne (by decide), List.getElem?_set_self (by omega)]
      · rw [List.getElem?_set_self (by simp; omega)]
    obtain ⟨a1, a2, a3⟩ := g3 (.int s.1) (.int s.2)
    simp [lcF, stepD, a1, a2, a3, w1, e, ledStep]
  have winB : ∀ (v : List (Nat × Nat)), winOk W v → ∀ S : St, S[4]? = some (.fz (.int W.h)) → S.length = 13 → lcM (lcF Φ (.two 11 12) .no (.tup (.cons (.var 11) (.cons (.bin .mod (.bin .sub (.var 4) (.var 12)) (.var 4)) .nil))) S) (v.map stepD) = ok ((v.map (ledStep W false)).map stepD) := fun v hv S hS hl => by
    rw [List.map_map]
    refine lcM_mapI fun s hs => ?_
    have hs1 := (hv.2.1 s hs).2
    have e : ((W.h : Int) - s.2) % W.h = ((W.h - s.2) % W.h : Nat) := by
      rw [Int.natCast_emod, Int.ofNat_sub (Nat.le_of_lt hs1)]
    have g3 : ∀ a b : D, getF ((S.set 11 (.fz a)).set 12 (.fz b)) 4 = ok (.int W.h) ∧ getF ((S.set 11 (.fz a)).set 12 (.fz b)) 11 = ok a ∧ getF ((S.set 11 (.fz a)).set 12 (.fz b)) 12 = ok b := fun a b => by
      unfold getF
      refine ⟨?_, ?_, ?_⟩
      · rw [List.getElem?_set_ne (by decide), List.getElem?_set_ne (by decide), hS]
      · rw [List.getElem?_set_ne (by decide), List.getElem?_set_self (by omega)]
      · rw [List.getElem?_set_self (by simp; omega)]
    obtain ⟨a1, a2, a3⟩ := g3 (.int s.1) (.int s.2)
    simp [lcF, stepD, a1, a2, a3, w2, e, ledStep]
  -- cells
  have ctx : ∀ (S : St) (x : D), S.length = 13 → getF (S.set 10 (.fz x)) 10 = ok x := fun S x hl => by
    unfold getF
    rw [List.getElem?_set_self (by omega)]
  have ctx2 : ∀ (S : St) (x : D) (j : Nat) (y : D), j ≠ 10 → S[j]? = some (.fz y) → getF (S.set 10 (.fz x)) j = ok y := fun S x j y hj hy => by
    unfold getF
    rw [List.getElem?_set_ne (Ne.symm hj), hy]
  have rest : ∀ (cs : List Nat) (S : St), S.length = 13 → S[7]? = some (.fz (natsD cs)) → lcM (lcF Φ (.one 10) (.so (.cmp .nin (.var 10) (.var 7))) (.var 10) S) ((List.range W.n).map fun k : Nat => PyData.int k) = ok ((restOf W cs).map fun k : Nat => PyData.int k) := fun cs S hl hS => by
    unfold restOf
    refine lcM_filterI fun c hc => ?_
    have q := nin_nats c cs
    have a1 := ctx S (.int (c : Nat)) hl
    have a2 := ctx2 S (.int (c : Nat)) 7 _ (by decide) hS
    by_cases g : c ∈ cs <;> simp [lcF, q, g, a1, a2]
  have mk : ∀ (cs : List Nat) (S : St), S.length = 13 → S[7]? = some (.fz (natsD cs)) → lcM (lcF Φ (.one 10) .no (.b1 .int (.cmp .inn (.var 10) (.var 7))) S) ((List.range W.n).map fun k : Nat => PyData.int k) = ok ((marks W cs).map .int) := fun cs S hl hS => by
    unfold marks
    rw [List.map_map]
    refine lcM_mapI fun c hc => ?_
    have q := in_mark c cs
    have a1 := ctx S (.int (c : Nat)) hl
    have a2 := ctx2 S (.int (c : Nat)) 7 _ (by decide) hS
    simp [lcF, q, a1, a2]
  have un : ∀ (q : Pic) (S : St), q.length = W.n → S.length = 13 → S[9]? = some (.fz (picD q)) → lcM (lcF Φ (.one 10) (.so (.cmp .eq (.idx (.var 9) (.var 10)) (.con (.int 1)))) (.var 10) S) ((List.range W.n).map fun k : Nat => PyData.int k) = ok (((List.range W.n).filter fun c => decide (pg q c = 1)).map fun k : Nat => PyData.int k) := fun q S hq hl hS => by
    refine lcM_filterI fun c hc => ?_
    have hc := List.mem_range.mp hc
    have a1 := ctx S (.int (c : Nat)) hl
    have a2 := ctx2 S (.int (c : Nat)) 9 _ (by decide) hS
    have a3 := atD_pic (p := q) (k := c) (by rw [hq]; exact hc)
    by_cases g : pg q c = 1 <;> simp [lcF, a1, a2, picD, a3, g]
  cases f with
  | turn =>
    have e0 : (Deed.turn).D = .tuple [.str "turn"] := rfl
    cases d <;> first | (cases hb; done) | skip
    · rename_i v
      have w := words_idx (d := .great v) rfl
      simp only [wordD, swapW] at w
      simp [c_law_ahead, Wd.D, Deed.D, words_dsp, w, mpast]
    · rename_i v
      have w := words_idx (d := .least v) rfl
      simp only [wordD, swapW] at w
      simp [c_law_ahead, Wd.D, Deed.D, words_dsp, w, mpast]
    · rename_i cs
      have w := words_idx (d := .mask cs) rfl
      simp only [wordD, swapW] at w
      simp [c_law_ahead, Wd.D, Deed.D, words_dsp, w, mpast, hm, hr, rangeD_n]
      rw [rest cs _ rfl rfl]
      simp [natsD]
    · rename_i cs
      have w := words_idx (d := .lift cs) rfl
      simp only [wordD, swapW] at w
      simp [c_law_ahead, Wd.D, Deed.D, words_dsp, w, mpast, hm, hr, rangeD_n]
      rw [rest cs _ rfl rfl]
      simp [natsD]
  | flip k =>
    have hmv : Deed.flip k ∈ movers W := by cases k <;> simp [movers]
    have hled : ∀ cs, ((List.range W.n).filter fun c => decide (pg (mdone W (marks W cs) (.flip k)) c = 1)) = ledCells W (.flip k) cs := fun cs => marks_led hW hmv (fun c hc => by cases k <;> rfl) cs
    cases d <;> first | (cases hb; done) | skip
    · rename_i v
      cases k with
      | true =>
        simp [c_law_ahead, Wd.D, Deed.D, sideD, mpast]
        rw [winA v hd _ rfl rfl]
        simp only [bind_ok, sorted_steps (hb3 true v hd), b1_tupL, seqK_rt, endK_rt]
        simp
      | false =>
        simp [c_law_ahead, Wd.D, Deed.D, sideD, mpast]
        rw [winB v hd _ rfl rfl]
        simp only [bind_ok, sorted_steps (hb3 false v hd), b1_tupL, seqK_rt, endK_rt]
        simp
    · rename_i v
      cases k with
      | true =>
        simp [c_law_ahead, Wd.D, Deed.D, sideD, mpast]
        rw [winA v hd _ rfl rfl]
        simp only [bind_ok, sorted_steps (hb3 true v hd), b1_tupL, seqK_rt, endK_rt]
        simp
      | false =>
        simp [c_law_ahead, Wd.D, Deed.D, sideD, mpast]
        rw [winB v hd _ rfl rfl]
        simp only [bind_ok, sorted_steps (hb3 false v hd), b1_tupL, seqK_rt, endK_rt]
        simp
    · rename_i cs
      have h := h1 (marks W cs) (marks_len cs) (.flip k) trivial
      simp only [picD, Deed.D, Wd.D] at h
      simp [c_law_ahead, Wd.D, Deed.D, mpast, hm, hr, rangeD_n]
      rw [mk cs _ rfl rfl]
      simp [h, hm, hr, rangeD_n]
      rw [un _ _ (mdone_len W _ _) rfl rfl, hled]
      simp [natsD]
    · rename_i cs
      have h := h1 (marks W cs) (marks_len cs) (.flip k) trivial
      simp only [picD, Deed.D, Wd.D] at h
      simp [c_law_ahead, Wd.D, Deed.D, mpast, hm, hr, rangeD_n]
      rw [mk cs _ rfl rfl]
      simp [h, hm, hr, rangeD_n]
      rw [un _ _ (mdone_len W _ _) rfl rfl, hled]
      simp [natsD]
  | shift x y =>
    have so : (Deed.shift ((W.w - x) % W.w) ((W.h - y) % W.h)).Ok W := ⟨Nat.mod_lt _ w1, Nat.mod_lt _ w2⟩
    have hmv : Deed.shift ((W.w - x) % W.w) ((W.h - y) % W.h) ∈ movers W := by simp [movers]; exact ⟨so.1, so.2⟩
    have hled : ∀ cs, ((List.range W.n).filter fun c => decide (pg (mdone W (marks W cs) (.shift ((W.w - x) % W.w) ((W.h - y) % W.h))) c = 1)) = ledCells W (.shift x y) cs := fun cs => marks_led hW hmv (fun c hc => ahead_shift hW hfo.1 hfo.2 hc) cs
    obtain ⟨e1, e2⟩ := led_eqs hW (s := (x, y)) hfo.1 hfo.2
    simp only at e1 e2
    cases d <;> first | (cases hb; done) | skip
    · simp [c_law_ahead, Wd.D, Deed.D, mpast]
    · simp [c_law_ahead, Wd.D, Deed.D, mpast]
    · rename_i cs
      have h := h1 (marks W cs) (marks_len cs) _ so
      simp only [picD, Deed.D, Wd.D, Int.natCast_emod] at h
      simp [c_law_ahead, Wd.D, Deed.D, mpast, hm, hr, rangeD_n]
      rw [mk cs _ rfl rfl]
      simp [w1, w2, e1, e2]
      rw [h]
      simp [hm, hr, rangeD_n]
      rw [un _ _ (mdone_len W _ _) rfl rfl, hled]
      simp [natsD]
    · rename_i cs
      have h := h1 (marks W cs) (marks_len cs) _ so
      simp only [picD, Deed.D, Wd.D, Int.natCast_emod] at h
      simp [c_law_ahead, Wd.D, Deed.D, mpast, hm, hr, rangeD_n]
      rw [mk cs _ rfl rfl]
      simp [w1, w2, e1, e2]
      rw [h]
      simp [hm, hr, rangeD_n]
      rw [un _ _ (mdone_len W _ _) rfl rfl, hled]
      simp [natsD]
  | _ => cases hf
end FL

set_option maxRecDepth 20000
/-! FLv12: deeds that are not free, made fewer. -/
namespace FL
open PySem Out
variable {L : Fn} {wf n : Nat} {W : Wd}
/-! ### dicts whose keys stand for things -/
section
variable {α : Type} [DecidableEq α] {i : α → D}
def encN (i : α → D) (l : List (α × D)) : List (D × D) := l.map fun q => (i q.1, q.2)
def aput (k : α) (v : D) : List (α × D) → List (α × D)
  | [] => [(k, v)]
  | (a, b) :: r => if a = k then (a, v) :: r else (a, b) :: aput k v r
def aget (k : α) : List (α × D) → Option D
  | [] => none
  | (a, b) :: r => if a = k then some b else aget k r
theorem putD_enc (hi : ∀ a b, PyData.eqv (i a) (i b) = decide (a = b)) (k : α) (v : D) : ∀ l, putD (i k) v (encN i l) = encN i (aput k v l)
  | [] => rfl
  | (a, b) :: r => by
    show (if PyData.eqv (i a) (i k) = true then (i a, v) :: encN i r else (i a, b) :: putD (i k) v (encN i r)) = encN i (if a = k then (a, v) :: r else (a, b) :: aput k v r)
    rw [hi, putD_enc hi k v r]
    by_cases h : a = k <;> simp [h, encN]
theorem lookD_enc (hi : ∀ a b, PyData.eqv (i a) (i b) = decide (a = b)) (k : α) : ∀ l, lookD (i k) (encN i l) = aget k l
  | [] => rfl
  | (a, b) :: r => by
    show (if PyData.eqv (i a) (i k) = true then some b else lookD (i k) (encN i r)) = if a = k then some b else aget k r
    rw [hi, lookD_enc hi k r]
    by_cases h : a = k <;> simp [h]
theorem aput_keys (k : α) (v : D) : ∀ l : List (α × D), (aput k v l).map (·.1) = if k ∈ l.map (·.1) then l.map (·.1) else l.map (·.1) ++ [k]
  | [] => rfl
  | (a, b) :: r => by
    unfold aput
    by_cases h : a = k
    · subst h
      simp
    · rw [if_neg h, List.map_cons, aput_keys k v r]
      have h' : ¬ k = a := fun z => h z.symm
      by_cases g : k ∈ r.map (·.1)
      · rw [if_pos g, if_pos (by rw [List.map_cons]; exact List.mem_cons_of_mem _ g)]
        rfl
      · rw [if_neg g, if_neg (by
          rw [List.map_cons]
          intro z
          rcases List.mem_cons.mp z with z | z
          · exact h' z
          · exact g z)]
        rfl
theorem enc_keys (l : List (α × D)) : (encN i l).map (·.1) = (l.map (·.1)).map i := by simp [encN, Function.comp_def]
theorem enc_vals (l : List (α × D)) : (encN i l).map (·.2) = l.map (·.2) := by simp [encN, Function.comp_def]
theorem enc_len (l : List (α × D)) : (encN i l).length = l.length := by simp [encN]
end
/-- two lists in the same strict order, of the same things, are one -/
theorem lt_one {α : Type} {lt : α → α → Prop} (as : ∀ a b, lt a b → ¬ lt b a) : ∀ {l r : List α}, l.Pairwise lt → r.Pairwise lt → (∀ x, x ∈ l ↔ x ∈ r) → l = r
  | [], [], _, _, _ => rfl
  | [], y :: r, _, _, h => by
    have := (h y).mpr (List.mem_cons_self ..)
    cases this
  | x :: l, [], _, _, h => by
    have := (h x).mp (List.mem_cons_self ..)
    cases this
  | x :: l, y :: r, hl, hr, h => by
    obtain ⟨l1, l2⟩ := List.pairwise_cons.mp hl
    obtain ⟨r1, r2⟩ := List.pairwise_cons.mp hr
    have irr : ∀ a, ¬ lt a a := fun a z => as a a z z
    have exy : x = y := by
      rcases List.mem_cons.mp ((h x).mp (List.mem_cons_self ..)) with e | e
      · exact e
      · rcases List.mem_cons.mp ((h y).mpr (List.mem_cons_self ..)) with e2 | e2
        · exact e2.symm
        · exact absurd (r1 x e) (as _ _ (l1 y e2))
    subst exy
    rw [lt_one as l2 r2 fun z => ?_]
    constructor
    · intro hz
      rcases List.mem_cons.mp ((h z).mp (List.mem_cons_of_mem _ hz)) with e | e
      · subst e
        exact absurd (l1 z hz) (irr z)
      · exact e
    · intro hz
      rcases List.mem_cons.mp ((h z).mpr (List.mem_cons_of_mem _ hz)) with e | e
      · subst e
        exact absurd (r1 z hz) (irr z)
      · exact e
theorem stepLt_as (a b : Nat × Nat) (h : stepLt a b) : ¬ stepLt b a := by
  unfold stepLt at *
  omega
theorem lt_as (a b : Nat) (h : a < b) : ¬ b < a := by omega
theorem in_msteps (hW : W.Ok) {s : Nat × Nat} : s ∈ msteps W ↔ s.1 < W.w ∧ s.2 < W.h := by
  unfold msteps
  simp only [List.mem_flatMap, List.mem_range, List.mem_map]
  constructor
  · rintro ⟨a, ha, b, hb, rfl⟩
    exact ⟨ha, hb⟩
  · intro h
    exact ⟨s.1, h.1, s.2, h.2, rfl⟩
theorem win_filter (hW : W.Ok) {v : List (Nat × Nat)} (hv : winOk W v) : v = (msteps W).filter fun s => decide (s ∈ v) := by
  refine lt_one stepLt_as hv.2.2 ((msteps_fin W hW).1.sublist List.filter_sublist) fun s => ?_
  rw [List.mem_filter, in_msteps hW, decide_eq_true_eq]
  exact ⟨fun h => ⟨hv.2.1 s h, h⟩, fun h => h.2⟩
theorem win_len (hW : W.Ok) {v : List (Nat × Nat)} (hv : winOk W v) : v.length ≤ 6 := by
  rw [win_filter hW hv]
  have h1 := List.length_filter_le (fun s => decide (s ∈ v)) (msteps W)
  have h2 := (msteps_fin W hW).2.1
  have h3 := hW.in.n6
  omega
theorem cells_filter {c : List Nat} (hc : cellsOk W c) : c = (List.range W.n).filter fun k => decide (k ∈ c) := by
  refine lt_one lt_as hc.2 ((range_pair W.n).sublist List.filter_sublist) fun k => ?_
  rw [List.mem_filter, List.mem_range, decide_eq_true_eq]
  exact ⟨fun h => ⟨hc.1 k h, h⟩, fun h => h.2⟩
theorem cells_len (hW : W.Ok) {c : List Nat} (hc : cellsOk W c) : c.length ≤ 6 := by
  rw [cells_filter hc]
  have h1 := List.length_filter_le (fun s => decide (s ∈ c)) (List.range W.n)
  rw [List.length_range] at h1
  have h3 := hW.in.n6
  omega
/-! ### the mirrors -/
def sumS (W : Wd) (a b : Nat × Nat) : Nat × Nat := ((a.1 + b.1) % W.w, (a.2 + b.2) % W.h)
def msums (W : Wd) (v u : List (Nat × Nat)) : List (Nat × Nat) := (msteps W).filter fun s => v.any fun a => u.any fun b => decide (sumS W a b = s)
def mboth (W : Wd) (c e : List Nat) : List Nat := (List.range W.n).filter fun k => decide (k ∈ c ∨ k ∈ e)
def mcap (c e : List Nat) : List Nat := c.filter fun k => decide (k ∈ e)
def mmerged (W : Wd) : Deed → Deed → List Deed
  | .great v, .great u => [.great (msums W v u)]
  | .least v, .least u => [.least (msums W v u)]
  | .mask c, .mask e => [.mask (mcap c e)]
  | .lift c, .lift e => [.lift (mboth W c e)]
  | .lift c, .mask e => [.mask e, .lift (mcap c e)]
  | a, b => [a, b]
def merges : Deed → Deed → Bool
  | .great _, .great _ => true
  | .least _, .least _ => true
  | .mask _, .mask _ => true
  | .lift _, .lift _ => true
  | .lift _, .mask _ => true
  | _, _ => false
def midle (W : Wd) : Deed → Bool
  | .great v => decide (v = [(0, 0)])
  | .least v => decide (v = [(0, 0)])
  | .mask c => decide (c.length = W.n)
  | .lift c => decide (c = [])
  | _ => false
theorem in_msums (hW : W.Ok) {v u : List (Nat × Nat)} {s : Nat × Nat} : s ∈ msums W v u ↔ ∃ a ∈ v, ∃ b ∈ u, sumS W a b = s := by
  unfold msums
  rw [List.mem_filter, in_msteps hW]
  simp only [List.any_eq_true, decide_eq_true_eq]
  constructor
  · exact fun h => h.2
  · intro h
    refine ⟨?_, h⟩
    obtain ⟨a, _, b, _, rfl⟩ := h
    exact ⟨Nat.mod_lt _ hW.in.w1, Nat.mod_lt _ hW.in.h1⟩
theorem msums_ok (hW : W.Ok) {v u : List (Nat × Nat)} (hv : winOk W v) (hu : winOk W u) : winOk W (msums W v u) := by
  refine winOk_sub hW List.filter_sublist fun e => ?_
  obtain ⟨a, ha⟩ := List.exists_mem_of_ne_nil _ hv.1
  obtain ⟨b, hb⟩ := List.exists_mem_of_ne_nil _ hu.1
  have : sumS W a b ∈ msums W v u := (in_msums hW).mpr ⟨a, ha, b, hb, rfl⟩
  rw [e] at this
  cases this
theorem mcap_ok {c e : List Nat} (hc : cellsOk W c) : cellsOk W (mcap c e) := ⟨fun k hk => hc.1 k ((List.mem_filter.mp hk).1), hc.2.sublist List.filter_sublist⟩
theorem mmerged_ok (hW : W.Ok) {a b : Deed} (ha : a.Ok W) (hb : b.Ok W) : ∀ d ∈ mmerged W a b, d.Ok W := by
  cases a <;> cases b <;> simp only [mmerged, List.mem_cons, List.not_mem_nil, or_false, forall_eq_or_imp, forall_eq] <;>
    first
      | exact ⟨ha, hb⟩
      | exact msums_ok hW ha hb
      | exact mcap_ok ha
      | exact filter_ok _
      | exact ⟨hb, mcap_ok ha⟩
theorem mmerged_bound {a b : Deed} (ha : a.free = false) (hb : b.free = false) : ∀ d ∈ mmerged W a b, d.free = false := by
  cases a <;> first | (cases ha; done) | skip
  all_goals (cases b <;> first | (cases hb; done) | skip)
  all_goals (intro d hd; simp only [mmerged, List.mem_cons, List.not_mem_nil, or_false] at hd)
  all_goals first
    | (subst hd; rfl)
    | (rcases hd with rfl | rfl <;> rfl)
/-! ### steps_of -/
theorem tk_step (s : Nat × Nat) : tkD (stepD s) = true := rfl
theorem eqv_step (a b : Nat × Nat) : PyData.eqv (stepD a) (stepD b) = decide (a = b) := by
  show (PyData.eqv (.int a.1) (.int b.1) && (PyData.eqv (.int a.2) (.int b.2) && true)) = _
  rw [eqv_int, eqv_int]
  obtain ⟨a1, a2⟩ := a
  obtain ⟨b1, b2⟩ := b
  by_cases h1 : a1 = b1 <;> by_cases h2 : a2 = b2 <;> simp [h1, h2] <;> omega
theorem srtD_steps {v : List (Nat × Nat)} (hv : ∀ s ∈ v, s.1 < 3 ∧ s.2 < 2) : srtD (v.map stepD) = ok (.list ((srtS v).map stepD)) := by
  have h := sorted_steps hv
  cases v with
  | nil =>
    show guard (srtOk []) (ok (PyData.list (([] : List D).mergeSort (PySem.W.dataLe false id)))) = _
    simp [srtOk, srtS]
  | cons s v => exact h
theorem srt_dict (es : List (D × D)) : b1 .sorted (.dict (mkD :: es)) = srtD (es.map (·.1)) := rfl
theorem put_dict (es : List (D × D)) (k v : D) (h : tkD k = true) (hf : es.length ≤ 1000) : putA (.dict (mkD :: es)) k v = ok (.dict (mkD :: putD k v es)) := by
  show guard (tkD k && fits es.length) _ = _
  rw [h, fits_of (by omega)]
  rfl
def stBody : CSs := (.cons (.put 3 (.tup (.cons (.bin .mod (.bin .add (.idx (.var 4) (.con (.int 0))) (.idx (.var 5) (.con (.int 0)))) (.idx (.var 0) (.con (.int 0)))) (.cons (.bin .mod (.bin .add (.idx (.var 4) (.con (.int 1))) (.idx (.var 5) (.con (.int 1)))) (.idx (.var 0) (.con (.int 1)))) .nil))) (.con (.bool true))) .nil)
def stS (W : Wd) (v u : List (Nat × Nat)) (l : List ((Nat × Nat) × D)) (x y : Sl) : St := [.fz W.D, .fz (.tuple (v.map stepD)), .fz (.tuple (u.map stepD)), .ow (.dict (mkD :: encN stepD l)), x, y]
theorem st_turn (hW : W.Ok) {Φ : Nat → List D → Out D} (v u : List (Nat × Nat)) {l : List ((Nat × Nat) × D)} (hl : l.length ≤ 1000) (a b : Nat × Nat) (y : Sl) :
    evSs Φ wf stBody ((stS W v u l (.fz (stepD a)) y).set 5 (.fz (stepD b))) = ok (.nx (stS W v u (aput (sumS W a b) (.bool true) l) (.fz (stepD a)) (.fz (stepD b)))) := by
  have i := hW.in
  have w1 : 0 < W.w := i.w1
  have h1 : 0 < W.h := i.h1
  have e := put_dict (encN stepD l) (stepD (sumS W a b)) (.bool true) (tk_step _) (by rw [enc_len]; exact hl)
  rw [putD_enc eqv_step] at e
  have e1 : (((a.1 : Int) + b.1) % W.w) = ((sumS W a b).1 : Nat) := by simp [sumS, Int.natCast_emod]
  have e2 : (((a.2 : Int) + b.2) % W.h) = ((sumS W a b).2 : Nat) := by simp [sumS, Int.natCast_emod]
  have e3 : PyData.tuple [.int ((sumS W a b).1 : Nat), .int ((sumS W a b).2 : Nat)] = stepD (sumS W a b) := rfl
  simp [stBody, stS, stepD, Wd.D, w1, h1, e1, e2] at e ⊢
  rw [e]
  rfl
/-- what the dict has -/
structure Got (W : Wd) (l : List ((Nat × Nat) × D)) (P : Nat × Nat → Prop) : Prop where
  nd : (l.map (·.1)).Nodup
  mem : ∀ s, s ∈ l.map (·.1) ↔ P s
theorem Got.put {l : List ((Nat × Nat) × D)} {P : Nat × Nat → Prop} (g : Got W l P) (k : Nat × Nat) (v : D) : Got W (aput k v l) (fun s => P s ∨ s = k) := by
  have e := aput_keys k v l
  by_cases h : k ∈ l.map (·.1)
  · rw [if_pos h] at e
    refine ⟨e ▸ g.nd, fun s => ?_⟩
    rw [e, g.mem s]
    exact ⟨Or.inl, fun z => z.elim id fun z => z ▸ (g.mem k).mp h⟩
  · rw [if_neg h] at e
    refine ⟨?_, fun s => ?_⟩
    · rw [e]
      refine List.nodup_append.mpr ⟨g.nd, by simp, fun a ha b hb => ?_⟩
      have : b = k := by simpa using hb
      subst this
      exact fun z => h (z ▸ ha)
    · rw [e, List.mem_append, g.mem s]
      simp
theorem Got.len (hW : W.Ok) {l : List ((Nat × Nat) × D)} {P : Nat × Nat → Prop} (g : Got W l P) (hP : ∀ s, P s → s.1 < W.w ∧ s.2 < W.h) : l.length ≤ 6 := by
  have e : srtS (l.map (·.1)) = (msteps W).filter fun s => decide (s ∈ l.map (·.1)) := by
    refine lt_one stepLt_as (srtS_lt g.nd) ((msteps_fin W hW).1.sublist List.filter_sublist) fun s => ?_
    rw [(srtS_perm _).mem_iff, List.mem_filter, in_msteps hW, decide_eq_true_eq]
    exact ⟨fun h => ⟨hP s ((g.mem s).mp h), h⟩, fun h => h.2⟩
  have h1 := List.length_filter_le (fun s => decide (s ∈ l.map (·.1))) (msteps W)
  have h2 := (msteps_fin W hW).2.1
  have h3 := hW.in.n6
  have h4 := (srtS_perm (l.map (·.1))).length_eq
  rw [e, List.length_map] at h4
  omega
theorem sumS_lt (hW : W.Ok) (a b : Nat × Nat) : (sumS W a b).1 < W.w ∧ (sumS W a b).2 < W.h := ⟨Nat.mod_lt _ hW.in.w1, Nat.mod_lt _ hW.in.h1⟩
theorem st_inner (hW : W.Ok) {Φ : Nat → List D → Out D} (v u : List (Nat × Nat)) {P : Nat × Nat → Prop} (hP : ∀ s, P s → s.1 < W.w ∧ s.2 < W.h) {l : List ((Nat × Nat) × D)} (g : Got W l P) (a : Nat × Nat) (y : Sl) :
    ∃ l' y', forM (forF Φ wf (.one 5) stBody) (u.map stepD) (stS W v u l (.fz (stepD a)) y) = ok (.nx (stS W v u l' (.fz (stepD a)) y')) ∧ Got W l' (fun s => P s ∨ ∃ b ∈ u, sumS W a b = s) := by
  obtain ⟨S', e, l', y', eS, g'⟩ := forM_invI (f := forF Φ wf (.one 5) stBody) (i := stepD) (as := u) (S := stS W v u l (.fz (stepD a)) y) (fun pre S => ∃ l' y', S = stS W v u l' (.fz (stepD a)) y' ∧ Got W l' (fun s => P s ∨ ∃ b ∈ pre, sumS W a b = s))
    ⟨l, y, rfl, g.nd, fun s => by rw [g.mem s]; simp⟩ (by
      rintro pre b post S eas ⟨l', y', rfl, g'⟩
      have hl := g'.len hW (fun s z => z.elim (hP s) fun ⟨b, _, e⟩ => e ▸ sumS_lt hW a b)
      refine ⟨_, st_turn hW v u (by omega) a b y', _, _, rfl, ?_⟩
      have g2 := g'.put (sumS W a b) (.bool true)
      refine ⟨g2.nd, fun s => ?_⟩
      rw [g2.mem s]
      constructor
      · rintro ((h | ⟨c, hc, e⟩) | rfl)
        · exact Or.inl h
        · exact Or.inr ⟨c, List.mem_append_left _ hc, e⟩
        · exact Or.inr ⟨b, by simp, rfl⟩
      · rintro (h | ⟨c, hc, e⟩)
        · exact Or.inl (Or.inl h)
        · rcases List.mem_append.mp hc with hc | hc
          · exact Or.inl (Or.inr ⟨c, hc, e⟩)
          · have : c = b := by simpa using hc
            subst this
            exact Or.inr e.symm)
  exact ⟨l', y', by rw [e, eS], g'⟩
def stOuter : CSs := (.cons (.for_ (.one 5) (.seq (.var 2)) stBody) .nil)
theorem st_outer (hW : W.Ok) {Φ : Nat → List D → Out D} (v u : List (Nat × Nat)) :
    ∃ l' x' y', forM (forF Φ wf (.one 4) stOuter) (v.map stepD) (stS W v u [] .no .no) = ok (.nx (stS W v u l' x' y')) ∧ Got W l' (fun s => ∃ a ∈ v, ∃ b ∈ u, sumS W a b = s) := by
  obtain ⟨S', e, l', x', y', eS, g'⟩ := forM_invI (f := forF Φ wf (.one 4) stOuter) (i := stepD) (as := v) (S := stS W v u [] .no .no) (fun pre S => ∃ l' x' y', S = stS W v u l' x' y' ∧ Got W l' (fun s => ∃ a ∈ pre, ∃ b ∈ u, sumS W a b = s))
    ⟨[], .no, .no, rfl, List.nodup_nil, fun s => by simp⟩ (by
      rintro pre a post S eas ⟨l', x', y', rfl, g'⟩
      obtain ⟨l2, y2, e2, g2⟩ := st_inner hW (wf := wf) (Φ := Φ) v u (fun s ⟨a, _, b, _, e⟩ => e ▸ sumS_lt hW a b) g' a y'
      refine ⟨stS W v u l2 (.fz (stepD a)) y2, ?_, l2, _, _, rfl, g2.nd, fun s => ?_⟩
      · have es : (stS W v u l' x' y').set 4 (.fz (stepD a)) = stS W v u l' (.fz (stepD a)) y' := rfl
        show (bindT (.one 4) (stepD a) (stS W v u l' x' y')).bind _ = _
        show evSs Φ wf stOuter ((stS W v u l' x' y').set 4 (.fz (stepD a))) = _
        rw [es]
        show seqK ((evi Φ (.seq (.var 2)) (stS W v u l' (.fz (stepD a)) y')).bind fun xs => forM (forF Φ wf (.one 5) stBody) xs (stS W v u l' (.fz (stepD a)) y')) _ = _
        have ei : evi Φ (.seq (.var 2)) (stS W v u l' (.fz (stepD a)) y') = ok (u.map stepD) := rfl
        rw [ei, bind_ok, e2]
        rfl
      · rw [g2.mem s]
        constructor
        · rintro (⟨c, hc, h⟩ | h)
          · exact ⟨c, List.mem_append_left _ hc, h⟩
          · exact ⟨a, by simp, h⟩
        · rintro ⟨c, hc, h⟩
          rcases List.mem_append.mp hc with hc | hc
          · exact Or.inl ⟨c, hc, h⟩
          · have : c = a := by simpa using hc
            subst this
            exact Or.inr h)
  exact ⟨l', x', y', by rw [e, eS], g'⟩
theorem v_steps_of (hW : W.Ok) (v u : List (Nat × Nat)) : call (tblL L) wf (n + 1) 110 [W.D, .tuple (v.map stepD), .tuple (u.map stepD)] = ok (.tuple ((msums W v u).map stepD)) := by
  refine (call_eq (n := n) tc_steps_of rfl).trans ?_
  obtain ⟨Φ, hΦ⟩ : ∃ Φ, Φ = call (tblL L) wf n := ⟨_, rfl⟩
  rw [← hΦ]
  clear hΦ
  obtain ⟨l, x, y, e, g⟩ := st_outer hW (wf := wf) (Φ := Φ) v u
  have eb : c_steps_of.body = .cons (.setd 3 .nil .nil) (.cons (.for_ (.one 4) (.seq (.var 1)) stOuter) (.cons (.ret (.b1 .tuple (.b1 .sorted (.pk 3)))) .nil)) := rfl
  rw [eb]
  show endK (seqK ((evi Φ (.seq (.var 1)) (stS W v u [] .no .no)).bind fun xs => forM (forF Φ wf (.one 4) stOuter) xs (stS W v u [] .no .no)) fun S' => evSs Φ wf (.cons (.ret (.b1 .tuple (.b1 .sorted (.pk 3)))) .nil) S') = _
  have ei : evi Φ (.seq (.var 1)) (stS W v u [] .no .no) = ok (v.map stepD) := rfl
  rw [ei, bind_ok, e, seqK_nx]
  have hb : ∀ s ∈ l.map (·.1), s.1 < 3 ∧ s.2 < 2 := fun s hs => by
    obtain ⟨a, _, b, _, rfl⟩ := (g.mem s).mp hs
    have := sumS_lt hW a b
    have := hW.in.w3
    have := hW.in.h2
    omega
  have es : b1 .sorted (.dict (mkD :: encN stepD l)) = ok (.list ((srtS (l.map (·.1))).map stepD)) := by
    rw [srt_dict, enc_keys, srtD_steps hb]
  have em : srtS (l.map (·.1)) = msums W v u := by
    refine lt_one stepLt_as (srtS_lt g.nd) ((msteps_fin W hW).1.sublist List.filter_sublist) fun s => ?_
    rw [(srtS_perm _).mem_iff, g.mem s]
    exact (in_msums hW).symm
  rw [em] at es
  show endK (seqK (((b1 .sorted (.dict (mkD :: encN stepD l))).bind fun x => b1 .tuple x).bind fun d => ok (.rt d)) _) = _
  rw [es]
  rfl
/-! ### is_idle -/
theorem shN_00 : shN 2 (PyData.tuple [.tuple [.int 0, .int 0]]) := shN_tuple fun x hx => by
  have : x = .tuple [.int 0, .int 0] := by simpa using hx
  subst this
  exact shN_step (0, 0)
theorem eq_win (v : List (Nat × Nat)) : cop .eq (.tuple (v.map stepD)) (.tuple [.tuple [.int 0, .int 0]]) = ok (.bool (decide (v = [(0, 0)]))) := by
  refine cop_eq_of ?_
  rw [shp_of (shN_steps v) (by decide), shp_of shN_00 (by decide)]
  have e : PyData.eqv (.tuple (v.map stepD)) (.tuple ([(0, 0)].map stepD)) = decide (v = [(0, 0)]) := eqvAll_map eqv_step v [(0, 0)]
  have e2 : PyData.tuple ([((0 : Nat), (0 : Nat))].map stepD) = .tuple [.tuple [.int 0, .int 0]] := rfl
  rw [e2] at e
  rw [e]
  simp
theorem eq_nil (c : List Nat) : cop .eq (natsD c) (.tuple []) = ok (.bool (decide (c = []))) := by
  refine cop_eq_of ?_
  rw [shp_of (shN_nats c) (by decide)]
  cases c <;> rfl
theorem v_is_idle (hW : W.Ok) {d : Deed} (hb : d.free = false) : call (tblL L) wf (n + 1) 72 [W.D, d.D] = ok (.bool (midle W d)) := by
  refine (call_eq (n := n) tc_is_idle rfl).trans ?_
  obtain ⟨Φ, hΦ⟩ : ∃ Φ, Φ = call (tblL L) wf n := ⟨_, rfl⟩
  rw [← hΦ]
  clear hΦ
  cases d <;> first | (cases hb; done) | skip
  · rename_i v
    have e := eq_win v
    simp [c_is_idle, Deed.D, midle, e]
  · rename_i v
    have e := eq_win v
    simp [c_is_idle, Deed.D, midle, e]
  · rename_i c
    have e : cop .eq (.int (c.length : Nat)) (.int ((W.w : Int) * W.h)) = ok (.bool (decide (c.length = W.n))) := by
      refine cop_eq_of ?_
      have en : (W.w : Int) * W.h = (W.n : Int) := by simp [Wd.n]
      rw [en, eqv_int, shp_of (shN_int 0 _) (by decide), shp_of (shN_int 0 _) (by decide)]
      simp
      omega
    simp [c_is_idle, Deed.D, midle, natsD, Wd.D, mul_ok hW, e]
  · rename_i c
    have e := eq_nil c
    simp [c_is_idle, Deed.D, midle, e]
end FL

set_option maxRecDepth 20000
/-! FLv13: two deeds made one; deeds that are not free, settled. -/
namespace FL
open PySem Out
variable {L : Fn} {wf n : Nat} {W : Wd}
theorem intsD_nats (c : List Nat) : intsD (c.map fun k : Nat => PyData.int k) = some (c.map fun k : Nat => (k : Int)) := intsD_map (fun k : Nat => (k : Int)) c
theorem uset_nats (hW : W.Ok) {c e : List Nat} (hc : cellsOk W c) (he : cellsOk W e) : b1 .sortedset (.tuple ((c ++ e).map fun k : Nat => PyData.int k)) = ok (.list ((mboth W c e).map fun k : Nat => PyData.int k)) := by
  show (match intsD ((c ++ e).map fun k : Nat => PyData.int k) with
    | some ns => guard (decide (ns.length < 63)) (ok (PyData.list ((usort id ns).map .int)))
    | none => bad) = _
  rw [intsD_nats]
  have hl : ((c ++ e).map fun k : Nat => (k : Int)).length < 63 := by
    have := cells_len hW hc
    have := cells_len hW he
    simp
    omega
  show guard (decide (((c ++ e).map fun k : Nat => (k : Int)).length < 63)) (ok (PyData.list ((usort id ((c ++ e).map fun k : Nat => (k : Int))).map .int))) = _
  rw [decide_eq_true hl, guard_true]
  have e1 : usort id ((c ++ e).map fun k : Nat => (k : Int)) = (mboth W c e).map fun k : Nat => (k : Int) := by
    refine up_one (f := id) (usort_up _) ?_ fun x => ?_
    · rw [List.pairwise_map]
      refine ((range_pair W.n).sublist List.filter_sublist).imp fun {a b} h => ?_
      show (a : Int) < b
      omega
    · rw [usort_mem (f := id) (P := fun _ => True) (fun _ _ _ _ z => z) fun _ _ => trivial]
      simp only [List.mem_map, mboth, List.mem_filter, List.mem_range, decide_eq_true_eq, List.mem_append]
      constructor
      · rintro ⟨k, hk, rfl⟩
        exact ⟨k, ⟨hk.elim (hc.1 k) (he.1 k), hk⟩, rfl⟩
      · rintro ⟨k, hk, rfl⟩
        exact ⟨k, hk.2, rfl⟩
  rw [e1, List.map_map]
  rfl
theorem add_nats (hW : W.Ok) {c e : List Nat} (hc : cellsOk W c) (he : cellsOk W e) : bop .add (natsD c) (natsD e) = ok (.tuple ((c ++ e).map fun k : Nat => PyData.int k)) := by
  have := cells_len hW hc
  have := cells_len hW he
  show guard (fits ((c.map fun k : Nat => PyData.int k).length + (e.map fun k : Nat => PyData.int k).length)) (ok (PyData.tuple (c.map (fun k : Nat => PyData.int k) ++ e.map fun k : Nat => PyData.int k))) = _
  rw [fits_of (by simp; omega), List.map_append]
  rfl
theorem cap_lc {Φ : Nat → List D → Out D} (c e : List Nat) (w : D) (S0 S1 S2 : Sl) (q : CE) (hq : ∀ x, ev Φ q [S0, S1, S2, x] = ok (natsD e)) : lcM (lcF Φ (.one 3) (.so (.cmp .inn (.var 3) q)) (.var 3) [S0, S1, S2, .no]) (c.map fun k : Nat => PyData.int k) = ok ((mcap c e).map fun k : Nat => PyData.int k) := by
  refine lcM_filterI (p := fun k => decide (k ∈ e)) fun k hk => ?_
  have h := in_nats k e
  by_cases g : k ∈ e <;> simp [lcF, hq, h, g]
theorem v_merged (hW : W.Ok) {a b : Deed} (ha : a.Ok W) (hb : b.Ok W) (fa : a.free = false) (fb : b.free = false) : call (tblL L) wf (n + 2) 90 [W.D, a.D, b.D] = ok (.list ((mmerged W a b).map Deed.D)) := by
  refine (call_eq (n := n + 1) tc_merged rfl).trans ?_
  have h1 := fun v u => v_steps_of (L := L) (wf := wf) (n := n) hW v u
  obtain ⟨Φ, hΦ⟩ : ∃ Φ, Φ = call (tblL L) wf (n + 1) := ⟨_, rfl⟩
  rw [← hΦ] at h1 ⊢
  clear hΦ
  cases a <;> first | (cases fa; done) | skip
  all_goals (cases b <;> first | (cases fb; done) | skip)
  · rename_i v u
    simp [c_merged, Deed.D, mmerged, h1]
  · simp [c_merged, Deed.D, mmerged]
  · simp [c_merged, Deed.D, mmerged]
  · simp [c_merged, Deed.D, mmerged]
  · simp [c_merged, Deed.D, mmerged]
  · simp [c_merged, Deed.D, mmerged, h1]
  · simp [c_merged, Deed.D, mmerged]
  · simp [c_merged, Deed.D, mmerged]
  · simp [c_merged, Deed.D, mmerged]
  · simp [c_merged, Deed.D, mmerged]
  · rename_i c e
    have q := cap_lc (Φ := Φ) c e .none (.fz W.D) (.fz (Deed.mask c).D) (.fz (Deed.mask e).D) (.idx (.var 2) (.con (.int 1))) (fun x => by simp [Deed.D])
    simp only [Deed.D] at q
    simp [c_merged, Deed.D, mmerged, natsD] at q ⊢
    rw [q]
    simp
  · simp [c_merged, Deed.D, mmerged]
  · simp [c_merged, Deed.D, mmerged]
  · simp [c_merged, Deed.D, mmerged]
  · rename_i c e
    have q := cap_lc (Φ := Φ) c e .none (.fz W.D) (.fz (Deed.lift c).D) (.fz (Deed.mask e).D) (.idx (.var 2) (.con (.int 1))) (fun x => by simp [Deed.D])
    simp only [Deed.D] at q
    simp [c_merged, Deed.D, mmerged, natsD] at q ⊢
    rw [q]
    simp
  · rename_i c e
    have q1 := add_nats hW ha hb
    have q2 := uset_nats hW ha hb
    simp [c_merged, Deed.D, mmerged, q1] at q2 ⊢
    rw [q2]
    simp [natsD]
/-! ### settled -/
def at_ (r : List Deed) (k : Nat) : Deed := r.getD k .turn
def mplace (r : List Deed) : Option Nat := (List.range (r.length - 1)).find? fun k => merges (at_ r k) (at_ r (k + 1))
def busy (W : Wd) (r : List Deed) : List Deed := r.filter fun d => !midle W d
def mlead (W : Wd) (s : List Deed) (k : Nat) : List Deed := s.take k ++ mmerged W (at_ s k) (at_ s (k + 1)) ++ s.drop (k + 2)
def mset (W : Wd) : Nat → List Deed → List Deed
  | 0, r => r
  | m + 1, r => match mplace (busy W r) with
    | none => busy W r
    | some k => mset W m (mlead W (busy W r) k)
def isL : Deed → Bool
  | .lift _ => true
  | _ => false
def isM : Deed → Bool
  | .mask _ => true
  | _ => false
def inv : List Deed → Nat
  | [] => 0
  | a :: r => (if isL a = true then r.countP isM else 0) + inv r
theorem inv_app : ∀ r s : List Deed, inv (r ++ s) = inv r + inv s + r.countP isL * s.countP isM
  | [], s => by simp [inv]
  | a :: r, s => by
    show (if isL a = true then (r ++ s).countP isM else 0) + inv (r ++ s) = (if isL a = true then r.countP isM else 0) + inv r + inv s + _
    rw [inv_app r s, List.countP_append, List.countP_cons]
    by_cases h : isL a = true
    · simp only [h, if_true]
      rw [Nat.add_mul]
      omega
    · simp [h]
      try omega
theorem inv_filter (p : Deed → Bool) : ∀ r : List Deed, inv (r.filter p) ≤ inv r
  | [] => Nat.le_refl _
  | a :: r => by
    have ih := inv_filter p r
    have hc : (r.filter p).countP isM ≤ r.countP isM := List.filter_sublist.countP_le
    by_cases h : p a = true
    · rw [List.filter_cons_of_pos h]
      show (if isL a = true then (r.filter p).countP isM else 0) + inv (r.filter p) ≤ (if isL a = true then r.countP isM else 0) + inv r
      split <;> omega
    · rw [List.filter_cons_of_neg h]
      show inv (r.filter p) ≤ _ + inv r
      omega
theorem inv_le : ∀ r : List Deed, 2 * inv r ≤ r.length * r.length
  | [] => Nat.le_refl _
  | a :: r => by
    have ih := inv_le r
    have hc : r.countP isM ≤ r.length := List.countP_le_length
    show 2 * ((if isL a = true then r.countP isM else 0) + inv r) ≤ (r.length + 1) * (r.length + 1)
    have e : (r.length + 1) * (r.length + 1) = r.length * r.length + 2 * r.length + 1 := by
      rw [Nat.add_mul, Nat.mul_add]
      omega
    rw [e]
    split <;> omega
def mu (r : List Deed) : Nat := r.length + inv r
theorem mu_lead {t m m' u : List Deed} (hM : m'.countP isM ≤ m.countP isM) (hL : m'.countP isL ≤ m.countP isL) (hm : mu m' < mu m) : mu (t ++ m' ++ u) < mu (t ++ m ++ u) := by
  unfold mu at *
  rw [inv_app, inv_app, inv_app, inv_app, List.countP_append, List.countP_append]
  simp only [List.length_append]
  have h1 : t.countP isL * m'.countP isM ≤ t.countP isL * m.countP isM := Nat.mul_le_mul_left _ hM
  have h2 : (t.countP isL + m'.countP isL) * u.countP isM ≤ (t.countP isL + m.countP isL) * u.countP isM := Nat.mul_le_mul_right _ (by omega)
  omega
theorem mu_merged {a b : Deed} (h : merges a b = true) : (mmerged W a b).countP isM ≤ [a, b].countP isM ∧ (mmerged W a b).countP isL ≤ [a, b].countP isL ∧ mu (mmerged W a b) < mu [a, b] := by
  cases a <;> cases b <;> first | (cases h; done) | (simp [mmerged, isM, isL, mu, inv, List.countP_cons]; done) | decide
theorem split_at {s : List Deed} {k : Nat} (h : k + 1 < s.length) : s = s.take k ++ [at_ s k, at_ s (k + 1)] ++ s.drop (k + 2) := by
  have e1 : s.drop k = at_ s k :: s.drop (k + 1) := by
    rw [List.drop_eq_getElem_cons (by omega)]
    unfold at_
    rw [List.getD_eq_getElem?_getD, List.getElem?_eq_getElem (by omega)]
    rfl
  have e2 : s.drop (k + 1) = at_ s (k + 1) :: s.drop (k + 2) := by
    rw [List.drop_eq_getElem_cons (by omega)]
    unfold at_
    rw [List.getD_eq_getElem?_getD, List.getElem?_eq_getElem (by omega)]
    rfl
  have e3 : s = s.take k ++ s.drop k := (List.take_append_drop k s).symm
  rw [e1, e2] at e3
  rw [List.append_assoc]
  exact e3
theorem place_of {s : List Deed} {k : Nat} (h : mplace s = some k) : k + 1 < s.length ∧ merges (at_ s k) (at_ s (k + 1)) = true := by
  have h1 := List.mem_of_find?_eq_some h
  have h2 := List.find?_some h
  rw [List.mem_range] at h1
  exact ⟨by omega, h2⟩
theorem mu_step {s : List Deed} {k : Nat} (h : mplace s = some k) : mu (mlead W s k) < mu s := by
  obtain ⟨h1, h2⟩ := place_of h
  obtain ⟨a, b, c⟩ := mu_merged (W := W) h2
  have e := split_at h1
  have g := mu_lead (t := s.take k) (u := s.drop (k + 2)) a b c
  rw [← e] at g
  exact g
theorem mu_busy (r : List Deed) : mu (busy W r) ≤ mu r := by
  unfold mu busy
  have h1 := inv_filter (fun d => !midle W d) r
  have h2 := List.length_filter_le (fun d => !midle W d) r
  omega
/-- deeds of the world that are not free -/
def BndOk (W : Wd) (r : List Deed) : Prop := ∀ d ∈ r, d.Ok W ∧ d.free = false
theorem busy_ok {r : List Deed} (h : BndOk W r) : BndOk W (busy W r) := fun d hd => h d (List.mem_filter.mp hd).1
theorem at_mem {r : List Deed} {k : Nat} (h : k < r.length) : at_ r k ∈ r := by
  unfold at_
  rw [List.getD_eq_getElem?_getD, List.getElem?_eq_getElem h]
  exact List.getElem_mem h
theorem lead_ok (hW : W.Ok) {s : List Deed} {k : Nat} (h : BndOk W s) (hk : k + 1 < s.length) : BndOk W (mlead W s k) := by
  intro d hd
  unfold mlead at hd
  have h1 := h _ (at_mem (show k < s.length by omega))
  have h2 := h _ (at_mem hk)
  rcases List.mem_append.mp hd with hd | hd
  · rcases List.mem_append.mp hd with hd | hd
    · exact h d (List.mem_of_mem_take hd)
    · exact ⟨mmerged_ok hW h1.1 h2.1 d hd, mmerged_bound h1.2 h2.2 d hd⟩
  · exact h d (List.mem_of_mem_drop hd)
theorem merged_len (a b : Deed) : (mmerged W a b).length ≤ 2 := by cases a <;> cases b <;> simp [mmerged]
theorem lead_len {s : List Deed} {k : Nat} (hk : k + 1 < s.length) : (mlead W s k).length ≤ s.length := by
  have := merged_len (W := W) (at_ s k) (at_ s (k + 1))
  unfold mlead
  simp only [List.length_append, List.length_take, List.length_drop]
  omega
theorem mset_ok (hW : W.Ok) : ∀ (m : Nat) {r : List Deed}, BndOk W r → BndOk W (mset W m r) ∧ (mset W m r).length ≤ r.length
  | 0, r, h => ⟨h, Nat.le_refl _⟩
  | m + 1, r, h => by
    have hb := busy_ok h
    have hl : (busy W r).length ≤ r.length := List.length_filter_le _ _
    unfold mset
    split
    · exact ⟨hb, hl⟩
    · rename_i k e
      obtain ⟨h1, h2⟩ := place_of e
      obtain ⟨i1, i2⟩ := mset_ok hW m (lead_ok hW hb h1)
      have := lead_len (W := W) h1
      exact ⟨i1, by omega⟩
theorem eqvAll_len {xs ys : List D} (h : xs.length ≠ ys.length) : PyData.eqvAll xs ys = false := by
  induction xs generalizing ys with
  | nil =>
    cases ys with
    | nil => exact absurd rfl h
    | cons _ _ => rfl
  | cons x xs ih =>
    cases ys with
    | nil => rfl
    | cons y ys =>
      show (PyData.eqv x y && PyData.eqvAll xs ys) = false
      rw [ih (fun z => h (by simp [z]))]
      simp
theorem shN_deeds (r : List Deed) : shN 4 (.list (r.map Deed.D)) := shN_list fun x hx => by
  obtain ⟨d, _, rfl⟩ := List.mem_map.mp hx
  exact shN_deed d
theorem ne_merged {a b : Deed} (fa : a.free = false) (fb : b.free = false) : cop .ne (.list ((mmerged W a b).map Deed.D)) (.list ([a, b].map Deed.D)) = ok (.bool (merges a b)) := by
  by_cases hm : merges a b = true
  · refine cop_ne_of ?_
    rw [shp_of (shN_deeds _) (by decide), shp_of (shN_deeds _) (by decide), hm]
    have e : PyData.eqvAll ((mmerged W a b).map Deed.D) ([a, b].map Deed.D) = false := by
      cases a <;> cases b <;> first | (cases hm; done) | (refine eqvAll_len ?_; simp [mmerged]; done) | skip
      rename_i c e
      show (PyData.eqvAll [.str "mask", natsD e] [.str "lift", natsD c] && _) = false
      have : PyData.eqv (.str "mask") (.str "lift") = false := by decide +kernel
      show ((PyData.eqv (.str "mask") (.str "lift") && _) && _) = false
      rw [this]
      rfl
    show (true && true && ((!PyData.eqvAll ((mmerged W a b).map Deed.D) ([a, b].map Deed.D)) == true)) = true
    rw [e]
    rfl
  · have hm : merges a b = false := by simpa using hm
    have e : mmerged W a b = [a, b] := by cases a <;> cases b <;> first | (cases hm; done) | rfl
    rw [e, hm]
    exact ne_self (shN_deeds _) (by decide)
theorem cut_two {α : Type} {xs : List α} {k : Nat} (h : k + 1 < xs.length) : cut xs (some (k : Int)) (some ((k : Int) + 2)) = (xs.drop k).take 2 := by
  simp only [cut, sIx]
  rw [if_neg (by omega), if_neg (by omega)]
  have e1 : min (k : Int).toNat xs.length = k := by simp; omega
  have e2 : min ((k : Int) + 2).toNat xs.length = k + 2 := by
    have : ((k : Int) + 2).toNat = k + 2 := by omega
    rw [this]
    omega
  rw [e1, e2]
  have : k + 2 - k = 2 := by omega
  rw [this]
theorem deeds_cut {s : List Deed} {k : Nat} (h : k + 1 < s.length) : cut (s.map Deed.D) (some (k : Int)) (some ((k : Int) + 2)) = [at_ s k, at_ s (k + 1)].map Deed.D := by
  rw [cut_two (by simpa using h), ← List.map_drop, ← List.map_take]
  congr 1
  have e := split_at h
  have e2 : s.drop k = [at_ s k, at_ s (k + 1)] ++ s.drop (k + 2) := by
    have h1 : s.take k ++ s.drop k = s.take k ++ ([at_ s k, at_ s (k + 1)] ++ s.drop (k + 2)) := by
      rw [List.take_append_drop, ← List.append_assoc]
      exact e
    exact List.append_cancel_left h1
  rw [e2]
  rfl
theorem at_D {s : List Deed} {k : Nat} (h : k < s.length) : atD (s.map Deed.D) (k : Int) = some (at_ s k).D := by
  rw [atD_nat (by simpa using h)]
  unfold at_
  rw [List.getD_eq_getElem?_getD, List.getElem?_eq_getElem h]
  simp
def setBody : CSs := (.cons (.set 3 (.call 90 (.cons (.var 0) (.cons (.idx (.var 1) (.var 2)) (.cons (.idx (.var 1) (.bin .add (.var 2) (.con (.int 1)))) .nil)))))
 (.cons (.iff (.cmp .ne (.var 3) (.slc (.var 1) (.so (.var 2)) (.so (.bin .add (.var 2) (.con (.int 2))))))
 (.cons (.ret (.call 106 (.cons (.var 0) (.cons (.bin .add (.bin .add (.slc (.var 1) .no (.so (.var 2))) (.var 3)) (.slc (.var 1) (.so (.bin .add (.var 2) (.con (.int 2)))) .no)) .nil))))
 .nil)
 .nil)
 .nil))
def setS (W : Wd) (s : List Deed) (x y : Sl) : St := [.fz W.D, .fz (.list (s.map Deed.D)), x, y, .no]
theorem set_turn {Φ : Nat → List D → Out D} {s : List Deed} (hs : BndOk W s) (hl : s.length ≤ 100) {k : Nat} (hk : k + 1 < s.length) (x y : Sl) {R : D}
    (h1 : Φ 90 [W.D, (at_ s k).D, (at_ s (k + 1)).D] = ok (.list ((mmerged W (at_ s k) (at_ s (k + 1))).map Deed.D)))
    (h2 : merges (at_ s k) (at_ s (k + 1)) = true → Φ 106 [W.D, .list ((mlead W s k).map Deed.D)] = ok R) :
    forF Φ wf (.one 2) setBody (.int k) (setS W s x y) = if merges (at_ s k) (at_ s (k + 1)) = true then ok (.rt R) else ok (.nx (setS W s (.fz (.int k)) (.fz (.list ((mmerged W (at_ s k) (at_ s (k + 1))).map Deed.D))))) := by
  have ha := hs _ (at_mem (show k < s.length by omega))
  have hb := hs _ (at_mem hk)
  have e1 := at_D (show k < s.length by omega)
  have e2 := at_D hk
  have e2' : atD (s.map Deed.D) ((k : Int) + 1) = some (at_ s (k + 1)).D := e2
  have e3 := deeds_cut hk
  have e4 : cop .ne (.list ((mmerged W (at_ s k) (at_ s (k + 1))).map Deed.D)) (.list [(at_ s k).D, (at_ s (k + 1)).D]) = _ := ne_merged (W := W) ha.2 hb.2
  have e5 : cut (s.map Deed.D) none (some (k : Int)) = (s.take k).map Deed.D := by rw [cut_take, List.map_take]
  have e6 : cut (s.map Deed.D) (some ((k : Int) + 2)) none = (s.drop (k + 2)).map Deed.D := by
    have : ((k : Int) + 2) = ((k + 2 : Nat) : Int) := by omega
    rw [this, cut_drop, List.map_drop]
  have hm2 := merged_len (W := W) (at_ s k) (at_ s (k + 1))
  have f1 : fits (min k s.length + (mmerged W (at_ s k) (at_ s (k + 1))).length) = true := fits_of (by omega)
  have f2 : fits (min k s.length + ((mmerged W (at_ s k) (at_ s (k + 1))).length + (s.length - (k + 2)))) = true := fits_of (by omega)
  have f3 : fits (min k s.length + (mmerged W (at_ s k) (at_ s (k + 1))).length + (s.length - (k + 2))) = true := fits_of (by omega)
  by_cases hm : merges (at_ s k) (at_ s (k + 1)) = true
  · rw [if_pos hm]
    have h2 := h2 hm
    rw [hm] at e4
    have el : (mlead W s k).map Deed.D = (s.take k).map Deed.D ++ ((mmerged W (at_ s k) (at_ s (k + 1))).map Deed.D ++ (s.drop (k + 2)).map Deed.D) := by simp [mlead]
    rw [el] at h2
    simp [forF, setBody, setS, e1, e2', h1, e3, e5, e6, f1, f2, f3, h2, e4, -List.map_take, -List.map_drop]
  · have hm' : merges (at_ s k) (at_ s (k + 1)) = false := by simpa using hm
    rw [if_neg hm]
    rw [hm'] at e4
    simp [forF, setBody, setS, e1, e2', h1, e3, e4]
theorem v_settled (hW : W.Ok) : ∀ (m : Nat) {r : List Deed}, BndOk W r → r.length ≤ 100 → mu r < m → call (tblL L) wf (n + 2 + m) 106 [W.D, .list (r.map Deed.D)] = ok (.list ((mset W m r).map Deed.D))
  | 0, r, _, _, h => absurd h (Nat.not_lt_zero _)
  | m + 1, r, hr, hl, hm => by
    refine (call_eq (n := n + 2 + m) tc_settled rfl).trans ?_
    have h1 := fun (d : Deed) (hb : d.free = false) => v_is_idle (L := L) (wf := wf) (n := n + 1 + m) hW (d := d) hb
    have h2 := fun (a b : Deed) (ha : a.Ok W) (hb : b.Ok W) fa fb => v_merged (L := L) (wf := wf) (n := n + m) hW ha hb fa fb
    have h3 := fun (s : List Deed) (hs : BndOk W s) (hl : s.length ≤ 100) (g : mu s < m) => v_settled hW m hs hl g
    have q1 : n + 1 + m + 1 = n + 2 + m := by omega
    have q2 : n + m + 2 = n + 2 + m := by omega
    rw [q1] at h1
    rw [q2] at h2
    obtain ⟨Φ, hΦ⟩ : ∃ Φ, Φ = call (tblL L) wf (n + 2 + m) := ⟨_, rfl⟩
    rw [← hΦ] at h1 h2 h3 ⊢
    clear hΦ
    have eb : c_settled.body = .cons (.set 1 (.lc (.seq (.var 1)) (.one 4) (.so (.not (.call 72 (.cons (.var 0) (.cons (.var 4) .nil))))) (.var 4)))
      (.cons (.for_ (.one 2) (.rng (.bin .sub (.b1 .len (.var 1)) (.con (.int 1)))) setBody) (.cons (.ret (.var 1)) .nil)) := rfl
    rw [eb]
    have e0 : lcM (lcF Φ (.one 4) (.so (.not (.call 72 (.cons (.var 0) (.cons (.var 4) .nil))))) (.var 4) [.fz W.D, .fz (.list (r.map Deed.D)), .no, .no, .no]) (r.map Deed.D) = ok ((busy W r).map Deed.D) := by
      refine lcM_filterI (p := fun d => !midle W d) fun d hd => ?_
      have h := h1 d (hr d hd).2
      by_cases g : midle W d = true <;> simp [lcF, h, g]
    have hb := busy_ok hr
    have hbl : (busy W r).length ≤ 100 := Nat.le_trans (List.length_filter_le _ _) hl
    have hbm := mu_busy (W := W) r
    show endK (seqK (evS Φ wf (.set 1 (.lc (.seq (.var 1)) (.one 4) (.so (.not (.call 72 (.cons (.var 0) (.cons (.var 4) .nil))))) (.var 4))) [.fz W.D, .fz (.list (r.map Deed.D)), .no, .no, .no]) fun S' => evSs Φ wf (.cons (.for_ (.one 2) (.rng (.bin .sub (.b1 .len (.var 1)) (.con (.int 1)))) setBody) (.cons (.ret (.var 1)) .nil)) S') = ok (.list ((match mplace (busy W r) with
      | none => busy W r
      | some k => mset W m (mlead W (busy W r) k)).map Deed.D))
    have e1 : evS Φ wf (.set 1 (.lc (.seq (.var 1)) (.one 4) (.so (.not (.call 72 (.cons (.var 0) (.cons (.var 4) .nil))))) (.var 4))) [.fz W.D, .fz (.list (r.map Deed.D)), .no, .no, .no] = ok (.nx (setS W (busy W r) .no .no)) := by
      show (((lcM (lcF Φ (.one 4) (.so (.not (.call 72 (.cons (.var 0) (.cons (.var 4) .nil))))) (.var 4) [.fz W.D, .fz (.list (r.map Deed.D)), .no, .no, .no]) (r.map Deed.D)).bind fun ys => ok (PyData.list ys)).bind fun d => ok (Fl.nx (([.fz W.D, .fz (.list (r.map Deed.D)), .no, .no, .no] : St).set 1 (.fz d)))) = _
      rw [e0]
      rfl
    rw [e1, seqK_nx]
    generalize busy W r = s at *
    have e2 : evi Φ (.rng (.bin .sub (.b1 .len (.var 1)) (.con (.int 1)))) (setS W s .no .no) = ok ((List.range (s.length - 1)).map fun k : Nat => PyData.int k) := by
      have g : rngB ((s.length : Int) - 1) = true := by
        unfold rngB
        exact decide_eq_true (by omega)
      have g2 : rangeD ((s.length : Int) - 1) = (List.range (s.length - 1)).map fun k : Nat => PyData.int k := by
        unfold rangeD
        have : ((s.length : Int) - 1).toNat = s.length - 1 := by omega
        rw [this]
      simp [setS, g, g2]
    obtain ⟨S', hI, e3⟩ := forM_find (f := forF Φ wf (.one 2) setBody) (i := fun k : Nat => PyData.int k) (p := fun k => merges (at_ s k) (at_ s (k + 1))) (g := fun k => .list ((mset W m (mlead W s k)).map Deed.D)) (fun S => ∃ x y, S = setS W s x y) (as := List.range (s.length - 1)) (S := setS W s .no .no) ⟨_, _, rfl⟩ (by
      rintro k hk S ⟨x, y, rfl⟩
      have hk : k + 1 < s.length := by
        have := List.mem_range.mp hk
        omega
      have ha := hb _ (at_mem (show k < s.length by omega))
      have hc := hb _ (at_mem hk)
      refine ⟨_, ⟨_, _, rfl⟩, set_turn hb hbl hk x y (h2 _ _ ha.1 hc.1 ha.2 hc.2) fun g => ?_⟩
      refine h3 _ (lead_ok hW hb hk) (Nat.le_trans (lead_len hk) hbl) ?_
      obtain ⟨z1, z2, z3⟩ := mu_merged (W := W) g
      have g2 := mu_lead (t := s.take k) (u := s.drop (k + 2)) z1 z2 z3
      rw [← split_at hk] at g2
      have g3 : mu (mlead W s k) < mu s := g2
      omega)
    have e4 : evSs Φ wf (.cons (.for_ (.one 2) (.rng (.bin .sub (.b1 .len (.var 1)) (.con (.int 1)))) setBody) (.cons (.ret (.var 1)) .nil)) (setS W s .no .no) = seqK (forM (forF Φ wf (.one 2) setBody) ((List.range (s.length - 1)).map fun k : Nat => PyData.int k) (setS W s .no .no)) fun S' => evSs Φ wf (.cons (.ret (.var 1)) .nil) S' := by
      show seqK ((evi Φ (.rng (.bin .sub (.b1 .len (.var 1)) (.con (.int 1)))) (setS W s .no .no)).bind fun xs => forM (forF Φ wf (.one 2) setBody) xs (setS W s .no .no)) _ = _
      rw [e2, bind_ok]
    rw [e4, e3]
    obtain ⟨x, y, rfl⟩ := hI
    unfold mplace
    generalize List.find? (fun k => merges (at_ s k) (at_ s (k + 1))) (List.range (s.length - 1)) = o
    cases o <;> rfl
end FL

set_option maxRecDepth 20000
/-! FLv14: free deeds made few; the form of a row. -/
namespace FL
open PySem Out
variable {L : Fn} {wf n : Nat} {W : Wd}
structure Fs where
  fa : Bool
  fd : Bool
  x : Int
  y : Int
  t : Bool
def bI : Bool → Int
  | true => 1
  | false => 0
def fstep (s : Fs) : Deed → Fs
  | .turn => { s with t := !s.t }
  | .shift a b => { s with x := s.x + a, y := s.y + b }
  | .flip true => { s with fa := !s.fa, x := -s.x }
  | .flip false => { s with fd := !s.fd, y := -s.y }
  | _ => s
def f0 : Fs := ⟨false, false, 0, 0, false⟩
def mfs (r : List Deed) : Fs := r.foldl fstep f0
def mfin (W : Wd) (s : Fs) : List Deed := (if s.fa = true then [.flip true] else []) ++ (if s.fd = true then [.flip false] else []) ++ (if s.y % W.h * W.w + s.x % W.w = 0 then [] else [.shift (s.x % W.w).toNat (s.y % W.h).toNat]) ++ (if s.t = true then [.turn] else [])
def mfree (W : Wd) (r : List Deed) : List Deed := mfin W (mfs r)
def flD (a b : Bool) : D := .dict [(.str "across", .int (bI a)), (.str "down", .int (bI b))]
def ffS (W : Wd) (r : List Deed) (s : Fs) (q : Sl) : St := [.fz W.D, .fz (.list (r.map Deed.D)), .ow (flD s.fa s.fd), .fz (.int s.x), .fz (.int s.y), .fz (.int (bI s.t)), q, .no, .no]
theorem look_a (a b : Bool) : idx (flD a b) (.str "across") = ok (.int (bI a)) := by cases a <;> cases b <;> kernel_rfl
theorem look_d (a b : Bool) : idx (flD a b) (.str "down") = ok (.int (bI b)) := by cases a <;> cases b <;> kernel_rfl
theorem put_a (a b c : Bool) : putA (flD a b) (.str "across") (.int (bI c)) = ok (flD c b) := by cases a <;> cases b <;> cases c <;> kernel_rfl
theorem put_d (a b c : Bool) : putA (flD a b) (.str "down") (.int (bI c)) = ok (flD a c) := by cases a <;> cases b <;> cases c <;> kernel_rfl
theorem bI_not (b : Bool) : 1 - bI b = bI (!b) := by cases b <;> rfl
def ffBody : CSs := (.cons (.iff (.cmp .eq (.idx (.var 6) (.con (.int 0))) (.con (.str "turn")))
 (.cons (.set 5 (.bin .sub (.con (.int 1)) (.var 5)))
 .nil)
 (.cons (.iff (.cmp .eq (.idx (.var 6) (.con (.int 0))) (.con (.str "shift")))
 (.cons (.aug 3 (.idx (.var 6) (.con (.int 1))))
 (.cons (.aug 4 (.idx (.var 6) (.con (.int 2))))
 .nil))
 (.cons (.iff (.cmp .eq (.idx (.var 6) (.con (.int 1))) (.con (.str "across")))
 (.cons (.put 2 (.con (.str "across")) (.bin .sub (.con (.int 1)) (.idx (.pk 2) (.con (.str "across")))))
 (.cons (.set 3 (.neg (.var 3)))
 .nil))
 (.cons (.put 2 (.con (.str "down")) (.bin .sub (.con (.int 1)) (.idx (.pk 2) (.con (.str "down")))))
 (.cons (.set 4 (.neg (.var 4)))
 .nil)))
 .nil))
 .nil))
 .nil)
theorem ff_turn {Φ : Nat → List D → Out D} (r : List Deed) (s : Fs) (q : Sl) {d : Deed} (hd : d.free = true) : forF Φ wf (.one 6) ffBody d.D (ffS W r s q) = ok (.nx (ffS W r (fstep s d) (.fz d.D))) := by
  cases d with
  | turn => simp [forF, ffBody, ffS, Deed.D, fstep, bI_not]
  | shift a b => simp [forF, ffBody, ffS, Deed.D, fstep]
  | flip k =>
    cases k with
    | true => simp [forF, ffBody, ffS, Deed.D, sideD, fstep, look_a, bI_not, put_a]
    | false => simp [forF, ffBody, ffS, Deed.D, sideD, fstep, look_d, bI_not, put_d]
  | _ => cases hd
theorem ff_loop {Φ : Nat → List D → Out D} {r : List Deed} (hr : ∀ d ∈ r, d.free = true) : ∃ q, forM (forF Φ wf (.one 6) ffBody) (r.map Deed.D) (ffS W r f0 .no) = ok (.nx (ffS W r (mfs r) q)) := by
  obtain ⟨S', e, q, eS⟩ := forM_invI (f := forF Φ wf (.one 6) ffBody) (i := Deed.D) (as := r) (S := ffS W r f0 .no) (fun pre S => ∃ q, S = ffS W r (pre.foldl fstep f0) q) ⟨.no, rfl⟩ (by
    rintro pre d post S er ⟨q, rfl⟩
    refine ⟨_, ff_turn r _ q (hr d (by rw [er]; simp)), .fz d.D, ?_⟩
    rw [List.foldl_append]
    rfl)
  exact ⟨q, by rw [e, eS]; rfl⟩
theorem v_free_form (hW : W.Ok) {r : List Deed} (hr : ∀ d ∈ r, d.free = true) : call (tblL L) wf (n + 2) 68 [W.D, .list (r.map Deed.D)] = ok (.list ((mfree W r).map Deed.D)) := by
  refine (call_eq (n := n + 1) tc_free_form rfl).trans ?_
  have h1 := v_cell_at (L := L) (wf := wf) (n := n) hW (mfs r).x (mfs r).y
  obtain ⟨Φ, hΦ⟩ : ∃ Φ, Φ = call (tblL L) wf (n + 1) := ⟨_, rfl⟩
  rw [← hΦ] at h1 ⊢
  clear hΦ
  obtain ⟨q, e⟩ := ff_loop (wf := wf) (W := W) (Φ := Φ) hr
  have eb : c_free_form.body = .cons (.setk 2 [(.str "across"), (.str "down")] (.cons (.con (.int 0)) (.cons (.con (.int 0)) .nil)))
    (.cons (.set 3 (.con (.int 0))) (.cons (.set 4 (.con (.int 0))) (.cons (.set 5 (.con (.int 0))) (.cons (.for_ (.one 6) (.seq (.var 1)) ffBody)
    (.cons (.setc 7 (.seq (.tup (.cons (.con (.str "across")) (.cons (.con (.str "down")) .nil)))) (.one 8) (.so (.cmp .eq (.idx (.pk 2) (.var 8)) (.con (.int 1)))) (.tup (.cons (.con (.str "flip")) (.cons (.var 8) .nil))))
    (.cons (.iff (.cmp .ne (.call 57 (.cons (.var 0) (.cons (.var 3) (.cons (.var 4) .nil)))) (.con (.int 0)))
      (.cons (.app 7 (.tup (.cons (.con (.str "shift")) (.cons (.bin .mod (.var 3) (.idx (.var 0) (.con (.int 0)))) (.cons (.bin .mod (.var 4) (.idx (.var 0) (.con (.int 1)))) .nil))))) .nil) .nil)
    (.cons (.ret (.bin .add (.pk 7) (.bin .mul (.lst (.cons (.tup (.cons (.con (.str "turn")) .nil)) .nil)) (.var 5)))) .nil))))))) := rfl
  rw [eb]
  have es : dspD [(.str "across"), (.str "down")] [.int 0, .int 0] = ok (flD false false) := by kernel_rfl
  have e0 : ∀ K : CSs, evSs Φ wf (.cons (.setk 2 [(.str "across"), (.str "down")] (.cons (.con (.int 0)) (.cons (.con (.int 0)) .nil))) (.cons (.set 3 (.con (.int 0))) (.cons (.set 4 (.con (.int 0))) (.cons (.set 5 (.con (.int 0))) (.cons (.for_ (.one 6) (.seq (.var 1)) ffBody) K))))) (startS 9 [W.D, .list (r.map Deed.D)]) = evSs Φ wf K (ffS W r (mfs r) q) := by
    intro K
    have e' := e
    simp only [ffS, f0] at e'
    simp [es]
    have : bI false = 0 := rfl
    simp only [this] at e'
    rw [e']
    rfl
  show endK (evSs Φ wf _ (startS 9 _)) = _
  rw [e0]
  clear e0 e es eb
  have ek : mfree W r = mfin W (mfs r) := rfl
  rw [ek]
  clear ek
  generalize mfs r = s at *
  have e1 : lcM (lcF Φ (.one 8) (.so (.cmp .eq (.idx (.pk 2) (.var 8)) (.con (.int 1)))) (.tup (.cons (.con (.str "flip")) (.cons (.var 8) .nil))) (ffS W r s q)) ([true, false].map sideD) = ok (([true, false].filter fun k => if k = true then s.fa else s.fd).map fun k => (Deed.flip k).D) := by
    refine lcM_filterI fun k hk => ?_
    have q1 : cop .eq (.int (bI true)) (.int 1) = ok (.bool true) := by kernel_rfl
    have q0 : cop .eq (.int (bI false)) (.int 1) = ok (.bool false) := by kernel_rfl
    cases k with
    | true =>
      have g := look_a s.fa s.fd
      cases h : s.fa <;> rw [h] at g <;> simp [lcF, ffS, sideD, g, h, q1, q0, Deed.D]
    | false =>
      have g := look_d s.fa s.fd
      cases h : s.fd <;> rw [h] at g <;> simp [lcF, ffS, sideD, g, h, q1, q0, Deed.D]
  have e2 : evS Φ wf (.setc 7 (.seq (.tup (.cons (.con (.str "across")) (.cons (.con (.str "down")) .nil)))) (.one 8) (.so (.cmp .eq (.idx (.pk 2) (.var 8)) (.con (.int 1)))) (.tup (.cons (.con (.str "flip")) (.cons (.var 8) .nil)))) (ffS W r s q) = ok (.nx ((ffS W r s q).set 7 (.ow (.list (([true, false].filter fun k => if k = true then s.fa else s.fd).map fun k => (Deed.flip k).D))))) := by
    show ((lcM (lcF Φ (.one 8) (.so (.cmp .eq (.idx (.pk 2) (.var 8)) (.con (.int 1)))) (.tup (.cons (.con (.str "flip")) (.cons (.var 8) .nil))) (ffS W r s q)) ([true, false].map sideD)).bind fun ys => ok (PyData.list ys)).bind (fun d => ok (Fl.nx ((ffS W r s q).set 7 (.ow d)))) = _
    rw [e1]
    rfl
  show endK (seqK (evS Φ wf _ (ffS W r s q)) fun S' => evSs Φ wf _ S') = _
  rw [e2, seqK_nx]
  have w1 : 0 < W.w := hW.in.w1
  have h1' : 0 < W.h := hW.in.h1
  have fl : (([true, false].filter fun k => if k = true then s.fa else s.fd).map fun k => (Deed.flip k).D) = ((if s.fa = true then [Deed.flip true] else []) ++ (if s.fd = true then [Deed.flip false] else [])).map Deed.D := by
    cases s.fa <;> cases s.fd <;> rfl
  rw [fl]
  have ll : ((if s.fa = true then [Deed.flip true] else []) ++ (if s.fd = true then [Deed.flip false] else [])).length ≤ 2 := by
    cases s.fa <;> cases s.fd <;> simp
  have em : mfin W s = ((if s.fa = true then [Deed.flip true] else []) ++ (if s.fd = true then [Deed.flip false] else [])) ++ (if s.y % W.h * W.w + s.x % W.w = 0 then [] else [.shift (s.x % W.w).toNat (s.y % W.h).toNat]) ++ (if s.t = true then [.turn] else []) := rfl
  rw [em]
  clear em fl e1 e2
  generalize ((if s.fa = true then [Deed.flip true] else []) ++ (if s.fd = true then [Deed.flip false] else [])) = fs at *
  have ne0 : cop .ne (.int (s.y % W.h * W.w + s.x % W.w)) (.int 0) = ok (.bool (decide (s.y % W.h * W.w + s.x % W.w ≠ 0))) := by
    refine cop_ne_of ?_
    rw [eqv_int, shp_of (shN_int 0 _) (by decide), shp_of (shN_int 0 _) (by decide)]
    simp
  have x0 : ((s.x % W.w).toNat : Int) = s.x % W.w := Int.toNat_of_nonneg (Int.emod_nonneg _ (by omega))
  have y0 : ((s.y % W.h).toNat : Int) = s.y % W.h := Int.toNat_of_nonneg (Int.emod_nonneg _ (by omega))
  have mul : bop .mul (.list [.tuple [.str "turn"]]) (.int (bI s.t)) = ok (.list ((if s.t = true then [Deed.turn] else []).map Deed.D)) := by
    cases s.t <;> kernel_rfl
  have fits3 : ∀ k : Nat, k ≤ 10 → fits k = true := fun k hk => fits_of (by omega)
  have tl : (if s.t = true then [Deed.turn] else []).length ≤ 1 := by cases s.t <;> simp
  generalize (if s.t = true then [Deed.turn] else []) = ts at *
  simp only [Wd.D] at h1
  have fa : fits (fs.length + ts.length) = true := fits3 _ (by omega)
  have fb : fits fs.length = true := fits3 _ (by omega)
  have fc : fits (fs.length + 1 + ts.length) = true := fits3 _ (by omega)
  have fc' : fits (fs.length + (ts.length + 1)) = true := fits3 _ (by omega)
  by_cases hz : s.y % W.h * W.w + s.x % W.w = 0
  · rw [hz] at h1 ne0
    simp [ffS, h1, ne0, hz, Wd.D, mul, fa]
  · have ne1 : cop .ne (.int (s.y % W.h * W.w + s.x % W.w)) (.int 0) = ok (.bool true) := by
      rw [ne0]
      simp [hz]
    simp [ffS, h1, ne1, hz, Wd.D, w1, h1', mul, fb, fc, fc', Deed.D, x0, y0]
/-! ### form_of -/
def mledAll (W : Wd) (fr : List Deed) (d : Deed) : Deed := fr.reverse.foldl (fun d f => mpast W f d) d
def mpstep (W : Wd) (q : List Deed × List Deed) (d : Deed) : List Deed × List Deed := if d.free = true then (q.1 ++ [d], q.2) else (q.1, q.2 ++ [mledAll W q.1 d])
def mparts (W : Wd) (r : List Deed) : List Deed × List Deed := r.foldl (mpstep W) ([], [])
def mform (W : Wd) (r : List Deed) : List Deed := mset W 25 (mparts W r).2 ++ mfree W (mparts W r).1
def FreeOk (W : Wd) (r : List Deed) : Prop := ∀ d ∈ r, d.Ok W ∧ d.free = true
theorem led_all_ok (hW : W.Ok) : ∀ {fr : List Deed} {d : Deed}, FreeOk W fr → d.Ok W → d.free = false → (fr.foldl (fun d f => mpast W f d) d).Ok W ∧ (fr.foldl (fun d f => mpast W f d) d).free = false
  | [], d, _, h, b => ⟨h, b⟩
  | f :: fr, d, hf, h, b => by
    obtain ⟨h1, h2⟩ := hf f (List.mem_cons_self ..)
    obtain ⟨g1, g2⟩ := mpast_ok hW h2 h b
    exact led_all_ok hW (fr := fr) (fun e he => hf e (List.mem_cons_of_mem _ he)) g1 g2
theorem FreeOk.rev {r : List Deed} (h : FreeOk W r) : FreeOk W r.reverse := fun d hd => h d (List.mem_reverse.mp hd)
/-- the parts of a row: both good, together as many -/
structure PtOk (W : Wd) (q : List Deed × List Deed) (k : Nat) : Prop where
  fr : FreeOk W q.1
  bd : BndOk W q.2
  len : q.1.length + q.2.length = k
theorem PtOk.step (hW : W.Ok) {q : List Deed × List Deed} {k : Nat} (h : PtOk W q k) {d : Deed} (hd : d.Ok W) : PtOk W (mpstep W q d) (k + 1) := by
  unfold mpstep
  have hl := h.len
  split
  · rename_i f
    refine ⟨fun e he => ?_, h.bd, by simp; omega⟩
    rcases List.mem_append.mp he with he | he
    · exact h.fr e he
    · have : e = d := by simpa using he
      subst this
      exact ⟨hd, f⟩
  · rename_i f
    have f : d.free = false := by simpa using f
    refine ⟨h.fr, fun e he => ?_, by simp; omega⟩
    rcases List.mem_append.mp he with he | he
    · exact h.bd e he
    · have : e = mledAll W q.1 d := by simpa using he
      subst this
      exact led_all_ok hW h.fr.rev hd f
theorem parts_pre (hW : W.Ok) : ∀ {r : List Deed} {q : List Deed × List Deed} {k : Nat}, RowOk W r → PtOk W q k → PtOk W (r.foldl (mpstep W) q) (k + r.length)
  | [], q, k, _, h => h
  | d :: r, q, k, hr, h => by
    have := parts_pre hW (r := r) (fun e he => hr e (List.mem_cons_of_mem _ he)) (h.step hW (hr d (List.mem_cons_self ..)))
    rw [List.length_cons]
    have e : k + (r.length + 1) = k + 1 + r.length := by omega
    rw [e]
    exact this
theorem parts_ok (hW : W.Ok) {r : List Deed} (hr : RowOk W r) : PtOk W (mparts W r) r.length := by
  have := parts_pre hW hr (q := ([], [])) (k := 0) ⟨fun d hd => (by cases hd), fun d hd => (by cases hd), rfl⟩
  rw [Nat.zero_add] at this
  exact this
def foInner : CSs := (.cons (.set 4 (.call 95 (.cons (.var 0) (.cons (.var 5) (.cons (.var 4) .nil))))) .nil)
def foBody : CSs := (.cons (.iff (.cmp .inn (.idx (.var 4) (.con (.int 0))) (.glo 2 (.tuple [(.str "shift"), (.str "flip"), (.str "turn")])))
 (.cons (.app 2 (.var 4)) .nil)
 (.cons (.for_ (.one 5) (.seq (.rev (.pk 2))) foInner)
 (.cons (.app 3 (.var 4)) .nil))) .nil)
def foS (W : Wd) (r : List Deed) (q : List Deed × List Deed) (x y : Sl) : St := [.fz W.D, .fz (rowD r), .ow (.list (q.1.map Deed.D)), .ow (.list (q.2.map Deed.D)), x, y]
theorem fo_inner {Φ : Nat → List D → Out D} (hW : W.Ok) (hp : ∀ f d : Deed, f.free = true → f.Ok W → d.Ok W → d.free = false → Φ 95 [W.D, f.D, d.D] = ok (mpast W f d).D) (r : List Deed) (q : List Deed × List Deed) : ∀ (fr : List Deed) (d : Deed) (y : Sl), FreeOk W fr → d.Ok W → d.free = false →
    ∃ y', forM (forF Φ wf (.one 5) foInner) (fr.map Deed.D) (foS W r q (.fz d.D) y) = ok (.nx (foS W r q (.fz (fr.foldl (fun d f => mpast W f d) d).D) y'))
  | [], d, y, _, _, _ => ⟨y, rfl⟩
  | f :: fr, d, y, hf, hd, hb => by
    obtain ⟨h1, h2⟩ := hf f (List.mem_cons_self ..)
    obtain ⟨g1, g2⟩ := mpast_ok hW h2 hd hb
    obtain ⟨y', e⟩ := fo_inner hW hp r q fr (mpast W f d) (.fz f.D) (fun e he => hf e (List.mem_cons_of_mem _ he)) g1 g2
    refine ⟨y', ?_⟩
    have e1 : forF Φ wf (.one 5) foInner f.D (foS W r q (.fz d.D) y) = ok (.nx (foS W r q (.fz (mpast W f d).D) (.fz f.D))) := by
      simp [forF, foInner, foS, hp f d h2 h1 hd hb]
    rw [List.map_cons, forM_cons, e1, seqK_nx, e]
    rfl
theorem rev_deeds (r : List Deed) : revD (.list (r.map Deed.D)) = ok (.list (r.reverse.map Deed.D)) := by
  show ok (PyData.list (r.map Deed.D).reverse) = _
  rw [List.map_reverse]
theorem fo_turn {Φ : Nat → List D → Out D} (hW : W.Ok) (hp : ∀ f d : Deed, f.free = true → f.Ok W → d.Ok W → d.free = false → Φ 95 [W.D, f.D, d.D] = ok (mpast W f d).D) (r : List Deed) {q : List Deed × List Deed} {k : Nat} (h : PtOk W q k) (hk : k ≤ 100) {d : Deed} (hd : d.Ok W) (x y : Sl) :
    ∃ x' y', forF Φ wf (.one 4) foBody d.D (foS W r q x y) = ok (.nx (foS W r (mpstep W q d) x' y')) := by
  have hl := h.len
  have f1 : fits q.1.length = true := fits_of (by omega)
  have f2 : fits q.2.length = true := fits_of (by omega)
  by_cases f : d.free = true
  · refine ⟨.fz d.D, y, ?_⟩
    simp [forF, foBody, foS, word0, free_in, f, mpstep, f1]
  · have f : d.free = false := by simpa using f
    obtain ⟨y', e⟩ := fo_inner hW hp (wf := wf) r q q.1.reverse d y h.fr.rev hd f
    refine ⟨.fz (mledAll W q.1 d).D, y', ?_⟩
    have er := rev_deeds q.1
    simp only [foS] at e
    simp [forF, foBody, foS, word0, free_in, f, mpstep, er]
    rw [List.map_reverse] at e
    rw [e]
    simp [f2, mledAll]
theorem fo_loop {Φ : Nat → List D → Out D} (hW : W.Ok) (hp : ∀ f d : Deed, f.free = true → f.Ok W → d.Ok W → d.free = false → Φ 95 [W.D, f.D, d.D] = ok (mpast W f d).D) {r : List Deed} (hr : RowOk W r) (hl : r.length ≤ 100) :
    ∃ x y, forM (forF Φ wf (.one 4) foBody) (r.map Deed.D) (foS W r ([], []) .no .no) = ok (.nx (foS W r (mparts W r) x y)) := by
  obtain ⟨S', e, x, y, eS, _⟩ := forM_invI (f := forF Φ wf (.one 4) foBody) (i := Deed.D) (as := r) (S := foS W r ([], []) .no .no) (fun pre S => ∃ x y, S = foS W r (pre.foldl (mpstep W) ([], [])) x y ∧ PtOk W (pre.foldl (mpstep W) ([], [])) pre.length)
    ⟨.no, .no, rfl, fun d hd => (by cases hd), fun d hd => (by cases hd), rfl⟩ (by
      rintro pre d post S er ⟨x, y, rfl, g⟩
      have hd : d.Ok W := hr d (by rw [er]; simp)
      have hk : pre.length ≤ 100 := by
        rw [er] at hl
        simp at hl
        omega
      obtain ⟨x', y', e⟩ := fo_turn hW hp (wf := wf) r g hk hd x y
      refine ⟨_, e, x', y', ?_, ?_⟩
      · rw [List.foldl_append]
        rfl
      · rw [List.foldl_append, List.length_append]
        exact g.step hW hd)
  exact ⟨x, y, by rw [e, eS]; rfl⟩
theorem mu_6 {r : List Deed} (h : r.length ≤ 6) : mu r < 25 := by
  have h1 := inv_le r
  have h2 : r.length * r.length ≤ 6 * 6 := Nat.mul_le_mul h h
  unfold mu
  omega
theorem mfin_len (W : Wd) (s : Fs) : (mfin W s).length ≤ 4 := by
  unfold mfin
  simp only [List.length_append]
  have h1 : (if s.fa = true then [Deed.flip true] else []).length ≤ 1 := by split <;> simp
  have h2 : (if s.fd = true then [Deed.flip false] else []).length ≤ 1 := by split <;> simp
  have h3 : (if s.y % W.h * W.w + s.x % W.w = 0 then [] else [Deed.shift (s.x % W.w).toNat (s.y % W.h).toNat]).length ≤ 1 := by split <;> simp
  have h4 : (if s.t = true then [Deed.turn] else []).length ≤ 1 := by split <;> simp
  omega
theorem v_form_of (hW : W.Ok) {r : List Deed} (hr : RowOk W r) (hl : r.length ≤ 6) : call (tblL L) wf (n + 28) 67 [W.D, rowD r] = ok (rowD (mform W r)) := by
  refine (call_eq (n := n + 27) tc_form_of rfl).trans ?_
  have hpt := parts_ok hW hr
  have hpl := hpt.len
  have h1 := fun (f d : Deed) a b c e => v_past (L := L) (wf := wf) (n := n + 23) hW (f := f) (d := d) a b c e
  have h2 := v_settled (L := L) (wf := wf) (n := n) hW 25 hpt.bd (by omega) (mu_6 (by omega))
  have h3 := v_free_form (L := L) (wf := wf) (n := n + 25) hW (r := (mparts W r).1) fun d hd => (hpt.fr d hd).2
  obtain ⟨Φ, hΦ⟩ : ∃ Φ, Φ = call (tblL L) wf (n + 27) := ⟨_, rfl⟩
  rw [← hΦ] at h1 h2 h3 ⊢
  clear hΦ
  obtain ⟨x, y, e⟩ := fo_loop hW h1 (wf := wf) hr (by omega)
  have eb : c_form_of.body = .cons (.setl 2 .nil) (.cons (.setl 3 .nil) (.cons (.for_ (.one 4) (.seq (.var 1)) foBody) (.cons (.frz 3) (.cons (.frz 2) (.cons (.ret (.b1 .tuple (.bin .add (.call 106 (.cons (.var 0) (.cons (.var 3) .nil))) (.call 68 (.cons (.var 0) (.cons (.var 2) .nil)))))) .nil))))) := rfl
  rw [eb]
  have hs := (mset_ok hW 25 hpt.bd).2
  have hf := mfin_len W (mfs (mparts W r).1)
  have ff : fits ((mset W 25 (mparts W r).2).length + (mfree W (mparts W r).1).length) = true := fits_of (by unfold mfree; omega)
  have e0 : evSs Φ wf (.cons (.setl 2 .nil) (.cons (.setl 3 .nil) (.cons (.for_ (.one 4) (.seq (.var 1)) foBody) (.cons (.frz 3) (.cons (.frz 2) (.cons (.ret (.b1 .tuple (.bin .add (.call 106 (.cons (.var 0) (.cons (.var 3) .nil))) (.call 68 (.cons (.var 0) (.cons (.var 2) .nil)))))) .nil)))))) (startS 6 [W.D, rowD r]) =
      evSs Φ wf (.cons (.frz 3) (.cons (.frz 2) (.cons (.ret (.b1 .tuple (.bin .add (.call 106 (.cons (.var 0) (.cons (.var 3) .nil))) (.call 68 (.cons (.var 0) (.cons (.var 2) .nil)))))) .nil))) (foS W r (mparts W r) x y) := by
    show seqK ((evi Φ (.seq (.var 1)) (foS W r ([], []) .no .no)).bind fun xs => forM (forF Φ wf (.one 4) foBody) xs (foS W r ([], []) .no .no)) _ = _
    have ei : evi Φ (.seq (.var 1)) (foS W r ([], []) .no .no) = ok (r.map Deed.D) := rfl
    rw [ei, bind_ok, e]
    rfl
  show endK (evSs Φ wf _ (startS 6 _)) = _
  rw [e0]
  have g1 : evSs Φ wf (.cons (.frz 3) (.cons (.frz 2) (.cons (.ret (.b1 .tuple (.bin .add (.call 106 (.cons (.var 0) (.cons (.var 3) .nil))) (.call 68 (.cons (.var 0) (.cons (.var 2) .nil)))))) .nil))) (foS W r (mparts W r) x y) = seqK (evS Φ wf (.ret (.b1 .tuple (.bin .add (.call 106 (.cons (.var 0) (.cons (.var 3) .nil))) (.call 68 (.cons (.var 0) (.cons (.var 2) .nil)))))) [.fz W.D, .fz (rowD r), .fz (.list ((mparts W r).1.map Deed.D)), .fz (.list ((mparts W r).2.map Deed.D)), x, y]) fun S' => evSs Φ wf .nil S' := rfl
  rw [g1]
  simp [h2, h3, ff, mform, rowD]
theorem v_form (hW : W.Ok) {r : List Deed} (hr : RowOk W r) (hl : r.length ≤ 6) : call (tblL L) wf (n + 29) 66 [W.D, rowD r] = ok (rowD (mform W r)) := by
  refine (call_eq (n := n + 28) tc_form rfl).trans ?_
  have h1 := v_look_row (L := L) (wf := wf) (n := n + 23) hW hr hl
  have h2 := v_form_of (L := L) (wf := wf) (n := n) hW hr hl
  obtain ⟨Φ, hΦ⟩ : ∃ Φ, Φ = call (tblL L) wf (n + 28) := ⟨_, rfl⟩
  rw [← hΦ] at h1 h2 ⊢
  clear hΦ
  simp [c_form, h1, h2]
end FL

set_option maxRecDepth 20000
/-! FLv15: a form is a row, and no longer; whether two deeds may change places. -/
namespace FL
open PySem Out
variable {L : Fn} {wf n : Nat} {W : Wd}
def kd : Deed → Nat
  | .turn => 0
  | .flip true => 1
  | .flip false => 2
  | .shift _ _ => 3
  | _ => 4
def kc (r : List Deed) (j : Nat) : Nat := r.countP fun d => kd d == j
theorem kc_cons (d : Deed) (r : List Deed) (j : Nat) : kc (d :: r) j = kc r j + if kd d = j then 1 else 0 := by
  unfold kc
  rw [List.countP_cons]
  simp
theorem kc_all : ∀ {r : List Deed}, (∀ d ∈ r, d.free = true) → kc r 0 + kc r 1 + kc r 2 + kc r 3 = r.length
  | [], _ => rfl
  | d :: r, h => by
    have ih := kc_all (r := r) fun e he => h e (List.mem_cons_of_mem _ he)
    have hd := h d (List.mem_cons_self ..)
    simp only [kc_cons, List.length_cons]
    cases d with
    | turn => simp [kd]; omega
    | flip k => cases k <;> simp [kd] <;> omega
    | shift a b => simp [kd]; omega
    | _ => cases hd
/-- what the free deeds need -/
theorem fs_need : ∀ (r : List Deed) (s : Fs), ((r.foldl fstep s).fa = true → s.fa = true ∨ 1 ≤ kc r 1) ∧ ((r.foldl fstep s).fd = true → s.fd = true ∨ 1 ≤ kc r 2) ∧ ((r.foldl fstep s).t = true → s.t = true ∨ 1 ≤ kc r 0) ∧ (kc r 3 = 0 → s.x = 0 → s.y = 0 → (r.foldl fstep s).x = 0 ∧ (r.foldl fstep s).y = 0)
  | [], s => ⟨Or.inl, Or.inl, Or.inl, fun _ h1 h2 => ⟨h1, h2⟩⟩
  | d :: r, s => by
    obtain ⟨h1, h2, h3, h4⟩ := fs_need r (fstep s d)
    simp only [kc_cons, List.foldl_cons]
    cases d with
    | turn =>
      simp only [kd]
      refine ⟨fun h => ?_, fun h => ?_, fun h => Or.inr (by simp), fun a b c => ?_⟩
      · rcases h1 h with z | z
        · exact Or.inl z
        · exact Or.inr (by omega)
      · rcases h2 h with z | z
        · exact Or.inl z
        · exact Or.inr (by omega)
      · exact h4 (by simpa using a) b c
    | flip k =>
      cases k with
      | true =>
        simp only [kd]
        refine ⟨fun h => Or.inr (by simp), fun h => ?_, fun h => ?_, fun a b c => ?_⟩
        · rcases h2 h with z | z
          · exact Or.inl z
          · exact Or.inr (by omega)
        · rcases h3 h with z | z
          · exact Or.inl z
          · exact Or.inr (by omega)
        · exact h4 (by simpa using a) (by simp [fstep, b]) c
      | false =>
        simp only [kd]
        refine ⟨fun h => ?_, fun h => Or.inr (by simp), fun h => ?_, fun a b c => ?_⟩
        · rcases h1 h with z | z
          · exact Or.inl z
          · exact Or.inr (by omega)
        · rcases h3 h with z | z
          · exact Or.inl z
          · exact Or.inr (by omega)
        · exact h4 (by simpa using a) b (by simp [fstep, c])
    | shift a b =>
      simp only [kd]
      refine ⟨fun h => ?_, fun h => ?_, fun h => ?_, fun a b c => ?_⟩
      · rcases h1 h with z | z
        · exact Or.inl z
        · exact Or.inr (by omega)
      · rcases h2 h with z | z
        · exact Or.inl z
        · exact Or.inr (by omega)
      · rcases h3 h with z | z
        · exact Or.inl z
        · exact Or.inr (by omega)
      · simp at a
    | _ =>
      simp only [kd]
      refine ⟨fun h => ?_, fun h => ?_, fun h => ?_, fun a b c => ?_⟩
      · rcases h1 h with z | z
        · exact Or.inl z
        · exact Or.inr (by omega)
      · rcases h2 h with z | z
        · exact Or.inl z
        · exact Or.inr (by omega)
      · rcases h3 h with z | z
        · exact Or.inl z
        · exact Or.inr (by omega)
      · exact h4 (by simpa using a) b c
theorem mfree_len {r : List Deed} (hr : ∀ d ∈ r, d.free = true) : (mfree W r).length ≤ r.length := by
  obtain ⟨h1, h2, h3, h4⟩ := fs_need r f0
  have ha := kc_all hr
  show (mfin W (r.foldl fstep f0)).length ≤ _
  generalize r.foldl fstep f0 = s at *
  unfold mfin
  simp only [List.length_append]
  have g1 : (if s.fa = true then [Deed.flip true] else []).length ≤ kc r 1 := by
    split
    · rename_i z
      rcases h1 z with q | q
      · cases q
      · simpa using q
    · simp
  have g2 : (if s.fd = true then [Deed.flip false] else []).length ≤ kc r 2 := by
    split
    · rename_i z
      rcases h2 z with q | q
      · cases q
      · simpa using q
    · simp
  have g3 : (if s.t = true then [Deed.turn] else []).length ≤ kc r 0 := by
    split
    · rename_i z
      rcases h3 z with q | q
      · cases q
      · simpa using q
    · simp
  have g4 : (if s.y % W.h * W.w + s.x % W.w = 0 then [] else [Deed.shift (s.x % W.w).toNat (s.y % W.h).toNat]).length ≤ kc r 3 := by
    split
    · simp
    · rename_i z
      rcases Nat.eq_zero_or_pos (kc r 3) with q | q
      · obtain ⟨q1, q2⟩ := h4 q rfl rfl
        rw [q1, q2] at z
        simp at z
      · exact q
  omega
theorem mfin_ok (hW : W.Ok) (s : Fs) : FreeOk W (mfin W s) := by
  have w1 : 0 < W.w := hW.in.w1
  have h1 : 0 < W.h := hW.in.h1
  have x1 := Int.emod_nonneg s.x (show (W.w : Int) ≠ 0 by omega)
  have x2 := Int.emod_lt_of_pos s.x (show (0 : Int) < W.w by omega)
  have y1 := Int.emod_nonneg s.y (show (W.h : Int) ≠ 0 by omega)
  have y2 := Int.emod_lt_of_pos s.y (show (0 : Int) < W.h by omega)
  intro d hd
  unfold mfin at hd
  rcases List.mem_append.mp hd with hd | hd
  · rcases List.mem_append.mp hd with hd | hd
    · rcases List.mem_append.mp hd with hd | hd
      · split at hd
        · have : d = .flip true := by simpa using hd
          subst this
          exact ⟨trivial, rfl⟩
        · cases hd
      · split at hd
        · have : d = .flip false := by simpa using hd
          subst this
          exact ⟨trivial, rfl⟩
        · cases hd
    · split at hd
      · cases hd
      · have : d = .shift (s.x % W.w).toNat (s.y % W.h).toNat := by simpa using hd
        subst this
        exact ⟨⟨by omega, by omega⟩, rfl⟩
  · split at hd
    · have : d = .turn := by simpa using hd
      subst this
      exact ⟨trivial, rfl⟩
    · cases hd
theorem mform_ok (hW : W.Ok) {r : List Deed} (hr : RowOk W r) : RowOk W (mform W r) ∧ (mform W r).length ≤ r.length := by
  have hp := parts_ok hW hr
  obtain ⟨h1, h2⟩ := mset_ok hW 25 hp.bd
  have h3 := mfree_len (W := W) (r := (mparts W r).1) fun d hd => (hp.fr d hd).2
  have h4 := mfin_ok hW (mfs (mparts W r).1)
  have hl := hp.len
  refine ⟨fun d hd => ?_, ?_⟩
  · rcases List.mem_append.mp hd with hd | hd
    · exact (h1 d hd).1
    · exact (h4 d hd).1
  · unfold mform
    rw [List.length_append]
    omega
theorem v_may_change (hW : W.Ok) {a b : Deed} (ha : a.Ok W) (hb : b.Ok W) : call (tblL L) wf (n + 6) 89 [W.D, a.D, b.D] = ok (.bool (mparted W [a, b] [b, a]).isNone) := by
  refine (call_eq (n := n + 5) tc_may_change rfl).trans ?_
  have ra : RowOk W [a, b] := fun x hx => by
    rcases List.mem_cons.mp hx with z | z
    · rw [z]; exact ha
    · have z : x = b := by simpa using z
      rw [z]; exact hb
  have rb : RowOk W [b, a] := fun x hx => by
    rcases List.mem_cons.mp hx with z | z
    · rw [z]; exact hb
    · have z : x = a := by simpa using z
      rw [z]; exact ha
  have h1 := v_look (L := L) (wf := wf) (n := n + 2) hW
  have h2 := v_look_deed (L := L) (wf := wf) (n := n) hW ha
  have h3 := v_look_deed (L := L) (wf := wf) (n := n) hW hb
  have h4 := v_first_parted (L := L) (wf := wf) (n := n) hW ra rb
  obtain ⟨Φ, hΦ⟩ : ∃ Φ, Φ = call (tblL L) wf (n + 5) := ⟨_, rfl⟩
  rw [← hΦ] at h1 h2 h3 h4 ⊢
  clear hΦ
  have e1 : rowD [a, b] = .tuple [a.D, b.D] := rfl
  have e2 : rowD [b, a] = .tuple [b.D, a.D] := rfl
  rw [e1, e2] at h4
  simp [c_may_change, h1, h2, h3, h4, isN_opt]
theorem eq_bool (a b : Bool) : cop .eq (.bool a) (.bool b) = ok (.bool (a == b)) := by cases a <;> cases b <;> kernel_rfl
theorem ne_bool (a b : Bool) : cop .ne (.bool a) (.bool b) = ok (.bool (a != b)) := by cases a <;> cases b <;> kernel_rfl
theorem v_law_as (a b : Bool) : call (tblL L) wf (n + 1) 3 [.bool a, .bool b] = ok (.bool (a == b)) := by
  refine (call_eq (n := n) tc_law_as rfl).trans ?_
  obtain ⟨Φ, hΦ⟩ : ∃ Φ, Φ = call (tblL L) wf n := ⟨_, rfl⟩
  rw [← hΦ]
  clear hΦ
  have e : b1 .isBool (.bool a) = ok (.bool true) := rfl
  simp [c_law_as, e, eq_bool]
end FL

set_option maxRecDepth 20000
/-! FLv16: a row and its form make the same. -/
namespace FL
open PySem Out
variable {L : Fn} {wf n : Nat} {W : Wd}
theorem mall_app (W : Wd) (p : Pic) (r s : List Deed) : mall W p (r ++ s) = mall W (mall W p r) s := by
  unfold mall
  rw [List.foldl_append]
theorem mall_len {p : Pic} (hp : p.length = W.n) : ∀ r : List Deed, (mall W p r).length = W.n := by
  intro r
  induction r generalizing p with
  | nil => exact hp
  | cons d r ih => exact ih (mdone_len _ _ _)
/-! ### sums of windows -/
theorem sum_fin : (worlds.all fun W => (List.range W.n).all fun c => (List.range W.w).all fun a => (List.range W.h).all fun b => (List.range W.w).all fun x => (List.range W.h).all fun y =>
    decide (wat W (wat W (c % W.w + x) (c / W.w + y) % W.w + a) (wat W (c % W.w + x) (c / W.w + y) / W.w + b) = wat W (c % W.w + (a + x) % W.w) (c / W.w + (b + y) % W.h))) = true := by decide +kernel
theorem sum_wat (hW : W.Ok) {c : Nat} (hc : c < W.n) {s u : Nat × Nat} (h1 : s.1 < W.w) (h2 : s.2 < W.h) (h3 : u.1 < W.w) (h4 : u.2 < W.h) :
    wat W (wat W (c % W.w + u.1) (c / W.w + u.2) % W.w + s.1) (wat W (c % W.w + u.1) (c / W.w + u.2) / W.w + s.2) = wat W (c % W.w + (sumS W s u).1) (c / W.w + (sumS W s u).2) := by
  have h := sum_fin
  simp only [List.all_eq_true, List.mem_range, decide_eq_true_eq] at h
  exact h W hW c hc s.1 h1 s.2 h2 u.1 h3 u.2 h4
theorem great_sum (hW : W.Ok) {v u : List (Nat × Nat)} (hv : winOk W v) (hu : winOk W u) (p : Pic) {c : Nat} (hc : c < W.n) : maxL (mseen W (mdone W p (.great v)) u c) = maxL (mseen W p (msums W v u) c) := by
  obtain ⟨h1, h2⟩ := maxI_spec (maxI_some _ (seen_ne (p := p) (msums_ok hW hv hu) c))
  refine maxL_of ?_ fun y hy => ?_
  · obtain ⟨s, hs, e⟩ := List.mem_map.mp h1
    obtain ⟨a, ha, b, hb, rfl⟩ := (in_msums hW).mp hs
    refine List.mem_map.mpr ⟨b, hb, ?_⟩
    rw [pg_done (wat_lt hW _ _)]
    show maxL (mseen W p v (wat W (c % W.w + b.1) (c / W.w + b.2))) = _
    refine maxL_of ?_ fun z hz => ?_
    · refine List.mem_map.mpr ⟨a, ha, ?_⟩
      rw [sum_wat hW hc (hv.2.1 a ha).1 (hv.2.1 a ha).2 (hu.2.1 b hb).1 (hu.2.1 b hb).2]
      exact e
    · obtain ⟨a', ha', rfl⟩ := List.mem_map.mp hz
      rw [sum_wat hW hc (hv.2.1 a' ha').1 (hv.2.1 a' ha').2 (hu.2.1 b hb).1 (hu.2.1 b hb).2]
      exact h2 _ (List.mem_map.mpr ⟨sumS W a' b, (in_msums hW).mpr ⟨a', ha', b, hb, rfl⟩, rfl⟩)
  · obtain ⟨b, hb, rfl⟩ := List.mem_map.mp hy
    rw [pg_done (wat_lt hW _ _)]
    obtain ⟨g1, g2⟩ := maxI_spec (maxI_some _ (seen_ne (p := p) hv (wat W (c % W.w + b.1) (c / W.w + b.2))))
    show maxL (mseen W p v (wat W (c % W.w + b.1) (c / W.w + b.2))) ≤ _
    obtain ⟨a, ha, e⟩ := List.mem_map.mp g1
    rw [← e, sum_wat hW hc (hv.2.1 a ha).1 (hv.2.1 a ha).2 (hu.2.1 b hb).1 (hu.2.1 b hb).2]
    exact h2 _ (List.mem_map.mpr ⟨sumS W a b, (in_msums hW).mpr ⟨a, ha, b, hb, rfl⟩, rfl⟩)
theorem least_sum (hW : W.Ok) {v u : List (Nat × Nat)} (hv : winOk W v) (hu : winOk W u) (p : Pic) {c : Nat} (hc : c < W.n) : minL (mseen W (mdone W p (.least v)) u c) = minL (mseen W p (msums W v u) c) := by
  obtain ⟨h1, h2⟩ := minI_spec (minI_some _ (seen_ne (p := p) (msums_ok hW hv hu) c))
  refine minL_of ?_ fun y hy => ?_
  · obtain ⟨s, hs, e⟩ := List.mem_map.mp h1
    obtain ⟨a, ha, b, hb, rfl⟩ := (in_msums hW).mp hs
    refine List.mem_map.mpr ⟨b, hb, ?_⟩
    rw [pg_done (wat_lt hW _ _)]
    show minL (mseen W p v (wat W (c % W.w + b.1) (c / W.w + b.2))) = _
    refine minL_of ?_ fun z hz => ?_
    · refine List.mem_map.mpr ⟨a, ha, ?_⟩
      rw [sum_wat hW hc (hv.2.1 a ha).1 (hv.2.1 a ha).2 (hu.2.1 b hb).1 (hu.2.1 b hb).2]
      exact e
    · obtain ⟨a', ha', rfl⟩ := List.mem_map.mp hz
      rw [sum_wat hW hc (hv.2.1 a' ha').1 (hv.2.1 a' ha').2 (hu.2.1 b hb).1 (hu.2.1 b hb).2]
      exact h2 _ (List.mem_map.mpr ⟨sumS W a' b, (in_msums hW).mpr ⟨a', ha', b, hb, rfl⟩, rfl⟩)
  · obtain ⟨b, hb, rfl⟩ := List.mem_map.mp hy
    rw [pg_done (wat_lt hW _ _)]
    obtain ⟨g1, g2⟩ := minI_spec (minI_some _ (seen_ne (p := p) hv (wat W (c % W.w + b.1) (c / W.w + b.2))))
    show _ ≤ minL (mseen W p v (wat W (c % W.w + b.1) (c / W.w + b.2)))
    obtain ⟨a, ha, e⟩ := List.mem_map.mp g1
    rw [← e, sum_wat hW hc (hv.2.1 a ha).1 (hv.2.1 a ha).2 (hu.2.1 b hb).1 (hu.2.1 b hb).2]
    exact h2 _ (List.mem_map.mpr ⟨sumS W a b, (in_msums hW).mpr ⟨a, ha, b, hb, rfl⟩, rfl⟩)
theorem in_cap {k : Nat} {c e : List Nat} : k ∈ mcap c e ↔ k ∈ c ∧ k ∈ e := by
  unfold mcap
  rw [List.mem_filter, decide_eq_true_eq]
theorem in_both {k : Nat} (hk : k < W.n) {c e : List Nat} : k ∈ mboth W c e ↔ k ∈ c ∨ k ∈ e := by
  unfold mboth
  rw [List.mem_filter, List.mem_range, decide_eq_true_eq]
  exact ⟨fun h => h.2, fun h => ⟨hk, h⟩⟩
theorem two_ext {p : Pic} {x y z : Deed} (h : ∀ c < W.n, mcell W p x c = mcell W (mdone W p y) z c) : mall W p [x] = mall W p [y, z] := by
  refine done_ext (mdone_len _ _ _) (mdone_len _ _ _) fun c hc => ?_
  show pg (mdone W p x) c = pg (mdone W (mdone W p y) z) c
  rw [pg_done hc, pg_done hc]
  exact h c hc
theorem merged_same (hW : W.Ok) {a b : Deed} (ha : a.Ok W) (hb : b.Ok W) (p : Pic) : mall W p (mmerged W a b) = mall W p [a, b] := by
  cases a with
  | great v =>
    cases b with
    | great u => exact two_ext fun c hc => (great_sum hW ha hb p hc).symm
    | _ => rfl
  | least v =>
    cases b with
    | least u => exact two_ext fun c hc => (least_sum hW ha hb p hc).symm
    | _ => rfl
  | mask c =>
    cases b with
    | mask e =>
      refine two_ext fun k hk => ?_
      show (if k ∈ mcap c e then pg p k else 0) = if k ∈ e then pg (mdone W p (.mask c)) k else 0
      rw [pg_done hk]
      show (if k ∈ mcap c e then pg p k else 0) = if k ∈ e then (if k ∈ c then pg p k else 0) else 0
      by_cases h1 : k ∈ c <;> by_cases h2 : k ∈ e <;> simp [in_cap, h1, h2]
    | _ => rfl
  | lift c =>
    cases b with
    | lift e =>
      refine two_ext fun k hk => ?_
      show (if k ∈ mboth W c e then (W.t : Int) else pg p k) = if k ∈ e then (W.t : Int) else pg (mdone W p (.lift c)) k
      rw [pg_done hk]
      show (if k ∈ mboth W c e then (W.t : Int) else pg p k) = if k ∈ e then (W.t : Int) else if k ∈ c then (W.t : Int) else pg p k
      by_cases h1 : k ∈ c <;> by_cases h2 : k ∈ e <;> simp [in_both hk, h1, h2]
    | mask e =>
      show mdone W (mdone W p (.mask e)) (.lift (mcap c e)) = mdone W (mdone W p (.lift c)) (.mask e)
      refine done_ext (mdone_len _ _ _) (mdone_len _ _ _) fun k hk => ?_
      rw [pg_done hk, pg_done hk]
      show (if k ∈ mcap c e then (W.t : Int) else pg (mdone W p (.mask e)) k) = if k ∈ e then pg (mdone W p (.lift c)) k else 0
      rw [pg_done hk, pg_done hk]
      show (if k ∈ mcap c e then (W.t : Int) else if k ∈ e then pg p k else 0) = if k ∈ e then (if k ∈ c then (W.t : Int) else pg p k) else 0
      by_cases h1 : k ∈ c <;> by_cases h2 : k ∈ e <;> simp [in_cap, h1, h2]
    | _ => rfl
  | _ => rfl
/-! ### idle deeds -/
theorem wat_00 (hW : W.Ok) {c : Nat} (hc : c < W.n) : wat W (c % W.w) (c / W.w) = c := by
  have h : (worlds.all fun W => (List.range W.n).all fun c => decide (wat W (c % W.w) (c / W.w) = c)) = true := by decide +kernel
  simp only [List.all_eq_true, List.mem_range, decide_eq_true_eq] at h
  exact h W hW c hc
theorem full_cells {c : List Nat} (hc : cellsOk W c) (hl : c.length = W.n) : ∀ k < W.n, k ∈ c := by
  intro k hk
  have e := cells_filter hc
  rw [e] at hl
  have h := (List.length_filter_eq_length_iff (p := fun k => decide (k ∈ c)) (l := List.range W.n)).mp (by rw [hl, List.length_range])
  simpa using h k (List.mem_range.mpr hk)
theorem idle_same (hW : W.Ok) {d : Deed} (hd : d.Ok W) (hi : midle W d = true) {p : Pic} (hp : p.length = W.n) : mdone W p d = p := by
  refine done_ext (mdone_len _ _ _) hp fun k hk => ?_
  rw [pg_done hk]
  cases d with
  | great v =>
    have : v = [(0, 0)] := of_decide_eq_true hi
    subst this
    show maxL [pg p (wat W (k % W.w) (k / W.w))] = _
    rw [wat_00 hW hk]
    rfl
  | least v =>
    have : v = [(0, 0)] := of_decide_eq_true hi
    subst this
    show minL [pg p (wat W (k % W.w) (k / W.w))] = _
    rw [wat_00 hW hk]
    rfl
  | mask c =>
    have : c.length = W.n := of_decide_eq_true hi
    show (if k ∈ c then pg p k else 0) = _
    rw [if_pos (full_cells hd this k hk)]
  | lift c =>
    have : c = [] := of_decide_eq_true hi
    subst this
    rfl
  | _ => cases hi
theorem busy_same (hW : W.Ok) : ∀ {r : List Deed} {p : Pic}, RowOk W r → p.length = W.n → mall W p (busy W r) = mall W p r
  | [], p, _, _ => rfl
  | d :: r, p, hr, hp => by
    have hr' : RowOk W r := fun e he => hr e (List.mem_cons_of_mem _ he)
    by_cases h : midle W d = true
    · have e : busy W (d :: r) = busy W r := by simp [busy, h]
      rw [e, busy_same hW hr' hp]
      show mall W p r = mall W (mdone W p d) r
      rw [idle_same hW (hr d (List.mem_cons_self ..)) h hp]
    · have e : busy W (d :: r) = d :: busy W r := by simp [busy, h]
      rw [e]
      show mall W (mdone W p d) (busy W r) = mall W (mdone W p d) r
      exact busy_same hW hr' (mdone_len _ _ _)
theorem BndOk.row {r : List Deed} (h : BndOk W r) : RowOk W r := fun d hd => (h d hd).1
theorem lead_same (hW : W.Ok) {s : List Deed} (hs : BndOk W s) {k : Nat} (hk : k + 1 < s.length) (p : Pic) : mall W p (mlead W s k) = mall W p s := by
  have ha := hs _ (at_mem (show k < s.length by omega))
  have hb := hs _ (at_mem hk)
  have e := split_at hk
  unfold mlead
  conv => rhs; rw [e]
  rw [mall_app, mall_app, mall_app, mall_app, merged_same hW ha.1 hb.1]
theorem mset_same (hW : W.Ok) : ∀ (m : Nat) {r : List Deed} {p : Pic}, BndOk W r → p.length = W.n → mall W p (mset W m r) = mall W p r
  | 0, r, p, _, _ => rfl
  | m + 1, r, p, hr, hp => by
    have hb := busy_ok hr
    have e1 := busy_same hW hr.row hp
    unfold mset
    split
    · exact e1
    · rename_i k e
      obtain ⟨h1, h2⟩ := place_of e
      rw [mset_same hW m (lead_ok hW hb h1) hp, lead_same hW hb h1, e1]
/-! ### led past -/
theorem led_same (hW : W.Ok) : ∀ (fr : List Deed) {d : Deed} (p : Pic), FreeOk W fr → d.Ok W → d.free = false → mall W p (fr.reverse ++ [d]) = mall W p (fr.foldl (fun d f => mpast W f d) d :: fr.reverse)
  | [], d, p, _, _, _ => rfl
  | f :: fr, d, p, hf, hd, hb => by
    obtain ⟨h1, h2⟩ := hf f (List.mem_cons_self ..)
    obtain ⟨g1, g2⟩ := mpast_ok hW h2 hd hb
    have ih := led_same hW fr p (fun e he => hf e (List.mem_cons_of_mem _ he)) g1 g2
    rw [List.reverse_cons, List.foldl_cons, List.append_assoc, mall_app]
    have e1 : mall W (mall W p fr.reverse) ([f] ++ [d]) = mall W (mall W p fr.reverse) ([mpast W f d] ++ [f]) := past_comm hW h2 h1 hd hb _
    rw [e1, ← mall_app, ← List.append_assoc, mall_app, ih, ← mall_app, List.cons_append]
theorem parts_same (hW : W.Ok) : ∀ {r : List Deed} {q : List Deed × List Deed} {k : Nat} (p : Pic), RowOk W r → PtOk W q k → mall W p ((r.foldl (mpstep W) q).2 ++ (r.foldl (mpstep W) q).1) = mall W p (q.2 ++ q.1 ++ r)
  | [], q, k, p, _, _ => by simp
  | d :: r, q, k, p, hr, hq => by
    have hd := hr d (List.mem_cons_self ..)
    have ih := parts_same hW (r := r) p (fun e he => hr e (List.mem_cons_of_mem _ he)) (hq.step hW hd)
    rw [List.foldl_cons, ih]
    unfold mpstep
    split
    · simp
    · rename_i f
      have f : d.free = false := by simpa using f
      have g := led_same hW q.1.reverse (mall W p q.2) hq.fr.rev hd f
      rw [List.reverse_reverse] at g
      have e1 : q.2 ++ q.1 ++ d :: r = q.2 ++ ((q.1 ++ [d]) ++ r) := by simp
      have e2 : q.2 ++ [mledAll W q.1 d] ++ q.1 ++ r = q.2 ++ ((mledAll W q.1 d :: q.1) ++ r) := by simp
      show mall W p (q.2 ++ [mledAll W q.1 d] ++ q.1 ++ r) = _
      rw [e1, e2, mall_app, mall_app _ _ q.2, mall_app, mall_app _ _ (q.1 ++ [d]), g]
      rfl
end FL

set_option maxRecDepth 20000
/-! FLv17: free deeds, cell by cell; a row and its form make the same. -/
namespace FL
open PySem Out
variable {L : Fn} {wf n : Nat} {W : Wd}
/-- the cell that comes to a cell -/
def fidx (W : Wd) : List Deed → Nat → Nat
  | [], c => c
  | d :: r, c => iv W d (fidx W r c)
def tpar : List Deed → Bool
  | [] => false
  | .turn :: r => !tpar r
  | _ :: r => tpar r
def tv (W : Wd) (b : Bool) (x : Int) : Int := if b = true then W.t - x else x
theorem free_cell (hW : W.Ok) : ∀ {r : List Deed} {p : Pic}, FreeOk W r → p.length = W.n → ∀ c < W.n, fidx W r c < W.n ∧ pg (mall W p r) c = tv W (tpar r) (pg p (fidx W r c))
  | [], p, _, _, c, hc => ⟨hc, rfl⟩
  | d :: r, p, hr, hp, c, hc => by
    obtain ⟨h1, h2⟩ := hr d (List.mem_cons_self ..)
    obtain ⟨i1, i2⟩ := free_cell hW (r := r) (p := mdone W p d) (fun e he => hr e (List.mem_cons_of_mem _ he)) (mdone_len _ _ _) c hc
    show iv W d (fidx W r c) < W.n ∧ pg (mall W (mdone W p d) r) c = _
    rw [i2, pg_done i1]
    rcases free_mover d h2 h1 with rfl | hm
    · refine ⟨i1, ?_⟩
      show tv W (tpar r) (W.t - pg p (fidx W r c)) = tv W (!tpar r) (pg p (fidx W r c))
      cases tpar r
      · rfl
      · show (W.t : Int) - (W.t - pg p (fidx W r c)) = pg p (fidx W r c)
        omega
    · refine ⟨(mv_iv_of hW hm i1).1, ?_⟩
      rw [mcell_mover hm]
      cases d <;> first | (cases h2; done) | rfl | (simp [movers] at hm; done)
def frees (W : Wd) : List Deed := .turn :: movers W
theorem fin_step : (worlds.all fun W => (frees W).all fun d => [true, false].all fun fa => [true, false].all fun fd => [true, false].all fun t => (List.range W.w).all fun x => (List.range W.h).all fun y =>
    (tpar (mfin W ⟨fa, fd, x, y, t⟩ ++ [d]) == tpar (mfin W (fstep ⟨fa, fd, x, y, t⟩ d))) && (List.range W.n).all fun c => decide (fidx W (mfin W ⟨fa, fd, x, y, t⟩ ++ [d]) c = fidx W (mfin W (fstep ⟨fa, fd, x, y, t⟩ d)) c)) = true := by decide +kernel
theorem in_frees {d : Deed} (h : d.Ok W) (hf : d.free = true) : d ∈ frees W := by
  rcases free_mover d hf h with rfl | hm
  · exact List.mem_cons_self ..
  · exact List.mem_cons_of_mem _ hm
theorem free_ext (hW : W.Ok) {r s : List Deed} (hr : FreeOk W r) (hs : FreeOk W s) (ht : tpar r = tpar s) (hi : ∀ c < W.n, fidx W r c = fidx W s c) {p : Pic} (hp : p.length = W.n) : mall W p r = mall W p s := by
  refine done_ext (mall_len hp r) (mall_len hp s) fun c hc => ?_
  rw [(free_cell hW hr hp c hc).2, (free_cell hW hs hp c hc).2, ht, hi c hc]
theorem mfin_congr {s u : Fs} (h1 : s.fa = u.fa) (h2 : s.fd = u.fd) (h3 : s.t = u.t) (h4 : s.x % W.w = u.x % W.w) (h5 : s.y % W.h = u.y % W.h) : mfin W s = mfin W u := by
  unfold mfin
  rw [h1, h2, h3, h4, h5]
def red (W : Wd) (s : Fs) : Fs := { s with x := s.x % W.w, y := s.y % W.h }
theorem neg_mod (x w : Int) : -(x % w) % w = -x % w := by
  have e : -(x % w) = -x + w * (x / w) := by
    have := Int.emod_add_mul_ediv x w
    omega
  rw [e, Int.add_mul_emod_self_left]
theorem add_mod' (x a w : Int) : (x % w + a) % w = (x + a) % w := by
  have e : x % w + a = x + a + w * (-(x / w)) := by
    have := Int.emod_add_mul_ediv x w
    rw [Int.mul_neg]
    omega
  rw [e, Int.add_mul_emod_self_left]
theorem red_fin (s : Fs) : mfin W (red W s) = mfin W s := mfin_congr rfl rfl rfl (Int.emod_emod_of_dvd _ (Int.dvd_refl _)) (Int.emod_emod_of_dvd _ (Int.dvd_refl _))
theorem red_step (s : Fs) (d : Deed) : mfin W (fstep (red W s) d) = mfin W (fstep s d) := by
  have m1 : s.x % (W.w : Int) % W.w = s.x % W.w := Int.emod_emod_of_dvd _ (Int.dvd_refl _)
  have m2 : s.y % (W.h : Int) % W.h = s.y % W.h := Int.emod_emod_of_dvd _ (Int.dvd_refl _)
  cases d with
  | turn => exact mfin_congr rfl rfl rfl m1 m2
  | flip k =>
    cases k with
    | true => exact mfin_congr rfl rfl rfl (neg_mod _ _) m2
    | false => exact mfin_congr rfl rfl rfl m1 (neg_mod _ _)
  | shift a b => exact mfin_congr rfl rfl rfl (add_mod' _ _ _) (add_mod' _ _ _)
  | _ => exact mfin_congr rfl rfl rfl m1 m2
theorem fin_same (hW : W.Ok) (s : Fs) {d : Deed} (hd : d.Ok W) (hf : d.free = true) {p : Pic} (hp : p.length = W.n) : mall W p (mfin W (fstep s d)) = mall W p (mfin W s ++ [d]) := by
  rw [← red_step s d, ← red_fin s]
  have w1 : 0 < W.w := hW.in.w1
  have h1 : 0 < W.h := hW.in.h1
  have x1 := Int.emod_nonneg s.x (show (W.w : Int) ≠ 0 by omega)
  have x2 := Int.emod_lt_of_pos s.x (show (0 : Int) < W.w by omega)
  have y1 := Int.emod_nonneg s.y (show (W.h : Int) ≠ 0 by omega)
  have y2 := Int.emod_lt_of_pos s.y (show (0 : Int) < W.h by omega)
  obtain ⟨a, ea⟩ := Int.eq_ofNat_of_zero_le x1
  obtain ⟨b, eb⟩ := Int.eq_ofNat_of_zero_le y1
  have e : red W s = ⟨s.fa, s.fd, a, b, s.t⟩ := by
    unfold red
    rw [ea, eb]
  rw [e]
  have h := fin_step
  simp only [List.all_eq_true, List.mem_range, Bool.and_eq_true, beq_iff_eq, decide_eq_true_eq] at h
  have bb : ∀ b : Bool, b ∈ [true, false] := fun b => by cases b <;> simp
  obtain ⟨g1, g2⟩ := h W hW d (in_frees hd hf) s.fa (bb _) s.fd (bb _) s.t (bb _) a (by omega) b (by omega)
  refine (free_ext hW ?_ (mfin_ok hW _) g1 g2 hp).symm
  intro q hq
  rcases List.mem_append.mp hq with hq | hq
  · exact mfin_ok hW _ q hq
  · have : q = d := by simpa using hq
    rw [this]
    exact ⟨hd, hf⟩
theorem fs_same (hW : W.Ok) : ∀ {r : List Deed} (s : Fs) {p : Pic}, FreeOk W r → p.length = W.n → mall W p (mfin W (r.foldl fstep s)) = mall W p (mfin W s ++ r)
  | [], s, p, _, _ => by simp
  | d :: r, s, p, hr, hp => by
    obtain ⟨h1, h2⟩ := hr d (List.mem_cons_self ..)
    rw [List.foldl_cons, fs_same hW (fstep s d) (fun e he => hr e (List.mem_cons_of_mem _ he)) hp, mall_app, fin_same hW s h1 h2 hp, ← mall_app]
    simp
theorem fin_f0 : mfin W f0 = [] := by simp [mfin, f0]
theorem mfree_same (hW : W.Ok) {r : List Deed} {p : Pic} (hr : FreeOk W r) (hp : p.length = W.n) : mall W p (mfree W r) = mall W p r := by
  have h := fs_same hW f0 hr hp
  rw [fin_f0, List.nil_append] at h
  exact h
/-- a row and its form make the same -/
theorem mform_same (hW : W.Ok) {r : List Deed} {p : Pic} (hr : RowOk W r) (hp : p.length = W.n) : mall W p (mform W r) = mall W p r := by
  have hpt := parts_ok hW hr
  unfold mform
  rw [mall_app, mset_same hW 25 hpt.bd hp, mfree_same hW hpt.fr (mall_len hp _), ← mall_app]
  have h := parts_same hW (r := r) (q := ([], [])) (k := 0) p hr ⟨fun d hd => (by cases hd), fun d hd => (by cases hd), rfl⟩
  simp only [List.nil_append] at h
  exact h
theorem parted_form (hW : W.Ok) {r s : List Deed} (h : ∀ p ∈ mevery W, mall W p r = mall W p s) : mparted W r s = none := mparted_none.mpr h
end FL

set_option maxRecDepth 20000
/-! FLv18: all pictures that come; whether a row settles, can be undone. -/
namespace FL
open PySem Out
variable {L : Fn} {wf n : Nat} {W : Wd}
theorem eqv_pic (p q : Pic) : PyData.eqv (picD p) (picD q) = decide (p = q) := eqv_ints p q
theorem nks_ints : ∀ p : List Int, nks (p.map PyData.int) = some (p.map NestedKey.num)
  | [] => rfl
  | i :: p => by
    show (nk (.int i)).bind (fun k => (nks (p.map PyData.int)).map (k :: ·)) = _
    rw [nks_ints p]
    rfl
theorem depthAll_num : ∀ p : List Int, NestedKey.depthAll (p.map NestedKey.num) = 0
  | [] => by simp [NestedKey.depthAll]
  | i :: p => by
    rw [List.map_cons, NestedKey.depthAll, depthAll_num p]
    simp [NestedKey.depth]
theorem depths_num (p : List Int) : (NestedKey.tup (p.map NestedKey.num)).depth ≤ 8 := by
  rw [NestedKey.depth, depthAll_num]
  decide
theorem tk_pic (p : Pic) : tkD (picD p) = true := by
  show (match (nks (p.map PyData.int)).map NestedKey.tup with
    | some k => decide (k.depth ≤ 8)
    | none => false) = true
  rw [nks_ints]
  exact decide_eq_true (depths_num p)
theorem alike_ints : ∀ p q : List Int, PySem.W.alikeAll (p.map PyData.int) (q.map PyData.int) = true
  | [], _ => by simp [PySem.W.alikeAll]
  | _ :: _, [] => by simp [PySem.W.alikeAll]
  | i :: p, j :: q => by
    show (PySem.W.alike (.int i) (.int j) && PySem.W.alikeAll (p.map PyData.int) (q.map PyData.int)) = true
    rw [alike_ints p q]
    rfl
theorem alike_pic (p q : Pic) : PySem.W.alike (picD p) (picD q) = true := alike_ints p q
theorem shN_pic (p : Pic) : shN 1 (picD p) := shN_tuple fun x hx => by
  obtain ⟨i, _, rfl⟩ := List.mem_map.mp hx
  exact shN_int _ i
def pLe (p q : Pic) : Bool := PySem.W.dataLe false id (picD p) (picD q)
def srtP (l : List Pic) : List Pic := l.mergeSort pLe
theorem srtD_pics {l : List Pic} (hl : ∀ p ∈ l, p ≠ []) : srtD (l.map picD) = ok (.list ((srtP l).map picD)) := by
  show guard (srtOk (l.map picD)) (ok (PyData.list ((l.map picD).mergeSort (PySem.W.dataLe false id)))) = _
  have g : srtOk (l.map picD) = true := by
    unfold srtOk
    simp only [Bool.and_eq_true, Bool.or_eq_true, List.all_eq_true]
    refine ⟨fun d hd e he => ?_, Or.inl fun d hd => ?_, fun d hd => ?_⟩
    · obtain ⟨a, _, rfl⟩ := List.mem_map.mp hd
      obtain ⟨b, _, rfl⟩ := List.mem_map.mp he
      exact alike_pic a b
    · obtain ⟨a, ha, rfl⟩ := List.mem_map.mp hd
      cases a with
      | nil => exact absurd rfl (hl _ ha)
      | cons x a => rfl
    · obtain ⟨a, _, rfl⟩ := List.mem_map.mp hd
      exact shp_of (shN_pic a) (by decide)
  have e : (srtP l).map picD = (l.map picD).mergeSort (PySem.W.dataLe false id) := List.map_mergeSort fun a _ b _ => rfl
  rw [g, guard_true, e]
theorem srtP_perm (l : List Pic) : (srtP l).Perm l := List.mergeSort_perm _ _
/-- what a dict of pictures has -/
structure GotP (l : List (Pic × D)) (P : Pic → Prop) : Prop where
  nd : (l.map (·.1)).Nodup
  mem : ∀ s, s ∈ l.map (·.1) ↔ P s
theorem GotP.put {l : List (Pic × D)} {P : Pic → Prop} (g : GotP l P) (k : Pic) (v : D) : GotP (aput k v l) (fun s => P s ∨ s = k) ∧ (aput k v l).length ≤ l.length + 1 := by
  have e := aput_keys k v l
  have ll : (aput k v l).length = ((aput k v l).map (·.1)).length := by rw [List.length_map]
  by_cases h : k ∈ l.map (·.1)
  · rw [if_pos h] at e
    refine ⟨⟨e ▸ g.nd, fun s => ?_⟩, ?_⟩
    · rw [e, g.mem s]
      exact ⟨Or.inl, fun z => z.elim id fun z => z ▸ (g.mem k).mp h⟩
    · rw [ll, e, List.length_map]
      omega
  · rw [if_neg h] at e
    refine ⟨⟨?_, fun s => ?_⟩, ?_⟩
    · rw [e]
      refine List.nodup_append.mpr ⟨g.nd, by simp, fun a ha b hb => ?_⟩
      have : b = k := by simpa using hb
      subst this
      exact fun z => h (z ▸ ha)
    · rw [e, List.mem_append, g.mem s]
      simp
    · rw [ll, e, List.length_append, List.length_map]
      simp
def mdBody : CSs := (.cons (.put 2 (.call 52 (.cons (.var 0) (.cons (.var 3) (.cons (.var 1) .nil)))) (.con (.bool true))) .nil)
def mdS (W : Wd) (r : List Deed) (l : List (Pic × D)) (x : Sl) : St := [.fz W.D, .fz (rowD r), .ow (.dict (mkD :: encN picD l)), x]
theorem md_turn {Φ : Nat → List D → Out D} {r : List Deed} {l : List (Pic × D)} (hl : l.length ≤ 1000) {p : Pic} (h : Φ 52 [W.D, picD p, rowD r] = ok (picD (mall W p r))) (x : Sl) :
    forF Φ wf (.one 3) mdBody (picD p) (mdS W r l x) = ok (.nx (mdS W r (aput (mall W p r) (.bool true) l) (.fz (picD p)))) := by
  have e := put_dict (encN picD l) (picD (mall W p r)) (.bool true) (tk_pic _) (by rw [enc_len]; exact hl)
  rw [putD_enc eqv_pic] at e
  simp [forF, mdBody, mdS, h]
  rw [e]
  rfl
theorem md_loop {Φ : Nat → List D → Out D} {r : List Deed} {ps : List Pic} (hl : ps.length ≤ 256) (h : ∀ p ∈ ps, Φ 52 [W.D, picD p, rowD r] = ok (picD (mall W p r))) :
    ∃ l x, forM (forF Φ wf (.one 3) mdBody) (ps.map picD) (mdS W r [] .no) = ok (.nx (mdS W r l x)) ∧ GotP l (fun q => ∃ p ∈ ps, mall W p r = q) := by
  obtain ⟨S', e, l, x, eS, g, _⟩ := forM_invI (f := forF Φ wf (.one 3) mdBody) (i := picD) (as := ps) (S := mdS W r [] .no) (fun pre S => ∃ l x, S = mdS W r l x ∧ GotP l (fun q => ∃ p ∈ pre, mall W p r = q) ∧ l.length ≤ pre.length)
    ⟨[], .no, rfl, ⟨List.nodup_nil, fun s => by simp⟩, Nat.le_refl _⟩ (by
      rintro pre p post S er ⟨l, x, rfl, g, hl'⟩
      have hp : p ∈ ps := by rw [er]; simp
      have hpl : pre.length < ps.length := by rw [er]; simp
      obtain ⟨g2, g3⟩ := g.put (mall W p r) (.bool true)
      refine ⟨_, md_turn (by omega) (h p hp) x, _, _, rfl, ⟨g2.nd, fun s => ?_⟩, by rw [List.length_append]; simp; omega⟩
      rw [g2.mem s]
      constructor
      · rintro (⟨c, hc, e⟩ | rfl)
        · exact ⟨c, List.mem_append_left _ hc, e⟩
        · exact ⟨p, by simp, rfl⟩
      · rintro ⟨c, hc, e⟩
        rcases List.mem_append.mp hc with hc | hc
        · exact Or.inl ⟨c, hc, e⟩
        · have : c = p := by simpa using hc
          subst this
          exact Or.inr e.symm)
  exact ⟨l, x, by rw [e, eS], g⟩
theorem pic_ne (hW : W.Ok) {p : Pic} (h : p.length = W.n) : p ≠ [] := fun e => by
  have := hW.in.w1
  have := hW.in.h1
  rw [e] at h
  have : 0 < W.n := Nat.mul_pos ‹_› ‹_›
  simp at h
  omega
theorem v_made (hW : W.Ok) {r : List Deed} (hr : RowOk W r) (hl : r.length ≤ 6) : ∃ ks : List Pic, ks.Nodup ∧ (∀ q, q ∈ ks ↔ ∃ p ∈ mevery W, mall W p r = q) ∧ call (tblL L) wf (n + 6) 88 [W.D, rowD r] = ok (.list ((srtP ks).map picD)) := by
  have h1 := v_look_row (L := L) (wf := wf) (n := n) hW hr hl
  have h2 := v_all_pictures (L := L) (wf := wf) (n := n + 4) hW
  have h3 := fun (p : Pic) (hp : p ∈ mevery W) => v_all_done (L := L) (wf := wf) (n := n + 1) hW (mevery_ok W p hp) hr
  have hc := call_eq (wf := wf) (n := n + 5) (ds := [W.D, rowD r]) (tc_made (L := L)) rfl
  rw [hc]
  clear hc
  obtain ⟨Φ, hΦ⟩ : ∃ Φ, Φ = call (tblL L) wf (n + 5) := ⟨_, rfl⟩
  rw [← hΦ] at h1 h2 h3 ⊢
  clear hΦ
  obtain ⟨l, x, e, g⟩ := md_loop (wf := wf) (W := W) (r := r) (mevery_len hW) h3
  refine ⟨l.map (·.1), g.nd, g.mem, ?_⟩
  have eb : c_made.body = .cons (.exp (.call 87 (.cons (.var 0) (.cons (.var 1) .nil)))) (.cons (.setd 2 .nil .nil) (.cons (.for_ (.one 3) (.seq (.call 53 (.cons (.var 0) .nil))) mdBody) (.cons (.ret (.b1 .sorted (.pk 2))) .nil))) := rfl
  rw [eb]
  have e0 : evSs Φ wf (.cons (.exp (.call 87 (.cons (.var 0) (.cons (.var 1) .nil)))) (.cons (.setd 2 .nil .nil) (.cons (.for_ (.one 3) (.seq (.call 53 (.cons (.var 0) .nil))) mdBody) (.cons (.ret (.b1 .sorted (.pk 2))) .nil)))) (startS 4 [W.D, rowD r]) = seqK (forM (forF Φ wf (.one 3) mdBody) ((mevery W).map picD) (mdS W r [] .no)) fun S' => evSs Φ wf (.cons (.ret (.b1 .sorted (.pk 2))) .nil) S' := by
    have ei : evi Φ (.seq (.call 53 (.cons (.var 0) .nil))) (mdS W r [] .no) = ok ((mevery W).map picD) := by simp [mdS, h2]
    show seqK (((ok [W.D, rowD r] : Out (List D)).bind fun ds => Φ 87 ds).bind fun _ => ok (Fl.nx (startS 4 [W.D, rowD r]))) _ = _
    rw [bind_ok, h1]
    show seqK ((evi Φ (.seq (.call 53 (.cons (.var 0) .nil))) (mdS W r [] .no)).bind fun xs => forM (forF Φ wf (.one 3) mdBody) xs (mdS W r [] .no)) _ = _
    rw [ei, bind_ok]
  show endK (evSs Φ wf _ (startS 4 _)) = _
  rw [e0, e, seqK_nx]
  have es : b1 .sorted (.dict (mkD :: encN picD l)) = ok (.list ((srtP (l.map (·.1))).map picD)) := by
    rw [srt_dict, enc_keys]
    refine srtD_pics fun p hp => ?_
    obtain ⟨q, hq, rfl⟩ := (g.mem p).mp hp
    exact pic_ne hW (mall_len (mevery_ok W q hq).1 r)
  show endK (seqK ((b1 .sorted (.dict (mkD :: encN picD l))).bind fun d => ok (.rt d)) _) = _
  rw [es]
  rfl
/-! ### each picture once -/
theorem mstep_nodup {t k : Nat} {ps : List Pic} (h : ps.Nodup) (hl : ∀ p ∈ ps, p.length = k) : (mstep t ps).Nodup := by
  unfold mstep
  induction ps with
  | nil => exact List.nodup_nil
  | cons p ps ih =>
    rw [List.flatMap_cons]
    obtain ⟨h1, h2⟩ := List.nodup_cons.mp h
    refine List.nodup_append.mpr ⟨?_, ih h2 fun q hq => hl q (List.mem_cons_of_mem _ hq), fun a ha b hb => ?_⟩
    · rw [List.Nodup, List.pairwise_map]
      refine (List.nodup_range (n := t + 1)).imp fun {x y} ne e => ne ?_
      have := List.append_cancel_left e
      have : (x : Int) = y := by simpa using this
      omega
    · obtain ⟨x, _, rfl⟩ := List.mem_map.mp ha
      obtain ⟨q, hq, hb⟩ := List.mem_flatMap.mp hb
      obtain ⟨y, _, rfl⟩ := List.mem_map.mp hb
      intro e
      have := (List.append_inj e (by rw [hl p (List.mem_cons_self ..), hl q (List.mem_cons_of_mem _ hq)])).1
      exact h1 (this ▸ hq)
theorem mpow_nodup (t : Nat) : ∀ k, (mpow t k).Nodup
  | 0 => by simp [mpow]
  | k + 1 => mstep_nodup (mpow_nodup t k) fun p hp => (mpow_ok t k p hp).1
theorem mevery_nodup (W : Wd) : (mevery W).Nodup := mpow_nodup W.t W.n
theorem mpow_all (t : Nat) : ∀ (k : Nat) (p : Pic), p.length = k → (∀ x ∈ p, 0 ≤ x ∧ x ≤ (t : Int)) → p ∈ mpow t k
  | 0, p, h, _ => by
    have : p = [] := List.length_eq_zero_iff.mp h
    subst this
    simp [mpow]
  | k + 1, p, h, hx => by
    have hne : p ≠ [] := fun e => by
      rw [e] at h
      cases h
    have e := List.dropLast_concat_getLast hne
    have ih := mpow_all t k p.dropLast (by rw [List.length_dropLast, h]; rfl) fun x hxx => hx x (List.dropLast_subset _ hxx)
    have hz := hx (p.getLast hne) (List.getLast_mem hne)
    show p ∈ mstep t (mpow t k)
    unfold mstep
    refine List.mem_flatMap.mpr ⟨p.dropLast, ih, List.mem_map.mpr ⟨(p.getLast hne).toNat, List.mem_range.mpr (by omega), ?_⟩⟩
    have : (((p.getLast hne).toNat : Nat) : Int) = p.getLast hne := Int.toNat_of_nonneg hz.1
    rw [this]
    exact e
theorem mevery_all {p : Pic} (h : PicOk W p) : p ∈ mevery W := mpow_all W.t W.n p h.1 h.2
theorem in_every {p : Pic} : p ∈ mevery W ↔ PicOk W p := ⟨mevery_ok W p, mevery_all⟩
/-! ### free rows can be undone -/
theorem mv_lt (hW : W.Ok) {d : Deed} (hm : d ∈ movers W) (k : Nat) : mv W d k < W.n := by
  simp only [movers, List.mem_cons, List.mem_flatMap, List.mem_map] at hm
  rcases hm with rfl | rfl | ⟨a, _, b, _, rfl⟩ <;> exact wat_lt hW _ _
theorem done_inj (hW : W.Ok) {d : Deed} (hd : d.Ok W) (hf : d.free = true) {p q : Pic} (hp : p.length = W.n) (hq : q.length = W.n) (h : mdone W p d = mdone W q d) : p = q := by
  have hc : ∀ c < W.n, mcell W p d c = mcell W q d c := fun c hc => by
    have := congrArg (fun z => pg z c) h
    simp only [pg_done hc] at this
    exact this
  refine done_ext hp hq fun k hk => ?_
  rcases free_mover d hf hd with rfl | hm
  · have := hc k hk
    simp only [mcell] at this
    omega
  · have hk2 := mv_lt hW hm k
    have e := (mv_iv_of hW hm hk2).2.2 k hk rfl
    have := hc _ hk2
    rw [mcell_mover hm, mcell_mover hm, ← e] at this
    exact this
theorem all_inj (hW : W.Ok) : ∀ {r : List Deed} {p q : Pic}, FreeOk W r → p.length = W.n → q.length = W.n → mall W p r = mall W q r → p = q
  | [], p, q, _, _, _, h => h
  | d :: r, p, q, hr, hp, hq, h => by
    obtain ⟨h1, h2⟩ := hr d (List.mem_cons_self ..)
    exact done_inj hW h1 h2 hp hq (all_inj hW (r := r) (fun e he => hr e (List.mem_cons_of_mem _ he)) (mdone_len _ _ _) (mdone_len _ _ _) h)
theorem FreeOk.row {r : List Deed} (h : FreeOk W r) : RowOk W r := fun d hd => (h d hd).1
theorem made_len_free (hW : W.Ok) {r : List Deed} (hr : FreeOk W r) {ks : List Pic} (nd : ks.Nodup) (mem : ∀ q, q ∈ ks ↔ ∃ p ∈ mevery W, mall W p r = q) : ks.length = (mevery W).length := by
  have nd2 : ((mevery W).map fun p => mall W p r).Nodup := by
    rw [List.Nodup, List.pairwise_map]
    refine List.Pairwise.imp_of_mem (fun {a b} ha hb ne e => ne ?_) (mevery_nodup W)
    exact all_inj hW hr (mevery_ok W a ha).1 (mevery_ok W b hb).1 e
  have pm : ks.Perm ((mevery W).map fun p => mall W p r) := (List.perm_ext_iff_of_nodup nd nd2).mpr fun q => by
    rw [mem q, List.mem_map]
  rw [pm.length_eq, List.length_map]
theorem len_list (xs : List D) : b1 .len (.list xs) = ok (.int (xs.length : Nat)) := rfl
theorem eq_nat (a b : Nat) : cop .eq (.int (a : Nat)) (.int (b : Nat)) = ok (.bool (decide (a = b))) := by
  refine cop_eq_of ?_
  rw [eqv_int, shp_of (shN_int 0 _) (by decide), shp_of (shN_int 0 _) (by decide)]
  simp
  omega
theorem v_is_undone (hW : W.Ok) {r : List Deed} (hr : RowOk W r) (hl : r.length ≤ 6) : ∃ ks : List Pic, ks.Nodup ∧ (∀ q, q ∈ ks ↔ ∃ p ∈ mevery W, mall W p r = q) ∧ call (tblL L) wf (n + 7) 76 [W.D, rowD r] = ok (.bool (decide (ks.length = (mevery W).length))) := by
  obtain ⟨ks, nd, mem, h1⟩ := v_made (L := L) (wf := wf) (n := n) hW hr hl
  refine ⟨ks, nd, mem, ?_⟩
  refine (call_eq (n := n + 6) tc_is_undone rfl).trans ?_
  have h2 := v_look_row (L := L) (wf := wf) (n := n + 1) hW hr hl
  have h3 := v_all_pictures (L := L) (wf := wf) (n := n + 5) hW
  obtain ⟨Φ, hΦ⟩ : ∃ Φ, Φ = call (tblL L) wf (n + 6) := ⟨_, rfl⟩
  rw [← hΦ] at h1 h2 h3 ⊢
  clear hΦ
  have e := eq_nat ks.length (mevery W).length
  simp [c_is_undone, h1, h2, h3, (srtP_perm ks).length_eq, e]
/-! ### is_settling -/
def msettles (W : Wd) (r : List Deed) : Bool := ((mevery W).find? fun p => decide (mall W (mall W p r) r ≠ mall W p r)).isNone
def isBody : CSs := (.cons (.set 3 (.call 52 (.cons (.var 0) (.cons (.var 2) (.cons (.var 1) .nil)))))
 (.cons (.iff (.cmp .ne (.call 52 (.cons (.var 0) (.cons (.var 3) (.cons (.var 1) .nil)))) (.var 3))
 (.cons (.ret (.con (.bool false))) .nil) .nil) .nil))
theorem ne_pic (p q : Pic) : cop .ne (picD p) (picD q) = ok (.bool (decide (p ≠ q))) := by
  refine cop_ne_of ?_
  rw [shp_of (shN_pic p) (by decide), shp_of (shN_pic q) (by decide), eqv_pic]
  by_cases h : p = q <;> simp [h]
theorem v_is_settling (hW : W.Ok) {r : List Deed} (hr : RowOk W r) (hl : r.length ≤ 6) : call (tblL L) wf (n + 6) 74 [W.D, rowD r] = ok (.bool (msettles W r)) := by
  refine (call_eq (n := n + 5) tc_is_settling rfl).trans ?_
  have h1 := v_look_row (L := L) (wf := wf) (n := n) hW hr hl
  have h2 := v_all_pictures (L := L) (wf := wf) (n := n + 4) hW
  have h3 := fun (p : Pic) (hp : PicOk W p) => v_all_done (L := L) (wf := wf) (n := n + 1) hW hp hr
  obtain ⟨Φ, hΦ⟩ : ∃ Φ, Φ = call (tblL L) wf (n + 5) := ⟨_, rfl⟩
  rw [← hΦ] at h1 h2 h3 ⊢
  clear hΦ
  obtain ⟨S', ⟨x, y, rfl⟩, e⟩ := forM_find (f := forF Φ wf (.one 2) isBody) (i := picD) (p := fun p => decide (mall W (mall W p r) r ≠ mall W p r)) (g := fun _ => PyData.bool false) (fun S => ∃ x y, S = [.fz W.D, .fz (rowD r), x, y]) (as := mevery W) (S := [.fz W.D, .fz (rowD r), .no, .no]) ⟨_, _, rfl⟩ (by
    rintro p hp S ⟨x, y, rfl⟩
    have hp := mevery_ok W p hp
    have g1 := h3 p hp
    have g2 := h3 _ (mall_ok hW hp hr)
    have g3 := ne_pic (mall W (mall W p r) r) (mall W p r)
    refine ⟨_, ⟨.fz (picD p), .fz (picD (mall W p r)), rfl⟩, ?_⟩
    by_cases h : mall W (mall W p r) r = mall W p r
    · simp [h] at g3
      simp [forF, isBody, g1, g2, h, g3]
    · have g3 : cop .ne (picD (mall W (mall W p r) r)) (picD (mall W p r)) = ok (.bool true) := by rw [g3]; simp [h]
      simp [forF, isBody, g1, g2, h, g3])
  have eb : c_is_settling.body = .cons (.exp (.call 87 (.cons (.var 0) (.cons (.var 1) .nil)))) (.cons (.for_ (.one 2) (.seq (.call 53 (.cons (.var 0) .nil))) isBody) (.cons (.ret (.con (.bool true))) .nil)) := rfl
  have hz : endK (evSs Φ wf c_is_settling.body (startS c_is_settling.nn [W.D, rowD r])) = endK (seqK (forM (forF Φ wf (.one 2) isBody) ((mevery W).map picD) [.fz W.D, .fz (rowD r), .no, .no]) fun S' => evSs Φ wf (.cons (.ret (.con (.bool true))) .nil) S') := by
    rw [eb]
    have en : c_is_settling.nn = 4 := rfl
    rw [en]
    simp [h1, h2]
  rw [hz, e]
  unfold msettles
  cases (mevery W).find? fun p => decide (mall W (mall W p r) r ≠ mall W p r) <;> simp
theorem settles_free (hW : W.Ok) {r : List Deed} (hr : FreeOk W r) : msettles W r = (mparted W r []).isNone := by
  unfold msettles mparted
  have key : ∀ p ∈ mevery W, decide (mall W (mall W p r) r ≠ mall W p r) = decide (mall W p r ≠ mall W p []) := fun p hp => by
    have hp := mevery_ok W p hp
    refine decide_eq_decide.mpr (not_congr ⟨fun h => ?_, fun h => ?_⟩)
    · exact all_inj hW hr (mall_len hp.1 r) hp.1 h
    · have h : mall W p r = p := h
      rw [h, h]
  have gen : ∀ l : List Pic, (∀ p ∈ l, decide (mall W (mall W p r) r ≠ mall W p r) = decide (mall W p r ≠ mall W p [])) → l.find? (fun p => decide (mall W (mall W p r) r ≠ mall W p r)) = l.find? fun p => decide (mall W p r ≠ mall W p []) := by
    intro l
    induction l with
    | nil => intro _; rfl
    | cons p l ih =>
      intro h
      rw [List.find?_cons, List.find?_cons, h p (List.mem_cons_self ..), ih fun q hq => h q (List.mem_cons_of_mem _ hq)]
  rw [gen _ key]
end FL

set_option maxRecDepth 20000
/-! FLv19: deeds told apart; choices of deeds. -/
namespace FL
open PySem Out
variable {L : Fn} {wf n : Nat} {W : Wd}
def kw : Deed → Nat
  | .turn => 0
  | .flip _ => 1
  | .shift _ _ => 2
  | .great _ => 3
  | .least _ => 4
  | .mask _ => 5
  | .lift _ => 6
def kws : Nat → D
  | 0 => .str "turn"
  | 1 => .str "flip"
  | 2 => .str "shift"
  | 3 => .str "greatest"
  | 4 => .str "least"
  | 5 => .str "mask"
  | _ => .str "lift"
theorem kws_fin : ((List.range 7).all fun i => (List.range 7).all fun j => PyData.eqv (kws i) (kws j) == decide (i = j)) = true := by decide +kernel
theorem kw_lt (d : Deed) : kw d < 7 := by cases d <;> simp [kw]
theorem kw_word (d : Deed) : wordD d = kws (kw d) := by cases d <;> rfl
theorem eqv_word (d e : Deed) : PyData.eqv (wordD d) (wordD e) = decide (kw d = kw e) := by
  have h := kws_fin
  simp only [List.all_eq_true, List.mem_range, beq_iff_eq] at h
  rw [kw_word, kw_word]
  exact h _ (kw_lt d) _ (kw_lt e)
def restD : Deed → List D
  | .turn => []
  | .flip a => [sideD a]
  | .shift a b => [.int a, .int b]
  | .great v => [.tuple (v.map stepD)]
  | .least v => [.tuple (v.map stepD)]
  | .mask c => [natsD c]
  | .lift c => [natsD c]
theorem deed_D (d : Deed) : d.D = .tuple (wordD d :: restD d) := by cases d <;> rfl
theorem eqv_side (a b : Bool) : PyData.eqv (sideD a) (sideD b) = decide (a = b) := by cases a <;> cases b <;> decide +kernel
theorem eqv_nats (c e : List Nat) : PyData.eqv (natsD c) (natsD e) = decide (c = e) := eqvAll_map (i := fun k : Nat => PyData.int k) (fun a b => by
  rw [eqv_int]
  by_cases h : a = b
  · simp [h]
  · have : ¬ (a : Int) = b := by omega
    simp [h, this]) c e
theorem eqv_steps (v u : List (Nat × Nat)) : PyData.eqv (.tuple (v.map stepD)) (.tuple (u.map stepD)) = decide (v = u) := eqvAll_map eqv_step v u
theorem one_of {a b : D} {r : Bool} (h : PyData.eqv a b = r) : PyData.eqvAll [a] [b] = r := by
  show (PyData.eqv a b && true) = r
  rw [h, Bool.and_true]
theorem eqv_deed (d e : Deed) : PyData.eqv d.D e.D = decide (d = e) := by
  rw [deed_D d, deed_D e]
  show (PyData.eqv (wordD d) (wordD e) && PyData.eqvAll (restD d) (restD e)) = _
  rw [eqv_word]
  by_cases hk : kw d = kw e
  · rw [decide_eq_true hk, Bool.true_and]
    cases d <;> cases e <;> first | (cases hk; done) | skip
    · rfl
    · rename_i a b
      show PyData.eqvAll [sideD a] [sideD b] = _
      rw [one_of (eqv_side a b)]
      simp
    · rename_i a b c d
      show (PyData.eqv (.int a) (.int c) && (PyData.eqv (.int b) (.int d) && true)) = _
      rw [eqv_int, eqv_int]
      by_cases h1 : a = c <;> by_cases h2 : b = d <;> simp [h1, h2] <;> omega
    · rename_i v u
      show PyData.eqvAll [.tuple (v.map stepD)] [.tuple (u.map stepD)] = _
      rw [one_of (eqv_steps v u)]
      simp
    · rename_i v u
      show PyData.eqvAll [.tuple (v.map stepD)] [.tuple (u.map stepD)] = _
      rw [one_of (eqv_steps v u)]
      simp
    · rename_i c e
      show PyData.eqvAll [natsD c] [natsD e] = _
      rw [one_of (eqv_nats c e)]
      simp
    · rename_i c e
      show PyData.eqvAll [natsD c] [natsD e] = _
      rw [one_of (eqv_nats c e)]
      simp
  · rw [decide_eq_false hk, Bool.false_and]
    have : d ≠ e := fun z => hk (by rw [z])
    rw [decide_eq_false this]
end FL

/-! FLb1: rows of a choice, the first of each end, and going out level by level. Plain Lean. -/
namespace FL
section
variable {X A : Type} [DecidableEq X]
def nextR (cs : List A) (rows : List (List A)) : List (List A) := rows.flatMap fun r => cs.map fun d => r ++ [d]
def lvl (cs : List A) : Nat → List (List A)
  | 0 => [[]]
  | k + 1 => nextR cs (lvl cs k)
def rowsTo (cs : List A) : Nat → List (List A)
  | 0 => [[]]
  | k + 1 => rowsTo cs k ++ lvl cs (k + 1)
def pget (k : X) : List (X × List A) → Option (List A)
  | [] => none
  | (a, b) :: r => if a = k then some b else pget k r
def pin (acc : List (X × List A)) (k : X) (v : List A) : List (X × List A) := if k ∈ acc.map (·.1) then acc else acc ++ [(k, v)]
def firsts (e : List A → X) (acc : List (X × List A)) (rows : List (List A)) : List (X × List A) := rows.foldl (fun acc r => pin acc (e r) r) acc
theorem lvl_len {cs : List A} : ∀ {k : Nat} {r : List A}, r ∈ lvl cs k → r.length = k
  | 0, r, h => by
    have : r = [] := by simpa [lvl] using h
    rw [this]
    rfl
  | k + 1, r, h => by
    obtain ⟨s, hs, h2⟩ := List.mem_flatMap.mp h
    obtain ⟨d, _, rfl⟩ := List.mem_map.mp h2
    rw [List.length_append, lvl_len hs]
    rfl
theorem lvl_mem {cs : List A} : ∀ {k : Nat} {r : List A}, r ∈ lvl cs k ↔ r.length = k ∧ ∀ d ∈ r, d ∈ cs
  | 0, r => by
    simp [lvl]
    rintro rfl
    simp
  | k + 1, r => by
    unfold lvl nextR
    simp only [List.mem_flatMap, List.mem_map, lvl_mem (k := k)]
    constructor
    · rintro ⟨s, ⟨h1, h2⟩, d, hd, rfl⟩
      refine ⟨by simp [h1], fun x hx => ?_⟩
      rcases List.mem_append.mp hx with h | h
      · exact h2 x h
      · rw [List.mem_singleton.mp h]
        exact hd
    · rintro ⟨h1, h2⟩
      have hne : r ≠ [] := fun z => by simp [z] at h1
      refine ⟨r.dropLast, ⟨by simp [h1], fun d hd => h2 d (List.dropLast_subset r hd)⟩, r.getLast hne, h2 _ (List.getLast_mem hne), List.dropLast_concat_getLast hne⟩
theorem rowsTo_mem {cs : List A} : ∀ {k : Nat} {r : List A}, r ∈ rowsTo cs k ↔ r.length ≤ k ∧ ∀ d ∈ r, d ∈ cs
  | 0, r => by
    simp [rowsTo]
    rintro rfl
    simp
  | k + 1, r => by
    unfold rowsTo
    rw [List.mem_append, rowsTo_mem (k := k), lvl_mem]
    constructor
    · rintro (⟨h1, h2⟩ | ⟨h1, h2⟩)
      · exact ⟨by omega, h2⟩
      · exact ⟨by omega, h2⟩
    · rintro ⟨h1, h2⟩
      by_cases h : r.length ≤ k
      · exact .inl ⟨h, h2⟩
      · exact .inr ⟨by omega, h2⟩
theorem rowsTo_filter (cs : List A) : ∀ (k j : Nat), j ≤ k → (rowsTo cs k).filter (fun r => decide (r.length ≤ j)) = rowsTo cs j
  | 0, j, h => by
    have : j = 0 := by omega
    subst this
    rfl
  | k + 1, j, h => by
    by_cases e : j = k + 1
    · subst e
      rw [List.filter_eq_self]
      intro r hr
      exact decide_eq_true (rowsTo_mem.mp hr).1
    · unfold rowsTo
      rw [List.filter_append, rowsTo_filter cs k j (by omega)]
      have : (lvl cs (k + 1)).filter (fun r => decide (r.length ≤ j)) = [] := by
        rw [List.filter_eq_nil_iff]
        intro r hr
        have := lvl_len hr
        simp
        omega
      rw [this, List.append_nil]
      cases j with
      | zero => rfl
      | succ j => rfl
/-! ### pin and firsts -/
theorem pin_keys (acc : List (X × List A)) (k : X) (v : List A) : ∀ x, x ∈ (pin acc k v).map (·.1) ↔ x ∈ acc.map (·.1) ∨ x = k := by
  intro x
  unfold pin
  by_cases h : k ∈ acc.map (·.1)
  · rw [if_pos h]
    constructor
    · exact .inl
    · rintro (h2 | rfl)
      · exact h2
      · exact h
  · rw [if_neg h, List.map_append, List.mem_append]
    simp
theorem pin_nodup {acc : List (X × List A)} (h : (acc.map (·.1)).Nodup) (k : X) (v : List A) : ((pin acc k v).map (·.1)).Nodup := by
  unfold pin
  by_cases g : k ∈ acc.map (·.1)
  · rw [if_pos g]
    exact h
  · rw [if_neg g, List.map_append]
    refine List.nodup_append.mpr ⟨h, by simp, ?_⟩
    intro a ha b hb e
    have : b = k := by simpa using hb
    subst this
    subst e
    exact g ha
theorem pin_old {acc : List (X × List A)} {k : X} (v : List A) (h : k ∈ acc.map (·.1)) : pin acc k v = acc := if_pos h
theorem firsts_app (e : List A → X) (acc : List (X × List A)) (r s : List (List A)) : firsts e acc (r ++ s) = firsts e (firsts e acc r) s := List.foldl_append
theorem firsts_keys (e : List A → X) : ∀ (rows : List (List A)) (acc : List (X × List A)) (x : X), x ∈ (firsts e acc rows).map (·.1) ↔ x ∈ acc.map (·.1) ∨ ∃ r ∈ rows, e r = x
  | [], acc, x => by simp [firsts]
  | r :: rows, acc, x => by
    show x ∈ (firsts e (pin acc (e r) r) rows).map (·.1) ↔ _
    rw [firsts_keys e rows, pin_keys]
    constructor
    · rintro ((h | h) | ⟨r', h1, h2⟩)
      · exact .inl h
      · exact .inr ⟨r, List.mem_cons_self .., h.symm⟩
      · exact .inr ⟨r', List.mem_cons_of_mem _ h1, h2⟩
    · rintro (h | ⟨r', h1, h2⟩)
      · exact .inl (.inl h)
      · rcases List.mem_cons.mp h1 with rfl | h1
        · exact .inl (.inr h2.symm)
        · exact .inr ⟨r', h1, h2⟩
theorem firsts_nodup (e : List A → X) : ∀ (rows : List (List A)) {acc : List (X × List A)}, (acc.map (·.1)).Nodup → ((firsts e acc rows).map (·.1)).Nodup
  | [], acc, h => h
  | r :: rows, acc, h => firsts_nodup e rows (pin_nodup h _ _)
/-- what stands there makes what it stands by -/
theorem firsts_end (e : List A → X) : ∀ (rows : List (List A)) {acc : List (X × List A)}, (∀ q ∈ acc, e q.2 = q.1) → ∀ q ∈ firsts e acc rows, e q.2 = q.1
  | [], acc, h => h
  | r :: rows, acc, h => firsts_end e rows (acc := pin acc (e r) r) (by
    intro q hq
    unfold pin at hq
    split at hq
    · exact h q hq
    · rcases List.mem_append.mp hq with h2 | h2
      · exact h q h2
      · rw [List.mem_singleton.mp h2])
theorem firsts_from (e : List A → X) : ∀ (rows : List (List A)) {acc : List (X × List A)} (q), q ∈ firsts e acc rows → q ∈ acc ∨ q.2 ∈ rows
  | [], acc, q, h => .inl h
  | r :: rows, acc, q, h => by
    have h : q ∈ firsts e (pin acc (e r) r) rows := h
    rcases firsts_from e rows q h with h | h
    · unfold pin at h
      split at h
      · exact .inl h
      · rcases List.mem_append.mp h with h2 | h2
        · exact .inl h2
        · rw [List.mem_singleton.mp h2]
          exact .inr (List.mem_cons_self ..)
    · exact .inr (List.mem_cons_of_mem _ h)
/-- more rows: it goes on -/
theorem firsts_more (e : List A → X) : ∀ (rows : List (List A)) (acc : List (X × List A)), ∃ m, firsts e acc rows = acc ++ m ∧ ∀ q ∈ m, q.2 ∈ rows
  | [], acc => ⟨[], by simp [firsts], by simp⟩
  | r :: rows, acc => by
    obtain ⟨m, e1, h1⟩ := firsts_more e rows (pin acc (e r) r)
    show ∃ m, firsts e (pin acc (e r) r) rows = acc ++ m ∧ _
    rw [e1]
    unfold pin
    split
    · exact ⟨m, rfl, fun q hq => List.mem_cons_of_mem _ (h1 q hq)⟩
    · refine ⟨(e r, r) :: m, by simp, fun q hq => ?_⟩
      rcases List.mem_cons.mp hq with rfl | h
      · exact List.mem_cons_self ..
      · exact List.mem_cons_of_mem _ (h1 q h)
theorem pget_app (k : X) : ∀ (l m : List (X × List A)), pget k (l ++ m) = (pget k l).or (pget k m)
  | [], m => by simp [pget]
  | (a, b) :: r, m => by
    show (if a = k then some b else pget k (r ++ m)) = (if a = k then some b else pget k r).or (pget k m)
    by_cases h : a = k <;> simp [h, pget_app k r m]
theorem pget_mem {k : X} {v : List A} : ∀ {l : List (X × List A)}, pget k l = some v → (k, v) ∈ l
  | (a, b) :: r, h => by
    unfold pget at h
    by_cases e : a = k
    · rw [if_pos e] at h
      cases h
      subst e
      exact List.mem_cons_self ..
    · rw [if_neg e] at h
      exact List.mem_cons_of_mem _ (pget_mem h)
theorem pget_none {k : X} : ∀ {l : List (X × List A)}, pget k l = none ↔ k ∉ l.map (·.1)
  | [] => by simp [pget]
  | (a, b) :: r => by
    unfold pget
    by_cases e : a = k
    · subst e
      simp
    · rw [if_neg e, pget_none, List.map_cons, List.mem_cons]
      have : ¬ k = a := fun z => e z.symm
      simp [this]
theorem pget_of {k : X} {v : List A} : ∀ {l : List (X × List A)}, (l.map (·.1)).Nodup → (k, v) ∈ l → pget k l = some v
  | (a, b) :: r, nd, h => by
    unfold pget
    rw [List.map_cons, List.nodup_cons] at nd
    rcases List.mem_cons.mp h with h | h
    · cases h
      simp
    · have : a ≠ k := fun z => nd.1 (by
        rw [z]
        exact List.mem_map.mpr ⟨_, h, rfl⟩)
      rw [if_neg this]
      exact pget_of nd.2 h
theorem pget_pin (acc : List (X × List A)) (k : X) (v : List A) (x : X) : pget x (pin acc k v) = if (pget x acc).isSome = true then pget x acc else if k = x then some v else none := by
  unfold pin
  split
  · rename_i h
    cases e : pget x acc with
    | some w => simp
    | none =>
      have := pget_none.mp e
      have : k ≠ x := fun z => this (z ▸ h)
      simp [this]
  · rw [pget_app]
    cases e : pget x acc with
    | some w => simp
    | none => simp [pget]
/-- the row that is told is the first of all that end so -/
theorem pget_firsts (e : List A → X) : ∀ (rows : List (List A)) (acc : List (X × List A)) (x : X), pget x (firsts e acc rows) = (pget x acc).or (rows.find? fun r => decide (e r = x))
  | [], acc, x => by simp [firsts]
  | r :: rows, acc, x => by
    show pget x (firsts e (pin acc (e r) r) rows) = _
    rw [pget_firsts e rows, pget_pin, List.find?_cons]
    cases h : pget x acc with
    | some w => simp
    | none =>
      by_cases g : e r = x <;> simp [g]
/-! ### going out by levels -/
/-- one deed at one thing: what is known, and what is to be gone on from -/
def bput (s : X → A → X) (one : X) (q : List (X × List A) × List X) (d : A) : List (X × List A) × List X :=
  if s one d ∈ q.1.map (·.1) then q else (q.1 ++ [(s one d, (pget one q.1).getD [] ++ [d])], q.2 ++ [s one d])
def bone (s : X → A → X) (cs : List A) (q : List (X × List A) × List X) (one : X) : List (X × List A) × List X := cs.foldl (bput s one) q
def bstep (s : X → A → X) (cs : List A) (q : List (X × List A) × List X) : List (X × List A) × List X := q.2.foldl (bone s cs) (q.1, [])
def blev (s : X → A → X) (cs : List A) (x : X) : Nat → List (X × List A) × List X
  | 0 => ([(x, [])], [x])
  | k + 1 => bstep s cs (blev s cs x k)
def fend (s : X → A → X) (x : X) (r : List A) : X := r.foldl s x
theorem fend_snoc (s : X → A → X) (x : X) (r : List A) (d : A) : fend s x (r ++ [d]) = s (fend s x r) d := by simp [fend]
variable {s : X → A → X} {cs : List A} {x : X}
def rows1 (cs : List A) (r : List A) : List (List A) := cs.map fun d => r ++ [d]
/-- one thing with its row: the deeds are put as the rows are -/
theorem bone_firsts {one : X} {r : List A} (he : fend s x r = one) : ∀ (ds : List A) (q : List (X × List A) × List X), pget one q.1 = some r →
    ∃ m, firsts (fend s x) q.1 (rows1 ds r) = q.1 ++ m ∧ ds.foldl (bput s one) q = (q.1 ++ m, q.2 ++ m.map (·.1))
  | [], q, _ => ⟨[], by simp [rows1, firsts], by simp⟩
  | d :: ds, q, hq => by
    have ee : fend s x (r ++ [d]) = s one d := by rw [fend_snoc, he]
    show ∃ m, firsts (fend s x) (pin q.1 (fend s x (r ++ [d])) (r ++ [d])) (rows1 ds r) = q.1 ++ m ∧ ds.foldl (bput s one) (bput s one q d) = (q.1 ++ m, q.2 ++ m.map (·.1))
    rw [ee]
    unfold bput pin
    by_cases h : s one d ∈ q.1.map (·.1)
    · rw [if_pos h, if_pos h]
      exact bone_firsts he ds q hq
    · rw [if_neg h, if_neg h, hq]
      obtain ⟨m, e1, e2⟩ := bone_firsts he ds (q.1 ++ [(s one d, r ++ [d])], q.2 ++ [s one d]) (by rw [pget_app, hq]; rfl)
      refine ⟨(s one d, r ++ [d]) :: m, ?_, ?_⟩
      · rw [e1]
        simp
      · show ds.foldl (bput s one) (q.1 ++ [(s one d, (some r).getD [] ++ [d])], q.2 ++ [s one d]) = _
        rw [Option.getD_some, e2]
        simp
/-- a row whose end has an earlier row brings nothing new -/
theorem rows1_old {acc : List (X × List A)} {r : List A} : ∀ {ds : List A}, (∀ d ∈ ds, s (fend s x r) d ∈ acc.map (·.1)) → firsts (fend s x) acc (rows1 ds r) = acc
  | [], _ => rfl
  | d :: ds, h => by
    show firsts (fend s x) (pin acc (fend s x (r ++ [d])) (r ++ [d])) (rows1 ds r) = acc
    rw [fend_snoc, pin_old _ (h d (List.mem_cons_self ..))]
    exact rows1_old fun d hd => h d (List.mem_cons_of_mem _ hd)

/-- the rows of a level, those whose end is new, and the next level -/
theorem lev_firsts : ∀ (rows : List (List A)) (acc m z : List (X × List A)) (q : List (X × List A) × List X),
    firsts (fend s x) acc rows = acc ++ m → q.1 = acc ++ m ++ z → (∀ k ∈ acc.map (·.1), ∀ d ∈ cs, s k d ∈ q.1.map (·.1)) →
    ∃ m', firsts (fend s x) q.1 (nextR cs rows) = q.1 ++ m' ∧ (m.map (·.1)).foldl (bone s cs) q = (q.1 ++ m', q.2 ++ m'.map (·.1)) ∧ ∀ k ∈ (acc ++ m).map (·.1), ∀ d ∈ cs, s k d ∈ (q.1 ++ m').map (·.1)
  | [], acc, m, z, q, e, hq, hs => by
    have : m = [] := by
      have e : acc = acc ++ m := e
      have := congrArg List.length e
      rw [List.length_append] at this
      exact List.length_eq_zero_iff.mp (by omega)
    subst this
    refine ⟨[], by simp [nextR, firsts], by simp, ?_⟩
    simpa using hs
  | r :: rows, acc, m, z, q, e, hq, hs => by
    have en : nextR cs (r :: rows) = rows1 cs r ++ nextR cs rows := rfl
    rw [en, firsts_app]
    have e' : firsts (fend s x) (pin acc (fend s x r) r) rows = acc ++ m := e
    unfold pin at e'
    by_cases h : fend s x r ∈ acc.map (·.1)
    · rw [if_pos h] at e'
      rw [rows1_old (hs _ h)]
      exact lev_firsts rows acc m z q e' hq hs
    · rw [if_neg h] at e'
      obtain ⟨m2, e2, _⟩ := firsts_more (fend s x) rows (acc ++ [(fend s x r, r)])
      have em : m = (fend s x r, r) :: m2 := by
        rw [e2, List.append_assoc] at e'
        exact (List.append_cancel_left e').symm
      subst em
      have hg : pget (fend s x r) q.1 = some r := by
        rw [hq, List.append_assoc, pget_app, pget_none.mpr h]
        simp [pget]
      obtain ⟨m1, f1, f2⟩ := bone_firsts (s := s) (x := x) (one := fend s x r) (r := r) rfl cs q hg
      rw [f1]
      obtain ⟨m3, g1, g2, g3⟩ := lev_firsts rows (acc ++ [(fend s x r, r)]) m2 (z ++ m1) (q.1 ++ m1, q.2 ++ m1.map (·.1)) (by rw [e2]) (by rw [hq]; simp) (by
        intro k hk d hd
        rw [List.map_append, List.mem_append] at hk
        rcases hk with hk | hk
        · rw [List.map_append]
          exact List.mem_append_left _ (hs k hk d hd)
        · have : k = fend s x r := by simpa using hk
          subst this
          have : s (fend s x r) d ∈ (firsts (fend s x) q.1 (rows1 cs r)).map (·.1) := by
            rw [firsts_keys]
            exact .inr ⟨r ++ [d], List.mem_map.mpr ⟨d, hd, rfl⟩, by rw [fend_snoc]⟩
          rw [f1] at this
          exact this)
      refine ⟨m1 ++ m3, ?_, ?_, ?_⟩
      · rw [g1, List.append_assoc]
      · rw [List.map_cons, List.foldl_cons]
        have : bone s cs q (fend s x r) = (q.1 ++ m1, q.2 ++ m1.map (·.1)) := f2
        rw [this, g2]
        simp [List.append_assoc]
      · rw [← List.append_assoc]
        simpa using g3
/-- all that is known at a level is the first rows of all that are no longer -/
theorem blev_spec (s : X → A → X) (cs : List A) (x : X) : ∀ k : Nat, ∃ old m, blev s cs x k = (old ++ m, m.map (·.1)) ∧ firsts (fend s x) [] (rowsTo cs k) = old ++ m ∧ firsts (fend s x) old (lvl cs k) = old ++ m ∧ ∀ key ∈ old.map (·.1), ∀ d ∈ cs, s key d ∈ (old ++ m).map (·.1)
  | 0 => ⟨[], [(x, [])], rfl, rfl, rfl, by simp⟩
  | k + 1 => by
    obtain ⟨old, m, e1, e2, e3, e4⟩ := blev_spec s cs x k
    obtain ⟨m', f1, f2, f3⟩ := lev_firsts (lvl cs k) old m [] (old ++ m, []) e3 (by simp) e4
    refine ⟨old ++ m, m', ?_, ?_, f1, f3⟩
    · show bstep s cs (blev s cs x k) = _
      rw [e1]
      unfold bstep
      rw [f2]
      simp
    · show firsts (fend s x) [] (rowsTo cs k ++ lvl cs (k + 1)) = _
      rw [firsts_app, e2]
      exact f1
theorem blev_firsts (s : X → A → X) (cs : List A) (x : X) (k : Nat) : (blev s cs x k).1 = firsts (fend s x) [] (rowsTo cs k) := by
  obtain ⟨old, m, e1, e2, _⟩ := blev_spec s cs x k
  rw [e1, e2]
/-- what is known grows by no more than the deeds -/
theorem bone_grow (s : X → A → X) (one : X) : ∀ (ds : List A) (q : List (X × List A) × List X), ∃ m, (ds.foldl (bput s one) q).1 = q.1 ++ m ∧ (ds.foldl (bput s one) q).1.length ≤ q.1.length + ds.length ∧ (ds.foldl (bput s one) q).2.length ≤ q.2.length + ds.length
  | [], q => ⟨[], by simp, by simp, by simp⟩
  | d :: ds, q => by
    obtain ⟨m, e1, e2, e3⟩ := bone_grow s one ds (bput s one q d)
    have hb : ∃ m', (bput s one q d).1 = q.1 ++ m' ∧ (bput s one q d).1.length ≤ q.1.length + 1 ∧ (bput s one q d).2.length ≤ q.2.length + 1 := by
      unfold bput
      split
      · exact ⟨[], by simp, by omega, by omega⟩
      · exact ⟨_, rfl, by simp, by simp⟩
    obtain ⟨m', g1, g2, g3⟩ := hb
    refine ⟨m' ++ m, ?_, ?_, ?_⟩
    · rw [List.foldl_cons, e1, g1, List.append_assoc]
    · rw [List.foldl_cons, List.length_cons]
      omega
    · rw [List.foldl_cons, List.length_cons]
      omega
/-- where none is to be gone on from, nothing new comes -/
theorem blev_stop {k : Nat} (h : (blev s cs x k).2 = []) : ∀ j, blev s cs x (k + j) = blev s cs x k
  | 0 => rfl
  | j + 1 => by
    show bstep s cs (blev s cs x (k + j)) = _
    rw [blev_stop h j]
    unfold bstep
    rw [h]
    show ((blev s cs x k).1, ([] : List X)) = _
    rw [← h]
/-- there are as many known as levels that were gone on from -/
theorem blev_many (s : X → A → X) (cs : List A) (x : X) : ∀ k : Nat, (∀ j < k, (blev s cs x j).2 ≠ []) → k ≤ (blev s cs x k).1.length ∧ ((blev s cs x k).2 ≠ [] → k + 1 ≤ (blev s cs x k).1.length)
  | 0, _ => ⟨Nat.zero_le _, fun _ => by simp [blev]⟩
  | k + 1, h => by
    have ih := blev_many s cs x k fun j hj => h j (by omega)
    have h1 := ih.2 (h k (by omega))
    obtain ⟨old, m, e1, e2, e3, e4⟩ := blev_spec s cs x k
    obtain ⟨m', f1, f2, f3⟩ := lev_firsts (lvl cs k) old m [] (old ++ m, []) e3 (by simp) e4
    have e : blev s cs x (k + 1) = (old ++ m ++ m', m'.map (·.1)) := by
      show bstep s cs (blev s cs x k) = _
      rw [e1]
      unfold bstep
      rw [f2]
      simp
    rw [e1] at h1
    rw [e]
    refine ⟨?_, fun hn => ?_⟩
    · rw [List.length_append]
      exact Nat.le_trans h1 (Nat.le_add_right _ _)
    · have : m' ≠ [] := fun z => hn (by rw [z]; rfl)
      have : 0 < m'.length := List.length_pos_iff.mpr this
      show k + 1 + 1 ≤ (old ++ m ++ m').length
      rw [List.length_append]
      have h1 : k + 1 ≤ (old ++ m).length := h1
      omega
end
end FL

set_option maxRecDepth 20000
/-! FLv20: some picture, pairs, rows of a choice, rows that fit. -/
namespace FL
open PySem Out
variable {L : Fn} {wf n : Nat} {W : Wd}
def chD (c : List Deed) : D := .list (c.map Deed.D)
def prD (q : Pic × Pic) : D := .tuple [picD q.1, picD q.2]
def prsL (P : List (Pic × Pic)) : D := .list (P.map prD)
def rowsD (R : List (List Deed)) : D := .list (R.map rowD)
/-! ### some picture -/
theorem v_law_some_picture (hW : W.Ok) (s : Int) : ∃ p : Pic, PicOk W p ∧ ∀ n, call (tblL L) wf (n + 2) 41 [W.D, .int s] = ok (picD p) := by
  have i := hW.in
  refine ⟨(List.range W.n).map fun c : Nat => sd s c / 97 % ((W.t : Int) + 1), ⟨by simp, fun x hx => ?_⟩, fun n => ?_⟩
  · obtain ⟨c, _, rfl⟩ := List.mem_map.mp hx
    have h1 := Int.emod_nonneg (sd s c / 97) (b := (W.t : Int) + 1) (by omega)
    have h2 := Int.emod_lt_of_pos (sd s c / 97) (b := (W.t : Int) + 1) (by omega)
    omega
  refine (call_eq (n := n + 1) tc_law_some_picture rfl).trans ?_
  have f1 := fun s k => v_law_seed (L := L) (wf := wf) (n := n) s k
  have f2 := fun s => v_law_pick (L := L) (wf := wf) (n := n) s (m := (W.t : Int) + 1) (by omega)
  obtain ⟨Φ, hΦ⟩ : ∃ Φ, Φ = call (tblL L) wf (n + 1) := ⟨_, rfl⟩
  rw [← hΦ] at f1 f2 ⊢
  clear hΦ
  have hm := mul_ok hW
  have hn : (W.w : Int) * W.h = (W.n : Nat) := by simp [Wd.n]
  have hr : rngB ((W.n : Nat) : Int) = true := rngB_of (by have := i.n6; omega)
  have e := lcM_mapI (f := lcF Φ (.one 2) .no (.call 32 (.cons (.call 38 (.cons (.var 1) (.cons (.var 2) .nil))) (.cons (.bin .add (.idx (.var 0) (.con (.int 2))) (.con (.int 1))) .nil))) [.fz W.D, .fz (.int s), .no]) (i := fun k : Nat => PyData.int k) (g := fun c : Nat => PyData.int (sd s c / 97 % ((W.t : Int) + 1))) (as := List.range W.n) (by
    intro c _
    simp [lcF, Wd.D, f1, f2])
  rw [← rangeD_nat] at e
  simp only [Wd.D] at e
  simp [c_law_some_picture, Wd.D, hm, hn, hr]
  rw [e]
  simp [picD, Function.comp_def]
/-! ### pairs -/
def lpBody : CSs := (.cons (.iff (.bool false (.cons (.not (.b1 .isTuple (.var 2))) (.cons (.cmp .ne (.b1 .len (.var 2)) (.con (.int 2))) (.cons (.lc (.seq (.var 2)) (.one 3) (.so (.not (.call 73 (.cons (.var 0) (.cons (.var 3) .nil))))) (.var 3)) .nil))))
 (.cons (.rai 0)
 .nil)
 .nil)
 .nil)
def PrsOk (W : Wd) (P : List (Pic × Pic)) : Prop := ∀ q ∈ P, PicOk W q.1 ∧ PicOk W q.2
theorem v_look_pairs (hW : W.Ok) {P : List (Pic × Pic)} (hP : PrsOk W P) (hl : P.length ≤ 6) : call (tblL L) wf (n + 3) 85 [W.D, prsL P] = ok .none := by
  refine (call_eq (n := n + 2) tc_look_pairs rfl).trans ?_
  have h := fun p hp => v_is_picture (L := L) (wf := wf) (n := n) hW (p := p) hp
  obtain ⟨Φ, hΦ⟩ : ∃ Φ, Φ = call (tblL L) wf (n + 2) := ⟨_, rfl⟩
  rw [← hΦ] at h ⊢
  clear hΦ
  have eb : c_look_pairs.body = .cons (.iff (.bool false (.cons (.not (.b1 .isList (.var 1))) (.cons (.cmp .gt (.b1 .len (.var 1)) (.glo 5 (.int 6))) .nil))) (.cons (.rai 0) .nil) .nil) (.cons (.for_ (.one 2) (.seq (.var 1)) lpBody) .nil) := rfl
  obtain ⟨S', e, _⟩ := forM_invI (f := forF Φ wf (.one 2) lpBody) (i := prD) (as := P) (S := [.fz W.D, .fz (prsL P), .no, .no]) (fun pre S => ∃ x, S = [.fz W.D, .fz (prsL P), x, .no]) ⟨_, rfl⟩ (by
    rintro pre q post S er ⟨x, rfl⟩
    have hq := hP q (by rw [er]; simp)
    refine ⟨_, ?_, ⟨.fz (prD q), rfl⟩⟩
    have e1 : lcM (lcF Φ (.one 3) (.so (.not (.call 73 (.cons (.var 0) (.cons (.var 3) .nil))))) (.var 3) [.fz W.D, .fz (prsL P), .fz (.tuple [picD q.1, picD q.2]), .no]) [picD q.1, picD q.2] = ok [] := lcM_none (by
      intro y hy
      simp at hy
      rcases hy with rfl | rfl
      · simp [lcF, h _ hq.1]
      · simp [lcF, h _ hq.2])
    simp [forF, lpBody, prD, e1])
  have hl' : ¬ (6 : Int) < (P.length : Int) := by omega
  rw [eb]
  simp only [prsL] at e ⊢
  simp [c_look_pairs, hl']
  rw [e]
  simp
/-! ### rows of a choice -/
theorem nextR_len (c : List Deed) (R : List (List Deed)) : (nextR c R).length = R.length * c.length := by
  unfold nextR
  induction R with
  | nil => simp
  | cons r R ih =>
    rw [List.flatMap_cons, List.length_append, ih, List.length_map, List.length_cons, Nat.add_mul]
    omega
theorem lvl_size (c : List Deed) : ∀ k, (lvl c k).length = c.length ^ k
  | 0 => rfl
  | k + 1 => by
    show (nextR c (lvl c k)).length = _
    rw [nextR_len, lvl_size c k]
    rfl
theorem rowsTo_size {c : List Deed} (h : c.length ≤ 5) : ∀ k, k ≤ 4 → (rowsTo c k).length ≤ 1000 * (k + 1)
  | 0, _ => by simp [rowsTo]
  | k + 1, hk => by
    have ih := rowsTo_size h k (by omega)
    have h1 : c.length ^ (k + 1) ≤ 5 ^ (k + 1) := Nat.pow_le_pow_left h _
    have h2 : 5 ^ (k + 1) ≤ 5 ^ 4 := Nat.pow_le_pow_right (by decide) hk
    show (rowsTo c k ++ lvl c (k + 1)).length ≤ _
    rw [List.length_append, lvl_size]
    have : 5 ^ 4 = 625 := by decide
    omega
theorem lvl_small {c : List Deed} (h : c.length ≤ 5) {k : Nat} (hk : k ≤ 4) : (lvl c k).length ≤ 1000 := by
  have h1 : c.length ^ k ≤ 5 ^ k := Nat.pow_le_pow_left h _
  have h2 : 5 ^ k ≤ 5 ^ 4 := Nat.pow_le_pow_right (by decide) hk
  rw [lvl_size]
  have : 5 ^ 4 = 625 := by decide
  omega
theorem nextR_snoc (c : List Deed) (R : List (List Deed)) (r : List Deed) : nextR c (R ++ [r]) = nextR c R ++ rows1 c r := by simp [nextR, rows1]
theorem snoc_D {r : List Deed} (h : r.length ≤ 100) (d : Deed) : bop .add (rowD r) (.tuple [d.D]) = ok (rowD (r ++ [d])) := row_add r [d] (by simp; omega)
theorem lc_rows {Φ : Nat → List D → Out D} {S : St} {r : List Deed} (c : List Deed) (h : r.length ≤ 100) (h6 : ∀ x, getF (S.set 7 x) 6 = ok (rowD r)) (h7 : ∀ d : D, getF (S.set 7 (.fz d)) 7 = ok d) :
    lcM (lcF Φ (.one 7) .no (.bin .add (.var 6) (.tup (.cons (.var 7) .nil))) S) (c.map Deed.D) = ok ((rows1 c r).map rowD) := by
  rw [lcM_mapI (g := fun d => rowD (r ++ [d])) (fun d _ => by
    have hf : fits 1 = true := rfl
    simp [lcF, h6, h7, snoc_D h d, hf])]
  simp [rows1, Function.comp_def]
def rtIn : CSs := (.cons (.ext 5 (.lc (.seq (.var 0)) (.one 7) .no (.bin .add (.var 6) (.tup (.cons (.var 7) .nil))))) .nil)
def rtBody : CSs := (.cons (.setl 5 .nil)
 (.cons (.for_ (.one 6) (.seq (.var 3)) rtIn)
 (.cons (.frz 5)
 (.cons (.set 3 (.var 5))
 (.cons (.ext 2 (.var 3))
 .nil)))))
def rtS (c : List Deed) (k : Nat) (F H : List (List Deed)) (x y z : Sl) : St := [.fz (chD c), .fz (.int k), .ow (rowsD F), .fz (rowsD H), x, y, z, .no]
theorem rt_in {Φ : Nat → List D → Out D} {c : List Deed} (hc : c.length ≤ 5) (k : Nat) (F H : List (List Deed)) (hl : H.length ≤ 1000) (hh : ∀ r ∈ H, r.length ≤ 100) (x z : Sl) :
    ∃ z', forM (forF Φ wf (.one 6) rtIn) (H.map rowD) (rtS c k F H x (.ow (.list [])) z) = ok (.nx (rtS c k F H x (.ow (rowsD (nextR c H))) z')) := by
  obtain ⟨S', e, z', eS⟩ := forM_invI (f := forF Φ wf (.one 6) rtIn) (i := rowD) (as := H) (S := rtS c k F H x (.ow (.list [])) z) (fun pre S => ∃ z', S = rtS c k F H x (.ow (rowsD (nextR c pre))) z') ⟨z, rfl⟩ (by
    rintro pre r post S er ⟨z', rfl⟩
    have hr := hh r (by rw [er]; simp)
    have hp : pre.length ≤ 1000 := by
      have := congrArg List.length er
      simp at this
      omega
    have h1 := lc_rows (Φ := Φ) (S := rtS c k F H x (.ow (rowsD (nextR c pre))) (.fz (rowD r))) (r := r) c hr (fun _ => rfl) (fun _ => rfl)
    have hf : fits ((nextR c pre).length + (rows1 c r).length) = true := fits_of (by
      rw [nextR_len]
      have : pre.length * c.length ≤ 1000 * 5 := Nat.mul_le_mul hp hc
      simp [rows1]
      omega)
    refine ⟨rtS c k F H x (.ow (rowsD (nextR c (pre ++ [r])))) (.fz (rowD r)), ?_, ⟨_, rfl⟩⟩
    rw [nextR_snoc]
    simp only [rtS, rowsD, chD] at h1 ⊢
    simp [forF, rtIn, h1, hf])
  exact ⟨z', by rw [e, eS]⟩
theorem rt_turn {Φ : Nat → List D → Out D} {c : List Deed} (hc : c.length ≤ 5) (k : Nat) {j : Nat} (hj : j + 1 ≤ 4) (x y z : Sl) (i : D) :
    ∃ x' y' z', forF Φ wf (.one 4) rtBody i (rtS c k (rowsTo c j) (lvl c j) x y z) = ok (.nx (rtS c k (rowsTo c (j + 1)) (lvl c (j + 1)) x' y' z')) := by
  have hl := lvl_small hc (k := j) (by omega)
  obtain ⟨z', e⟩ := rt_in (Φ := Φ) (wf := wf) hc k (rowsTo c j) (lvl c j) hl (fun r hr => by rw [lvl_len hr]; omega) (.fz i) z
  refine ⟨.fz i, .fz (rowsD (lvl c (j + 1))), z', ?_⟩
  have h1 := rowsTo_size hc j (by omega)
  have h2 := lvl_small hc hj
  have hf : fits ((rowsTo c j).length + (nextR c (lvl c j)).length) = true := fits_of (by
    have : (nextR c (lvl c j)).length ≤ 1000 := h2
    have : 1000 * (j + 1) ≤ 1000 * 4 := Nat.mul_le_mul (Nat.le_refl _) hj
    omega)
  simp only [rtS, rowsD] at e ⊢
  simp [forF, rtBody]
  rw [e]
  simp [hf, rowsTo, lvl, frzK]
theorem v_rows_to {c : List Deed} (hc : c.length ≤ 5) {k : Nat} (hk : k ≤ 4) : call (tblL L) wf (n + 1) 104 [chD c, .int (k : Nat)] = ok (rowsD (rowsTo c k)) := by
  refine (call_eq (n := n) tc_rows_to rfl).trans ?_
  obtain ⟨Φ, hΦ⟩ : ∃ Φ, Φ = call (tblL L) wf n := ⟨_, rfl⟩
  rw [← hΦ]
  clear hΦ
  have eb : c_rows_to.body = .cons (.setl 2 (.cons (.tup .nil) .nil)) (.cons (.set 3 (.lst (.cons (.tup .nil) .nil))) (.cons (.for_ (.one 4) (.rng (.var 1)) rtBody) (.cons (.frz 2) (.cons (.ret (.var 2)) .nil)))) := rfl
  obtain ⟨S', e, x, y, z, eS⟩ := forM_invI (f := forF Φ wf (.one 4) rtBody) (i := fun k : Nat => PyData.int k) (as := List.range k) (S := rtS c k [[]] [[]] .no .no .no) (fun pre S => ∃ x y z, S = rtS c k (rowsTo c pre.length) (lvl c pre.length) x y z) ⟨_, _, _, rfl⟩ (by
    rintro pre i post S er ⟨x, y, z, rfl⟩
    have hp : pre.length + 1 ≤ 4 := by
      have := congrArg List.length er
      simp at this
      omega
    obtain ⟨x', y', z', e⟩ := rt_turn (Φ := Φ) (wf := wf) hc k hp x y z (.int i)
    refine ⟨_, e, x', y', z', ?_⟩
    rw [List.length_append]
    rfl)
  rw [← rangeD_nat, List.length_range] at *
  rw [eb]
  have hr : rngB ((k : Nat) : Int) = true := rngB_of (by omega)
  have f0 : fits 0 = true := rfl
  have f1 : fits 1 = true := rfl
  have e0 : evSs Φ wf (.cons (.setl 2 (.cons (.tup .nil) .nil)) (.cons (.set 3 (.lst (.cons (.tup .nil) .nil))) (.cons (.for_ (.one 4) (.rng (.var 1)) rtBody) (.cons (.frz 2) (.cons (.ret (.var 2)) .nil))))) (startS c_rows_to.nn [chD c, .int (k : Nat)]) = seqK (forM (forF Φ wf (.one 4) rtBody) (rangeD k) (rtS c k [[]] [[]] .no .no .no)) fun S' => evSs Φ wf (.cons (.frz 2) (.cons (.ret (.var 2)) .nil)) S' := by
    simp [hr, f0, f1, c_rows_to]
    rfl
  rw [e0, e, eS]
  simp [rtS, rowsD, frzK]
def lrIn : CSs := (.cons (.set 5 (.bin .add (.var 5) (.lc (.seq (.var 0)) (.one 7) .no (.bin .add (.var 6) (.tup (.cons (.var 7) .nil)))))) .nil)
def lrBody : CSs := (.cons (.set 5 (.lst .nil))
 (.cons (.for_ (.one 6) (.seq (.var 4)) lrIn)
 (.cons (.set 4 (.var 5))
 (.cons (.set 3 (.bin .add (.var 3) (.var 4)))
 .nil))))
def lrS (c : List Deed) (k : Nat) (F H : List (List Deed)) (x y z : Sl) : St := [.fz (chD c), .fz (.int k), x, .fz (rowsD F), .fz (rowsD H), y, z, .no]
theorem lr_in {Φ : Nat → List D → Out D} {c : List Deed} (hc : c.length ≤ 5) (k : Nat) (F H : List (List Deed)) (hl : H.length ≤ 1000) (hh : ∀ r ∈ H, r.length ≤ 100) (x z : Sl) :
    ∃ z', forM (forF Φ wf (.one 6) lrIn) (H.map rowD) (lrS c k F H x (.fz (.list [])) z) = ok (.nx (lrS c k F H x (.fz (rowsD (nextR c H))) z')) := by
  obtain ⟨S', e, z', eS⟩ := forM_invI (f := forF Φ wf (.one 6) lrIn) (i := rowD) (as := H) (S := lrS c k F H x (.fz (.list [])) z) (fun pre S => ∃ z', S = lrS c k F H x (.fz (rowsD (nextR c pre))) z') ⟨z, rfl⟩ (by
    rintro pre r post S er ⟨z', rfl⟩
    have hr := hh r (by rw [er]; simp)
    have hp : pre.length ≤ 1000 := by
      have := congrArg List.length er
      simp at this
      omega
    have h1 := lc_rows (Φ := Φ) (S := lrS c k F H x (.fz (rowsD (nextR c pre))) (.fz (rowD r))) (r := r) c hr (fun _ => rfl) (fun _ => rfl)
    have hf : fits ((nextR c pre).length + (rows1 c r).length) = true := fits_of (by
      rw [nextR_len]
      have : pre.length * c.length ≤ 1000 * 5 := Nat.mul_le_mul hp hc
      simp [rows1]
      omega)
    refine ⟨lrS c k F H x (.fz (rowsD (nextR c (pre ++ [r])))) (.fz (rowD r)), ?_, ⟨_, rfl⟩⟩
    rw [nextR_snoc]
    simp only [lrS, rowsD, chD] at h1 ⊢
    simp [forF, lrIn, h1, hf])
  exact ⟨z', by rw [e, eS]⟩
theorem lr_turn {Φ : Nat → List D → Out D} {c : List Deed} (hc : c.length ≤ 5) (k : Nat) {j : Nat} (hj : j + 1 ≤ 4) (x y z : Sl) (i : D) :
    ∃ x' y' z', forF Φ wf (.one 2) lrBody i (lrS c k (rowsTo c j) (lvl c j) x y z) = ok (.nx (lrS c k (rowsTo c (j + 1)) (lvl c (j + 1)) x' y' z')) := by
  have hl := lvl_small hc (k := j) (by omega)
  obtain ⟨z', e⟩ := lr_in (Φ := Φ) (wf := wf) hc k (rowsTo c j) (lvl c j) hl (fun r hr => by rw [lvl_len hr]; omega) (.fz i) z
  refine ⟨.fz i, .fz (rowsD (lvl c (j + 1))), z', ?_⟩
  have h1 := rowsTo_size hc j (by omega)
  have h2 := lvl_small hc hj
  have hf : fits ((rowsTo c j).length + (nextR c (lvl c j)).length) = true := fits_of (by
    have : (nextR c (lvl c j)).length ≤ 1000 := h2
    have : 1000 * (j + 1) ≤ 1000 * 4 := Nat.mul_le_mul (Nat.le_refl _) hj
    omega)
  have f0 : fits 0 = true := rfl
  simp only [lrS, rowsD] at e ⊢
  simp [forF, lrBody, f0]
  rw [e]
  simp [hf, rowsTo, lvl]
theorem v_law_rows {c : List Deed} (hc : c.length ≤ 5) {k : Nat} (hk : k ≤ 4) : call (tblL L) wf (n + 1) 37 [chD c, .int (k : Nat)] = ok (rowsD (rowsTo c k)) := by
  refine (call_eq (n := n) tc_law_rows rfl).trans ?_
  obtain ⟨Φ, hΦ⟩ : ∃ Φ, Φ = call (tblL L) wf n := ⟨_, rfl⟩
  rw [← hΦ]
  clear hΦ
  have eb : c_law_rows.body = .cons (.par 3 4 (.lst (.cons (.tup .nil) .nil)) (.lst (.cons (.tup .nil) .nil))) (.cons (.for_ (.one 2) (.rng (.var 1)) lrBody) (.cons (.ret (.var 3)) .nil)) := rfl
  obtain ⟨S', e, x, y, z, eS⟩ := forM_invI (f := forF Φ wf (.one 2) lrBody) (i := fun k : Nat => PyData.int k) (as := List.range k) (S := lrS c k [[]] [[]] .no .no .no) (fun pre S => ∃ x y z, S = lrS c k (rowsTo c pre.length) (lvl c pre.length) x y z) ⟨_, _, _, rfl⟩ (by
    rintro pre i post S er ⟨x, y, z, rfl⟩
    have hp : pre.length + 1 ≤ 4 := by
      have := congrArg List.length er
      simp at this
      omega
    obtain ⟨x', y', z', e⟩ := lr_turn (Φ := Φ) (wf := wf) hc k hp x y z (.int i)
    refine ⟨_, e, x', y', z', ?_⟩
    rw [List.length_append]
    rfl)
  rw [← rangeD_nat, List.length_range] at *
  rw [eb]
  have hr : rngB ((k : Nat) : Int) = true := rngB_of (by omega)
  have f0 : fits 0 = true := rfl
  have f1 : fits 1 = true := rfl
  have e0 : evSs Φ wf (.cons (.par 3 4 (.lst (.cons (.tup .nil) .nil)) (.lst (.cons (.tup .nil) .nil))) (.cons (.for_ (.one 2) (.rng (.var 1)) lrBody) (.cons (.ret (.var 3)) .nil))) (startS c_law_rows.nn [chD c, .int (k : Nat)]) = seqK (forM (forF Φ wf (.one 2) lrBody) (rangeD k) (lrS c k [[]] [[]] .no .no .no)) fun S' => evSs Φ wf (.cons (.ret (.var 3)) .nil) S' := by
    simp [hr, f0, f1, c_law_rows]
    rfl
  rw [e0, e, eS]
  simp [lrS, rowsD]
/-! ### rows that fit -/
def mfits (W : Wd) (P : List (Pic × Pic)) (r : List Deed) : Bool := P.all fun q => decide (mall W q.1 r = q.2)
theorem nefits {W : Wd} {P : List (Pic × Pic)} {r : List Deed} : (P.filter fun q => !decide (mall W q.1 r = q.2)).isEmpty = mfits W P r := by
  unfold mfits
  induction P with
  | nil => rfl
  | cons q P ih =>
    by_cases h : mall W q.1 r = q.2
    · rw [List.filter_cons_of_neg (by simp [h]), ih]
      simp [h]
    · rw [List.filter_cons_of_pos (by simp [h])]
      simp [h]
theorem v_fits (hW : W.Ok) {P : List (Pic × Pic)} (hP : PrsOk W P) {r : List Deed} (hr : RowOk W r) : call (tblL L) wf (n + 5) 64 [W.D, rowD r, prsL P] = ok (.bool (mfits W P r)) := by
  refine (call_eq (n := n + 4) tc_fits rfl).trans ?_
  have h := fun p hp => v_all_done (L := L) (wf := wf) (n := n) hW (p := p) hp (r := r) hr
  obtain ⟨Φ, hΦ⟩ : ∃ Φ, Φ = call (tblL L) wf (n + 4) := ⟨_, rfl⟩
  rw [← hΦ] at h ⊢
  clear hΦ
  have e := lcM_filterI (f := lcF Φ (.two 3 4) (.so (.cmp .ne (.call 52 (.cons (.var 0) (.cons (.var 3) (.cons (.var 1) .nil)))) (.var 4))) (.var 3) [.fz W.D, .fz (rowD r), .fz (prsL P), .no, .no]) (i := prD) (g := fun q => picD q.1) (p := fun q => !decide (mall W q.1 r = q.2)) (as := P) (by
    intro q hq
    have h1 := h q.1 (hP q hq).1
    have h2 : cop .ne (picD (mall W q.1 r)) (picD q.2) = ok (.bool (!decide (mall W q.1 r = q.2))) := cop_neP _ _
    by_cases g : mall W q.1 r = q.2
    · simp only [lcF, prD, bindT_two, List.set_cons_succ, List.set_cons_zero, bind_ok, evt_so, ev_cmp, ev_call, evs_cons, evs_nil, ev_var, getF_succ, getF_zero, h1, h2]
      simp [g]
    · simp only [lcF, prD, bindT_two, List.set_cons_succ, List.set_cons_zero, bind_ok, evt_so, ev_cmp, ev_call, evs_cons, evs_nil, ev_var, getF_succ, getF_zero, h1, h2]
      simp [g])
  have e1 : evSs Φ wf c_fits.body (startS c_fits.nn [W.D, rowD r, prsL P]) = ok (.rt (.bool (mfits W P r))) := by
    simp only [prsL] at e ⊢
    simp [c_fits]
    rw [e, ← nefits]
    cases (P.filter fun q => !decide (mall W q.1 r = q.2)) <;> simp
  rw [e1]
  rfl
end FL

set_option maxRecDepth 20000
/-! FLv21: choices of deeds, rows that fit. -/
namespace FL
open PySem Out
variable {L : Fn} {wf n : Nat} {W : Wd}
/-! ### deeds as keys -/
mutual
theorem nkt_inj : ∀ {d e : D} {k : NestedKey}, nkt d = some k → nkt e = some k → d = e
  | .int i, e, k, h1, h2 => by
    simp only [nkt, Option.some.injEq] at h1
    subst h1
    cases e <;> simp [nkt] at h2
    rw [h2]
  | .str x, e, k, h1, h2 => by
    simp only [nkt, Option.some.injEq] at h1
    subst h1
    cases e <;> simp [nkt] at h2
    rw [h2]
  | .tuple ds, e, k, h1, h2 => by
    simp only [nkt] at h1
    cases q : nkts ds with
    | none =>
      rw [q] at h1
      cases h1
    | some ks =>
      rw [q] at h1
      have h1 : some (NestedKey.tup ks) = some k := h1
      cases h1
      cases e <;> simp [nkt] at h2
      rename_i es
      rw [nkts_inj q h2]
  | .none, e, k, h1, h2 => by simp [nkt] at h1
  | .bool _, e, k, h1, h2 => by simp [nkt] at h1
  | .list _, e, k, h1, h2 => by simp [nkt] at h1
  | .dict _, e, k, h1, h2 => by simp [nkt] at h1
theorem nkts_inj : ∀ {ds es : List D} {ks : List NestedKey}, nkts ds = some ks → nkts es = some ks → ds = es
  | [], es, ks, h1, h2 => by
    simp only [nkts, Option.some.injEq] at h1
    subst h1
    cases es with
    | nil => rfl
    | cons e es =>
      simp only [nkts] at h2
      cases q : nkt e with
      | none =>
        rw [q] at h2
        cases h2
      | some k =>
        rw [q] at h2
        cases q2 : nkts es with
        | none =>
          rw [q2] at h2
          cases h2
        | some ks =>
          rw [q2] at h2
          cases h2
  | d :: ds, es, ks, h1, h2 => by
    simp only [nkts] at h1
    cases q : nkt d with
    | none =>
      rw [q] at h1
      cases h1
    | some k =>
      rw [q] at h1
      cases q2 : nkts ds with
      | none =>
        rw [q2] at h1
        cases h1
      | some ks' =>
        rw [q2] at h1
        have h1 : some (k :: ks') = some ks := h1
        cases h1
        cases es with
        | nil => simp [nkts] at h2
        | cons e es =>
          simp only [nkts] at h2
          cases p : nkt e with
          | none =>
            rw [p] at h2
            cases h2
          | some k2 =>
            rw [p] at h2
            cases p2 : nkts es with
            | none =>
              rw [p2] at h2
              cases h2
            | some ks2 =>
              rw [p2] at h2
              have h2 : some (k2 :: ks2) = some (k :: ks') := h2
              injection h2 with h2
              injection h2 with h3 h4
              subst h3
              subst h4
              rw [nkt_inj q p, nkts_inj q2 p2]
end
theorem D_inj {d e : Deed} (h : d.D = e.D) : d = e := by
  have h1 := eqv_deed d e
  rw [h, eqv_refl _ (shN_deed e).1] at h1
  exact of_decide_eq_true h1.symm
def stepK (s : Nat × Nat) : NestedKey := .tup [.num s.1, .num s.2]
theorem nkts_steps : ∀ v : List (Nat × Nat), nkts (v.map stepD) = some (v.map stepK)
  | [] => rfl
  | s :: v => by
    show (nkt (stepD s)).bind (fun k => (nkts (v.map stepD)).map (k :: ·)) = _
    rw [nkts_steps v]
    rfl
theorem nkts_nats : ∀ c : List Nat, nkts (c.map fun k : Nat => PyData.int k) = some (c.map fun k : Nat => NestedKey.num k)
  | [] => rfl
  | s :: v => by
    show (nkt (.int s)).bind (fun k => (nkts (v.map fun k : Nat => PyData.int k)).map (k :: ·)) = _
    rw [nkts_nats v]
    rfl
theorem depth_steps : ∀ v : List (Nat × Nat), NestedKey.depthAll (v.map stepK) ≤ 1
  | [] => by simp [NestedKey.depthAll]
  | s :: v => by
    rw [List.map_cons, NestedKey.depthAll]
    have := depth_steps v
    have h : (stepK s).depth ≤ 1 := by simp [stepK, NestedKey.depth, NestedKey.depthAll]
    omega
theorem depth_nats : ∀ c : List Nat, NestedKey.depthAll (c.map fun k : Nat => NestedKey.num k) = 0
  | [] => by simp [NestedKey.depthAll]
  | s :: v => by
    rw [List.map_cons, NestedKey.depthAll, depth_nats v]
    simp [NestedKey.depth]
theorem deed_key (d : Deed) : ∃ k, nkt d.D = some k ∧ k.depth ≤ 8 := by
  have hv : ∀ (w : Str) (v : List (Nat × Nat)), ∃ k, nkt (.tuple [.str w, .tuple (v.map stepD)]) = some k ∧ k.depth ≤ 8 := fun w v => by
    refine ⟨.tup [.text w, .tup (v.map stepK)], ?_, ?_⟩
    · simp [nkt, nkts, nkts_steps]
    · have := depth_steps v
      simp [NestedKey.depth, NestedKey.depthAll]
      omega
  have hc : ∀ (w : Str) (c : List Nat), ∃ k, nkt (.tuple [.str w, natsD c]) = some k ∧ k.depth ≤ 8 := fun w c => by
    refine ⟨.tup [.text w, .tup (c.map fun k : Nat => NestedKey.num k)], ?_, ?_⟩
    · simp [nkt, nkts, natsD, nkts_nats]
    · simp [NestedKey.depth, NestedKey.depthAll, depth_nats]
  cases d with
  | turn => exact ⟨.tup [.text "turn"], by simp [Deed.D, nkt, nkts], by simp [NestedKey.depth, NestedKey.depthAll]⟩
  | flip a =>
    cases a
    · exact ⟨.tup [.text "flip", .text "down"], by simp [Deed.D, sideD, nkt, nkts], by simp [NestedKey.depth, NestedKey.depthAll]⟩
    · exact ⟨.tup [.text "flip", .text "across"], by simp [Deed.D, sideD, nkt, nkts], by simp [NestedKey.depth, NestedKey.depthAll]⟩
  | shift a b => exact ⟨.tup [.text "shift", .num a, .num b], by simp [Deed.D, nkt, nkts], by simp [NestedKey.depth, NestedKey.depthAll]⟩
  | great v => exact hv _ v
  | least v => exact hv _ v
  | mask c => exact hc _ c
  | lift c => exact hc _ c
theorem tkts_deeds : ∀ c : List Deed, ∃ ks : List NestedKey, tkts (c.map Deed.D) = some ks ∧ ks.length = c.length ∧ (∀ k ∈ ks, ∃ d ∈ c, nkt d.D = some k) ∧ (c.Nodup → ks.Nodup)
  | [] => ⟨[], rfl, rfl, by simp, by simp⟩
  | d :: c => by
    obtain ⟨ks, e1, e2, e3, e4⟩ := tkts_deeds c
    obtain ⟨k, g1, g2⟩ := deed_key d
    refine ⟨k :: ks, ?_, by simp [e2], ?_, ?_⟩
    · rw [List.map_cons]
      have hd := deed_D d
      rw [hd] at g1 ⊢
      show (match nkt (.tuple (wordD d :: restD d)) with
        | some k => if k.depth ≤ 8 then (tkts (c.map Deed.D)).map (k :: ·) else none
        | none => none) = _
      rw [g1, e1]
      show (if k.depth ≤ 8 then some (k :: ks) else none) = _
      rw [if_pos g2]
    · intro k' hk
      rcases List.mem_cons.mp hk with rfl | hk
      · exact ⟨d, List.mem_cons_self .., g1⟩
      · obtain ⟨e, he, h⟩ := e3 k' hk
        exact ⟨e, List.mem_cons_of_mem _ he, h⟩
    · intro nd
      obtain ⟨n1, n2⟩ := List.nodup_cons.mp nd
      refine List.nodup_cons.mpr ⟨fun hk => ?_, e4 n2⟩
      obtain ⟨e, he, h⟩ := e3 k hk
      exact n1 (by rw [D_inj (nkt_inj g1 h)]; exact he)
theorem dist_of_nodup : ∀ {ks : List NestedKey}, ks.Nodup → dist ks = ks
  | [], _ => rfl
  | k :: r, h => by
    obtain ⟨h1, h2⟩ := List.nodup_cons.mp h
    unfold dist
    rw [dist_of_nodup h2, if_neg h1]
theorem lenset_choice {c : List Deed} (nd : c.Nodup) (hl : c.length < 63) : b1 .lenset (chD c) = ok (.int (c.length : Nat)) := by
  obtain ⟨ks, e1, e2, e3, e4⟩ := tkts_deeds c
  show (match tkts (c.map Deed.D) with
    | some ks => guard (decide (ks.length < 63)) (ok (PyData.int ((dist ks).length : Nat)))
    | none => bad) = _
  rw [e1]
  show guard (decide (ks.length < 63)) (ok (PyData.int ((dist ks).length : Nat))) = _
  rw [dist_of_nodup (e4 nd), e2, decide_eq_true hl]
  rfl
/-! ### choices -/
structure ChOk (W : Wd) (c : List Deed) : Prop where
  ok : ∀ d ∈ c, d.Ok W
  nd : c.Nodup
  one : 1 ≤ c.length
  five : c.length ≤ 5
theorem v_look_choice (hW : W.Ok) {c : List Deed} (hc : ChOk W c) : call (tblL L) wf (n + 5) 83 [W.D, chD c] = ok .none := by
  refine (call_eq (n := n + 4) tc_look_choice rfl).trans ?_
  have h1 := v_look (L := L) (wf := wf) (n := n + 1) hW
  have h2 := fun d hd => v_is_deed (L := L) (wf := wf) (n := n) hW (d := d) hd
  obtain ⟨Φ, hΦ⟩ : ∃ Φ, Φ = call (tblL L) wf (n + 4) := ⟨_, rfl⟩
  rw [← hΦ] at h1 h2 ⊢
  clear hΦ
  have hs := lenset_choice hc.nd (by have := hc.five; omega)
  have e := lcM_none (f := lcF Φ (.one 2) (.so (.not (.call 71 (.cons (.var 0) (.cons (.var 2) .nil))))) (.var 2) [.fz W.D, .fz (chD c), .no]) (xs := c.map Deed.D) (by
    intro x hx
    obtain ⟨d, hd, rfl⟩ := List.mem_map.mp hx
    simp [lcF, h2 d (hc.ok d hd)])
  have l1 : (1 : Int) ≤ (c.length : Int) := by have := hc.one; omega
  have l5 : (c.length : Int) ≤ 5 := by have := hc.five; omega
  simp only [chD] at e hs ⊢
  simp [c_look_choice, h1, l1, l5]
  rw [e]
  simp [hs]
theorem anyEq_deeds (d : Deed) (c : List Deed) : anyEq d.D (c.map Deed.D) = decide (d ∈ c) := by
  unfold anyEq
  induction c with
  | nil => rfl
  | cons e c ih =>
    rw [List.map_cons, List.any_cons, ih, eqv_deed]
    by_cases h : e = d
    · simp [h]
    · have : ¬ d = e := fun z => h z.symm
      simp [h, this]
theorem nin_choice (d : Deed) (c : List Deed) : cop .nin d.D (chD c) = ok (.bool (!decide (d ∈ c))) := by
  show (guard (shp d.D && shp (chD c)) (ok (anyEq d.D (c.map Deed.D)))).map (fun r => PyData.bool (!r)) = _
  rw [shp_of (shN_deed d) (by decide), shp_of (d := chD c) (shN_deeds c) (by decide), anyEq_deeds]
  rfl
theorem inn_choice (d : Deed) (c : List Deed) : cop .inn d.D (chD c) = ok (.bool (decide (d ∈ c))) := by
  show (guard (shp d.D && shp (chD c)) (ok (anyEq d.D (c.map Deed.D)))).map PyData.bool = _
  rw [shp_of (shN_deed d) (by decide), shp_of (d := chD c) (shN_deeds c) (by decide), anyEq_deeds]
  rfl
def adds (c : List Deed) (d : Deed) : List Deed := if d ∈ c then c else c ++ [d]
def lcBody : CSs := (.cons (.set 6 (.call 12 (.cons (.var 0) (.cons (.call 38 (.cons (.bin .add (.call 10 (.cons (.var 1) (.cons (.bin .add (.var 2) (.con (.int 1))) .nil))) (.bin .mul (.con (.int 41)) (.var 5))) (.cons (.var 5) .nil))) .nil))))
 (.cons (.iff (.cmp .nin (.var 6) (.pk 4))
 (.cons (.app 4 (.var 6))
 .nil)
 .nil)
 .nil))
theorem v_law_choice (hW : W.Ok) (ns : List Int) {at_ most : Int} (ha : 0 ≤ at_) (hm0 : 1 ≤ most) (hm6 : most ≤ 5) : ∃ c : List Deed, ChOk W c ∧ (c.length : Int) ≤ most ∧ ∀ n, call (tblL L) wf (n + 4) 11 [W.D, scr ns, .int at_, .int most] = ok (chD c) := by
  have hd : ∀ s : Int, ∃ d : Deed, d.Ok W ∧ ∀ n, call (tblL L) wf (n + 3) 12 [W.D, .int s] = ok d.D := fun s => v_law_deed hW s
  obtain ⟨F, hF⟩ := Classical.axiomOfChoice hd
  let g : Nat → Int := fun k => sd (cel ns (at_ + 1) + 41 * k) k
  let G : List Nat → List Deed := fun l => (l.map fun k => F (g k)).foldl adds []
  let N : Nat := (1 + cel ns at_ % most).toNat
  have hN : ((N : Nat) : Int) = 1 + cel ns at_ % most := by
    have := Int.emod_nonneg (cel ns at_) (b := most) (by omega)
    show (((1 + cel ns at_ % most).toNat : Nat) : Int) = _
    omega
  have hN1 : 1 ≤ N := by
    have := Int.emod_nonneg (cel ns at_) (b := most) (by omega)
    omega
  have hN2 : (N : Int) ≤ most := by
    have := Int.emod_lt_of_pos (cel ns at_) (b := most) (by omega)
    omega
  have hadd : ∀ (l : List Deed) (c : List Deed), c.Nodup → (∀ d ∈ l, d.Ok W) → (∀ d ∈ c, d.Ok W) → (l.foldl adds c).Nodup ∧ (∀ d ∈ l.foldl adds c, d.Ok W) ∧ (l.foldl adds c).length ≤ c.length + l.length ∧ (c.length ≤ (l.foldl adds c).length) ∧ (c = [] → l ≠ [] → 1 ≤ (l.foldl adds c).length) := by
    intro l
    induction l with
    | nil => exact fun c nd _ ok => ⟨nd, ok, Nat.le_refl _, Nat.le_refl _, fun _ h => absurd rfl h⟩
    | cons d l ih =>
      intro c nd okl ok
      have h1 : (adds c d).Nodup := by
        unfold adds
        split
        · exact nd
        · rename_i h
          refine List.nodup_append.mpr ⟨nd, by simp, fun a ha b hb e => ?_⟩
          have : b = d := by simpa using hb
          subst this
          subst e
          exact h ha
      have h2 : ∀ e ∈ adds c d, e.Ok W := by
        unfold adds
        split
        · exact ok
        · intro e he
          rcases List.mem_append.mp he with h | h
          · exact ok e h
          · rw [List.mem_singleton.mp h]
            exact okl d (List.mem_cons_self ..)
      have h3 : (adds c d).length ≤ c.length + 1 ∧ c.length ≤ (adds c d).length ∧ (c = [] → 1 ≤ (adds c d).length) := by
        unfold adds
        split
        · rename_i h
          exact ⟨by omega, by omega, fun z => by subst z; cases h⟩
        · exact ⟨by simp, by simp, by simp⟩
      obtain ⟨g1, g2, g3, g4, g5⟩ := ih (adds c d) h1 (fun e he => okl e (List.mem_cons_of_mem _ he)) h2
      refine ⟨g1, g2, ?_, ?_, ?_⟩
      · rw [List.foldl_cons, List.length_cons]
        omega
      · rw [List.foldl_cons]
        omega
      · intro z _
        have := h3.2.2 z
        rw [List.foldl_cons]
        omega
  have hG : ∀ l : List Nat, (G l).Nodup ∧ (∀ d ∈ G l, d.Ok W) ∧ (G l).length ≤ l.length ∧ (l ≠ [] → 1 ≤ (G l).length) := fun l => by
    obtain ⟨g1, g2, g3, g4, g5⟩ := hadd (l.map fun k => F (g k)) [] List.nodup_nil (fun d hd => by
      obtain ⟨k, _, rfl⟩ := List.mem_map.mp hd
      exact (hF _).1) (fun d hd => by cases hd)
    exact ⟨g1, g2, by simpa using g3, fun h => g5 rfl (by simpa using h)⟩
  obtain ⟨g1, g2, g3, g4⟩ := hG (List.range N)
  rw [List.length_range] at g3
  have g4 := g4 (fun z => by
    have := congrArg List.length z
    simp at this
    omega)
  refine ⟨G (List.range N), ⟨g2, g1, g4, by omega⟩, by omega, fun n => ?_⟩
  refine (call_eq (n := n + 3) tc_law_choice rfl).trans ?_
  have f1 := fun (k : Int) (h : 0 ≤ k) => v_law_cell (L := L) (wf := wf) (n := n + 2) ns h
  have f2 := fun s k => v_law_seed (L := L) (wf := wf) (n := n + 2) s k
  have f3 := fun s => (hF s).2 n
  obtain ⟨Φ, hΦ⟩ : ∃ Φ, Φ = call (tblL L) wf (n + 3) := ⟨_, rfl⟩
  rw [← hΦ] at f1 f2 f3 ⊢
  clear hΦ
  have eb : c_law_choice.body = .cons (.setl 4 .nil) (.cons (.for_ (.one 5) (.rng (.bin .add (.con (.int 1)) (.bin .mod (.call 10 (.cons (.var 1) (.cons (.var 2) .nil))) (.var 3)))) lcBody) (.cons (.frz 4) (.cons (.ret (.var 4)) .nil))) := rfl
  obtain ⟨S', e, x, y, eS⟩ := forM_invI (f := forF Φ wf (.one 5) lcBody) (i := fun k : Nat => PyData.int k) (as := List.range N) (S := [.fz W.D, .fz (scr ns), .fz (.int at_), .fz (.int most), .ow (.list []), .no, .no]) (fun pre S => ∃ x y, S = [.fz W.D, .fz (scr ns), .fz (.int at_), .fz (.int most), .ow (chD (G pre)), x, y]) ⟨_, _, rfl⟩ (by
    rintro pre k post S er ⟨x, y, rfl⟩
    have hl : fits (G pre).length = true := fits_of (by
      have := congrArg List.length er
      have := (hG pre).2.2.1
      simp at *
      omega)
    have hmu : mulOk 41 (k : Int) = true := mulOk_smallL (by decide) (by decide)
    have f1' := f1 (at_ + 1) (by omega)
    have f3' := f3 (g k)
    simp only [g] at f3'
    have eG : G (pre ++ [k]) = adds (G pre) (F (g k)) := by simp [G]
    refine ⟨_, ?_, ⟨.fz (.int k), .fz (F (g k)).D, rfl⟩⟩
    have hn := nin_choice (F (g k)) (G pre)
    rw [eG]
    unfold adds
    simp only [g] at hn ⊢
    by_cases h : F (sd (cel ns (at_ + 1) + 41 * k) k) ∈ G pre
    · rw [if_pos h]
      simp [forF, lcBody, f1', f2, hmu, f3', hn, h]
    · rw [if_neg h]
      simp only [chD] at hn ⊢
      simp [forF, lcBody, f1', f2, hmu, f3', hn, h, hl])
  have hr : rngB ((N : Nat) : Int) = true := rngB_of (by omega)
  have e' : forM (forF Φ wf (.one 5) lcBody) (rangeD (1 + cel ns at_ % most)) [.fz W.D, .fz (scr ns), .fz (.int at_), .fz (.int most), .ow (.list []), .no, .no] = ok (.nx S') := by
    rw [← hN, rangeD_nat]
    exact e
  rw [hN] at hr
  have hmo : 0 < most := by omega
  rw [eb]
  simp [f1 at_ ha, hmo, hr, c_law_choice]
  rw [e', eS]
  simp [frzK]
/-! ### fitting -/
theorem ChOk.row {c : List Deed} (hc : ChOk W c) {k : Nat} {r : List Deed} (h : r ∈ rowsTo c k) : RowOk W r := fun d hd => hc.ok d ((rowsTo_mem.mp h).2 d hd)
def mfit (W : Wd) (c : List Deed) (P : List (Pic × Pic)) (k : Nat) : List (List Deed) := (rowsTo c k).filter (mfits W P)
theorem v_fitting (hW : W.Ok) {c : List Deed} (hc : ChOk W c) {P : List (Pic × Pic)} (hP : PrsOk W P) (hl : P.length ≤ 6) {k : Nat} (hk : k ≤ 3) : call (tblL L) wf (n + 6) 65 [W.D, chD c, prsL P, .int (k : Nat)] = ok (rowsD (mfit W c P k)) := by
  refine (call_eq (n := n + 5) tc_fitting rfl).trans ?_
  have h1 := v_look_choice (L := L) (wf := wf) (n := n) hW hc
  have h2 := v_look_pairs (L := L) (wf := wf) (n := n + 2) hW hP hl
  have h3 := fun x lo hi => v_is_within (L := L) (wf := wf) (n := n + 4) x lo hi
  have h4 := v_rows_to (L := L) (wf := wf) (n := n + 4) hc.five (k := k) (by omega)
  have h5 := fun r hr => v_fits (L := L) (wf := wf) (n := n) hW hP (r := r) hr
  obtain ⟨Φ, hΦ⟩ : ∃ Φ, Φ = call (tblL L) wf (n + 5) := ⟨_, rfl⟩
  rw [← hΦ] at h1 h2 h3 h4 h5 ⊢
  clear hΦ
  have e := lcM_filterI (f := lcF Φ (.one 4) (.so (.call 64 (.cons (.var 0) (.cons (.var 4) (.cons (.var 2) .nil))))) (.var 4) [.fz W.D, .fz (chD c), .fz (prsL P), .fz (.int (k : Nat)), .no]) (i := rowD) (g := rowD) (p := mfits W P) (as := rowsTo c k) (by
    intro r hr
    have := h5 r (hc.row hr)
    cases g : mfits W P r <;> simp [lcF, this, g])
  have hk' : (k : Int) ≤ 3 := by omega
  have hk0 : (0 : Int) ≤ (k : Int) := by omega
  simp [c_fitting, h1, h2, h3, h4, hk', hk0, rowsD]
  rw [e]
  rfl
def optR (o : Option (List Deed)) : D := match o with
  | some r => rowD r
  | none => .none
theorem first_of (R : List (List Deed)) : atD (R.map rowD ++ [PyData.none]) 0 = some (optR R.head?) := by
  cases R with
  | nil => rfl
  | cons r R =>
    rw [List.map_cons, List.cons_append, atD_zero]
    rfl
theorem mfit_size {c : List Deed} (hc : ChOk W c) (P : List (Pic × Pic)) {k : Nat} (hk : k ≤ 4) : (mfit W c P k).length ≤ 5000 := by
  have h1 := rowsTo_size hc.five k hk
  have h2 := List.length_filter_le (mfits W P) (rowsTo c k)
  unfold mfit
  have : 1000 * (k + 1) ≤ 1000 * 5 := Nat.mul_le_mul (Nat.le_refl _) (by omega)
  omega
theorem v_first_fitting (hW : W.Ok) {c : List Deed} (hc : ChOk W c) {P : List (Pic × Pic)} (hP : PrsOk W P) (hl : P.length ≤ 6) : call (tblL L) wf (n + 7) 62 [W.D, chD c, prsL P] = ok (optR (mfit W c P 3).head?) := by
  refine (call_eq (n := n + 6) tc_first_fitting rfl).trans ?_
  have h1 := v_fitting (L := L) (wf := wf) (n := n) hW hc hP hl (k := 3) (by decide)
  obtain ⟨Φ, hΦ⟩ : ∃ Φ, Φ = call (tblL L) wf (n + 6) := ⟨_, rfl⟩
  rw [← hΦ] at h1 ⊢
  clear hΦ
  have hf : fits ((mfit W c P 3).length + 1) = true := fits_of (by have := mfit_size hc P (k := 3) (by decide); omega)
  have f1 : fits 1 = true := rfl
  have h1' : Φ 65 [W.D, chD c, prsL P, .int 3] = ok (rowsD (mfit W c P 3)) := h1
  simp only [rowsD] at h1'
  simp [c_first_fitting, h1', hf, f1, first_of]
/-! ### rows told apart -/
theorem eqv_row (r s : List Deed) : PyData.eqv (rowD r) (rowD s) = decide (r = s) := eqvAll_map eqv_deed r s
theorem shN_rows (R : List (List Deed)) : shN 5 (rowsD R) := shN_list fun x hx => by
  obtain ⟨r, _, rfl⟩ := List.mem_map.mp hx
  exact shN_row r
theorem ne_rows (R T : List (List Deed)) : cop .ne (rowsD R) (rowsD T) = ok (.bool (!decide (R = T))) := by
  show guard (shp _ && shp _) (ok (PyData.bool (!PyData.eqvAll (R.map rowD) (T.map rowD)))) = _
  rw [shp_of (shN_rows R) (by decide), shp_of (shN_rows T) (by decide), eqvAll_map eqv_row]
  rfl
theorem shN_optR (o : Option (List Deed)) : shN 4 (optR o) := by
  cases o with
  | none => exact shN_none 4
  | some r => exact shN_row r
end FL

set_option maxRecDepth 20000
/-! FLv22: dicts from things to rows; all pictures that come of one. -/
namespace FL
open PySem Out
variable {L : Fn} {wf n : Nat} {W : Wd}
section
variable {X : Type} [DecidableEq X] {i : X → D}
def dcD (i : X → D) (F : List (X × List Deed)) : D := .dict (mkD :: encN i (F.map fun q => (q.1, rowD q.2)))
theorem aget_pget (k : X) : ∀ F : List (X × List Deed), aget k (F.map fun q => (q.1, rowD q.2)) = (pget k F).map rowD
  | [] => rfl
  | (a, b) :: r => by
    show (if a = k then some (rowD b) else aget k (r.map fun q => (q.1, rowD q.2))) = (if a = k then some b else pget k r).map rowD
    rw [aget_pget k r]
    by_cases h : a = k <;> simp [h]
theorem pget_isSome {k : X} {F : List (X × List Deed)} : (pget k F).isSome = decide (k ∈ F.map (·.1)) := by
  cases e : pget k F with
  | none => simp [pget_none.mp e]
  | some v =>
    have := pget_mem e
    have h : k ∈ F.map (·.1) := List.mem_map.mpr ⟨_, this, rfl⟩
    simp only [Option.isSome_some, h, decide_true]
theorem nin_dc (hi : ∀ a b, PyData.eqv (i a) (i b) = decide (a = b)) (ht : ∀ k, tkD (i k) = true) (k : X) (F : List (X × List Deed)) : cop .nin (i k) (dcD i F) = ok (.bool (!decide (k ∈ F.map (·.1)))) := by
  have e : inD (i k) (dcD i F) = guard (tkD (i k)) (ok (lookD (i k) (encN i (F.map fun q => (q.1, rowD q.2)))).isSome) := by
    cases i k <;> rfl
  show (inD (i k) (dcD i F)).map (fun r => PyData.bool (!r)) = _
  rw [e, ht, lookD_enc hi, aget_pget, Option.isSome_map, pget_isSome]
  rfl
theorem nin_old (hi : ∀ a b, PyData.eqv (i a) (i b) = decide (a = b)) (ht : ∀ k, tkD (i k) = true) {k : X} {F : List (X × List Deed)} (h : k ∈ F.map (·.1)) : cop .nin (i k) (dcD i F) = ok (.bool false) := by
  rw [nin_dc hi ht, decide_eq_true h]
  rfl
theorem nin_new (hi : ∀ a b, PyData.eqv (i a) (i b) = decide (a = b)) (ht : ∀ k, tkD (i k) = true) {k : X} {F : List (X × List Deed)} (h : k ∉ F.map (·.1)) : cop .nin (i k) (dcD i F) = ok (.bool true) := by
  rw [nin_dc hi ht, decide_eq_false h]
  rfl
theorem idx_dc (hi : ∀ a b, PyData.eqv (i a) (i b) = decide (a = b)) (ht : ∀ k, tkD (i k) = true) {k : X} {F : List (X × List Deed)} {r : List Deed} (h : pget k F = some r) : idx (dcD i F) (i k) = ok (rowD r) := by
  show guard (tkD (i k)) (ofOpt (lookD (i k) (encN i (F.map fun q => (q.1, rowD q.2))))) = _
  rw [ht, lookD_enc hi, aget_pget, h]
  rfl
theorem get_dc (hi : ∀ a b, PyData.eqv (i a) (i b) = decide (a = b)) (ht : ∀ k, tkD (i k) = true) (k : X) (F : List (X × List Deed)) : mth .get (dcD i F) [i k] = ok (optR (pget k F)) := by
  show guard (tkD (i k)) (ok ((lookD (i k) (encN i (F.map fun q => (q.1, rowD q.2)))).getD .none)) = _
  rw [ht, lookD_enc hi, aget_pget]
  cases pget k F <;> rfl
theorem aput_new {k : X} {v : D} : ∀ {l : List (X × D)}, k ∉ l.map (·.1) → aput k v l = l ++ [(k, v)]
  | [], _ => rfl
  | (a, b) :: r, h => by
    have h1 : a ≠ k := fun z => h (by simp [z])
    have h2 : k ∉ r.map (·.1) := fun z => h (by
      rw [List.map_cons]
      exact List.mem_cons_of_mem _ z)
    show (if a = k then (a, v) :: r else (a, b) :: aput k v r) = _
    rw [if_neg h1, aput_new h2]
    rfl
theorem put_dc (hi : ∀ a b, PyData.eqv (i a) (i b) = decide (a = b)) (ht : ∀ k, tkD (i k) = true) {k : X} {F : List (X × List Deed)} (h : k ∉ F.map (·.1)) (hl : F.length ≤ 1000000) (r : List Deed) : putA (dcD i F) (i k) (rowD r) = ok (dcD i (F ++ [(k, r)])) := by
  show guard (tkD (i k) && fits (encN i (F.map fun q => (q.1, rowD q.2))).length) (ok (PyData.dict (mkD :: putD (i k) (rowD r) (encN i (F.map fun q => (q.1, rowD q.2)))))) = _
  rw [ht, enc_len, List.length_map, fits_of hl, putD_enc hi, aput_new (by simpa [Function.comp_def] using h)]
  unfold dcD
  rw [List.map_append]
  rfl
end
theorem snoc_L {r : List Deed} (h : r.length ≤ 900) (d : Deed) : bop .add (rowD r) (.tuple [d.D]) = ok (rowD (r ++ [d])) := row_add r [d] (by simp; omega)
/-! ### the loops -/
def fIn (g : Nat) : CSs := (.cons (.set 8 (.call g (.cons (.var 0) (.cons (.var 6) (.cons (.var 7) .nil)))))
 (.cons (.iff (.cmp .nin (.var 8) (.pk 3))
 (.cons (.put 3 (.var 8) (.bin .add (.idx (.pk 3) (.var 6)) (.tup (.cons (.var 7) .nil))))
 (.cons (.app 5 (.var 8))
 .nil))
 .nil)
 .nil))
def fMid (g : Nat) : CSs := (.cons (.for_ (.one 7) (.seq (.var 1)) (fIn g)) .nil)
def fBody (g : Nat) : CSs := (.cons (.setl 5 .nil)
 (.cons (.for_ (.one 6) (.seq (.var 4)) (fMid g))
 (.cons (.frz 5)
 (.cons (.set 4 (.var 5))
 .nil))))
def picsD (H : List Pic) : D := .list (H.map picD)
def flS (W : Wd) (c : List Deed) (p : Pic) (F : List (Pic × List Deed)) (H : List Pic) (x5 x6 x7 x8 : Sl) : St := [.fz W.D, .fz (chD c), .fz (picD p), .ow (dcD picD F), .fz (picsD H), x5, x6, x7, x8]
theorem fl_in {Φ : Nat → List D → Out D} {g : Nat} {c : List Deed} (p : Pic) (H : List Pic) {one : Pic} {r : List Deed} {known : List (Pic × List Deed)}
    (hg : ∀ d ∈ c, Φ g [W.D, picD one, d.D] = ok (picD (mdone W one d))) (h1 : pget one known = some r) (hr : r.length ≤ 900) (q : List (Pic × List Deed) × List Pic) (hq : ∃ m, q.1 = known ++ m) (l1 : q.1.length ≤ 100000) (l2 : q.2.length ≤ 100000) (lc : c.length ≤ 5) (x7 x8 : Sl) :
    ∃ x7' x8', forM (forF Φ wf (.one 7) (fIn g)) (c.map Deed.D) (flS W c p q.1 H (.ow (picsD q.2)) (.fz (picD one)) x7 x8) = ok (.nx (flS W c p (bone (mdone W) c q one).1 H (.ow (picsD (bone (mdone W) c q one).2)) (.fz (picD one)) x7' x8')) := by
  obtain ⟨S', e, x7', x8', _, _, _, eS⟩ := forM_invI (f := forF Φ wf (.one 7) (fIn g)) (i := Deed.D) (as := c) (S := flS W c p q.1 H (.ow (picsD q.2)) (.fz (picD one)) x7 x8)
    (fun pre S => ∃ x7' x8', (∃ m, (pre.foldl (bput (mdone W) one) q).1 = known ++ m) ∧ (pre.foldl (bput (mdone W) one) q).1.length ≤ q.1.length + pre.length ∧ (pre.foldl (bput (mdone W) one) q).2.length ≤ q.2.length + pre.length ∧ S = flS W c p (pre.foldl (bput (mdone W) one) q).1 H (.ow (picsD (pre.foldl (bput (mdone W) one) q).2)) (.fz (picD one)) x7' x8') ⟨x7, x8, hq, Nat.le_refl _, Nat.le_refl _, rfl⟩ (by
    rintro pre d post S er ⟨y7, y8, ⟨m, hm⟩, k1, k2, rfl⟩
    have hd := hg d (by rw [er]; simp)
    have lp : pre.length ≤ 5 := by
      have := congrArg List.length er
      simp at this
      omega
    rw [List.foldl_append, List.length_append]
    generalize pre.foldl (bput (mdone W) one) q = Q at hm k1 k2 ⊢
    have hx : idx (dcD picD Q.1) (picD one) = ok (rowD r) := idx_dc eqv_pic tk_pic (by rw [hm, pget_app, h1]; rfl)
    have f1 : fits 1 = true := rfl
    have hs := snoc_L hr d
    have eQ : (pget one Q.1).getD [] = r := by
      rw [hm, pget_app, h1]
      rfl
    by_cases h : mdone W one d ∈ Q.1.map (·.1)
    · have eb : [d].foldl (bput (mdone W) one) Q = Q := by
        show bput (mdone W) one Q d = Q
        unfold bput
        rw [if_pos h]
      rw [eb]
      refine ⟨_, ?_, .fz d.D, .fz (picD (mdone W one d)), ⟨m, hm⟩, by simp; omega, by simp; omega, rfl⟩
      have hn := nin_old eqv_pic tk_pic h
      simp only [flS, forF, fIn]
      simp [hd, hn]
    · have eb : [d].foldl (bput (mdone W) one) Q = (Q.1 ++ [(mdone W one d, r ++ [d])], Q.2 ++ [mdone W one d]) := by
        show bput (mdone W) one Q d = _
        unfold bput
        rw [if_neg h, eQ]
      rw [eb]
      refine ⟨_, ?_, .fz d.D, .fz (picD (mdone W one d)), ⟨m ++ [(mdone W one d, r ++ [d])], by simp [hm]⟩, by simp; omega, by simp; omega, rfl⟩
      have hn := nin_new eqv_pic tk_pic h
      have hp := put_dc eqv_pic tk_pic h (by omega) (r ++ [d])
      have f5 : fits Q.2.length = true := fits_of (by omega)
      simp only [flS, forF, fIn, picsD]
      simp [hd, hn, hx, f1, hs, hp, f5])
  exact ⟨x7', x8', by rw [e, eS]; rfl⟩
theorem fl_mid {Φ : Nat → List D → Out D} {g : Nat} {c : List Deed} (p : Pic) {known : List (Pic × List Deed)} {H : List Pic} (lk : known.length ≤ 5000) (lH : H.length ≤ 5000) (lc : c.length ≤ 5)
    (hH : ∀ one ∈ H, (∀ d ∈ c, Φ g [W.D, picD one, d.D] = ok (picD (mdone W one d))) ∧ ∃ r, pget one known = some r ∧ r.length ≤ 900) (x6 x7 x8 : Sl) :
    ∃ x6' x7' x8', forM (forF Φ wf (.one 6) (fMid g)) (H.map picD) (flS W c p known H (.ow (.list [])) x6 x7 x8) = ok (.nx (flS W c p (bstep (mdone W) c (known, H)).1 H (.ow (picsD (bstep (mdone W) c (known, H)).2)) x6' x7' x8')) := by
  obtain ⟨S', e, x6', x7', x8', _, _, _, eS⟩ := forM_invI (f := forF Φ wf (.one 6) (fMid g)) (i := picD) (as := H) (S := flS W c p known H (.ow (.list [])) x6 x7 x8)
    (fun pre S => ∃ x6' x7' x8', (∃ m, (pre.foldl (bone (mdone W) c) (known, [])).1 = known ++ m) ∧ (pre.foldl (bone (mdone W) c) (known, [])).1.length ≤ known.length + pre.length * 5 ∧ (pre.foldl (bone (mdone W) c) (known, [])).2.length ≤ pre.length * 5 ∧ S = flS W c p (pre.foldl (bone (mdone W) c) (known, [])).1 H (.ow (picsD (pre.foldl (bone (mdone W) c) (known, [])).2)) x6' x7' x8') ⟨x6, x7, x8, ⟨[], by simp⟩, by simp, by simp, rfl⟩ (by
    rintro pre one post S er ⟨y6, y7, y8, ⟨m, hm⟩, k1, k2, rfl⟩
    obtain ⟨hg, r, hr1, hr2⟩ := hH one (by rw [er]; simp)
    have lp : pre.length ≤ 5000 := by
      have := congrArg List.length er
      simp at this
      omega
    rw [List.foldl_append, List.length_append]
    generalize pre.foldl (bone (mdone W) c) (known, []) = Q at hm k1 k2 ⊢
    have eb : [one].foldl (bone (mdone W) c) Q = bone (mdone W) c Q one := rfl
    rw [eb]
    obtain ⟨x7', x8', e⟩ := fl_in (wf := wf) p H hg hr1 hr2 Q ⟨m, hm⟩ (by omega) (by omega) lc y7 y8
    obtain ⟨m', b1, b2⟩ := bone_grow (mdone W) one c Q
    have b1 : (bone (mdone W) c Q one).1 = Q.1 ++ m' := b1
    refine ⟨_, ?_, .fz (picD one), x7', x8', ⟨m ++ m', by rw [b1, hm, List.append_assoc]⟩, ?_, ?_, rfl⟩
    · have ef : forF Φ wf (.one 6) (fMid g) (picD one) (flS W c p Q.1 H (.ow (picsD Q.2)) y6 y7 y8) = seqK (forM (forF Φ wf (.one 7) (fIn g)) (c.map Deed.D) (flS W c p Q.1 H (.ow (picsD Q.2)) (.fz (picD one)) y7 y8)) fun S' => ok (.nx S') := by
        simp only [flS, forF, fMid, chD]
        simp
      rw [ef, e]
      rfl
    · have := b2.1
      have : (bone (mdone W) c Q one).1.length ≤ Q.1.length + c.length := b2.1
      simp
      omega
    · have : (bone (mdone W) c Q one).2.length ≤ Q.2.length + c.length := b2.2
      simp
      omega)
  exact ⟨x6', x7', x8', by rw [e, eS]; rfl⟩
theorem fl_turn {Φ : Nat → List D → Out D} {g : Nat} {c : List Deed} (p : Pic) {known : List (Pic × List Deed)} {H : List Pic} (lk : known.length ≤ 5000) (lH : H.length ≤ 5000) (lc : c.length ≤ 5)
    (hH : ∀ one ∈ H, (∀ d ∈ c, Φ g [W.D, picD one, d.D] = ok (picD (mdone W one d))) ∧ ∃ r, pget one known = some r ∧ r.length ≤ 900) (x5 x6 x7 x8 : Sl) :
    ∃ x5' x6' x7' x8', evSs Φ wf (fBody g) (flS W c p known H x5 x6 x7 x8) = ok (.nx (flS W c p (bstep (mdone W) c (known, H)).1 (bstep (mdone W) c (known, H)).2 x5' x6' x7' x8')) := by
  obtain ⟨x6', x7', x8', e⟩ := fl_mid (wf := wf) p lk lH lc hH x6 x7 x8
  refine ⟨.fz (picsD (bstep (mdone W) c (known, H)).2), x6', x7', x8', ?_⟩
  have f0 : fits 0 = true := rfl
  simp only [flS, picsD] at e ⊢
  simp [fBody, f0]
  rw [e]
  simp [frzK]
end FL

set_option maxRecDepth 20000
/-! FLv23: rows_from, reached, way_to, farthest. -/
namespace FL
open PySem Out
variable {L : Fn} {wf n : Nat} {W : Wd}
theorem nodup_le {α : Type} [DecidableEq α] : ∀ {l m : List α}, l.Nodup → (∀ x ∈ l, x ∈ m) → l.length ≤ m.length
  | [], m, _, _ => Nat.zero_le _
  | x :: l, m, nd, h => by
    obtain ⟨h1, h2⟩ := List.nodup_cons.mp nd
    have hx := h x (List.mem_cons_self ..)
    have := nodup_le (l := l) (m := m.erase x) h2 fun y hy => (List.mem_erase_of_ne (fun z : y = x => h1 (by rw [← z]; exact hy))).mpr (h y (List.mem_cons_of_mem _ hy))
    rw [List.length_erase_of_mem hx] at this
    have hp : 0 < m.length := List.length_pos_of_mem hx
    simp only [List.length_cons]
    omega
section
variable {X A : Type} [DecidableEq X] {s : X → A → X} {cs : List A} {x : X}
theorem blev_nodup (s : X → A → X) (cs : List A) (x : X) (k : Nat) : ((blev s cs x k).1.map (·.1)).Nodup := by
  rw [blev_firsts]
  exact firsts_nodup _ _ (by simp)
theorem blev_keys (k : Nat) (y : X) : y ∈ (blev s cs x k).1.map (·.1) ↔ ∃ r ∈ rowsTo cs k, fend s x r = y := by
  rw [blev_firsts, firsts_keys]
  simp
theorem blev_get (k : Nat) (y : X) : pget y (blev s cs x k).1 = (rowsTo cs k).find? fun r => decide (fend s x r = y) := by
  rw [blev_firsts, pget_firsts]
  simp [pget]
theorem blev_here {k : Nat} : ∀ one ∈ (blev s cs x k).2, ∃ r, pget one (blev s cs x k).1 = some r ∧ r.length = k := by
  intro one h
  have nd := blev_nodup s cs x k
  obtain ⟨old, m, e1, e2, e3, e4⟩ := blev_spec s cs x k
  obtain ⟨m', f1, f2⟩ := firsts_more (fend s x) (lvl cs k) old
  rw [e3] at f1
  have em : m = m' := List.append_cancel_left f1
  rw [e1] at h nd ⊢
  obtain ⟨q, hq, rfl⟩ := List.mem_map.mp h
  refine ⟨q.2, pget_of nd (List.mem_append_right _ (by cases q; exact hq)), lvl_len (f2 q (em ▸ hq))⟩
/-- the loop: it goes on until none is left -/
theorem whl_lev {c : St → Out Bool} {f : St → Out Fl} (I : Nat → St → Prop) {B : Nat} (hB : ∀ k, (blev s cs x k).1.length ≤ B)
    (hc : ∀ k S, I k S → c S = ok (!(blev s cs x k).2.isEmpty)) (hf : ∀ k S, I k S → k ≤ B → ∃ S', f S = ok (.nx S') ∧ I (k + 1) S') :
    ∀ (m k : Nat) (S : St), I k S → (∀ j < k, (blev s cs x j).2 ≠ []) → B < m + k → ∃ j S', whlM c f m S = ok (.nx S') ∧ I j S' ∧ (blev s cs x j).2 = [] ∧ j ≤ B
  | 0, k, S, hi, hk, hm => by
    have h1 := (blev_many s cs x k hk).1
    have h2 := hB k
    omega
  | m + 1, k, S, hi, hk, hm => by
    have h1 := (blev_many s cs x k hk).1
    have h2 := hB k
    have hkB : k ≤ B := by omega
    by_cases h : (blev s cs x k).2 = []
    · refine ⟨k, S, ?_, hi, h, hkB⟩
      show (c S).bind _ = _
      rw [hc k S hi, h]
      rfl
    · obtain ⟨S1, e1, i1⟩ := hf k S hi hkB
      obtain ⟨j, S2, e2, i2, g1, g2⟩ := whl_lev I hB hc hf m (k + 1) S1 i1 (by
        intro j hj
        rcases Nat.lt_succ_iff_lt_or_eq.mp hj with h' | rfl
        · exact hk j h'
        · exact h) (by omega)
      refine ⟨j, S2, ?_, i2, g1, g2⟩
      have he : (blev s cs x k).2.isEmpty = false := by
        cases q : (blev s cs x k).2 with
        | nil => exact absurd q h
        | cons _ _ => rfl
      show (c S).bind _ = _
      rw [hc k S hi, he]
      show (f S).bind _ = _
      rw [e1]
      exact e2
end
/-! ### pictures -/
def mflood (W : Wd) (c : List Deed) (p : Pic) : List (Pic × List Deed) := (blev (mdone W) c p 256).1
theorem fl_ok (hW : W.Ok) {c : List Deed} (hc : ∀ d ∈ c, d.Ok W) {p : Pic} (hp : PicOk W p) (k : Nat) : ∀ q ∈ (blev (mdone W) c p k).1.map (·.1), PicOk W q := by
  intro q hq
  obtain ⟨r, hr, rfl⟩ := (blev_keys k q).mp hq
  exact mall_ok hW hp fun d hd => hc d ((rowsTo_mem.mp hr).2 d hd)
theorem fl_len (hW : W.Ok) {c : List Deed} (hc : ∀ d ∈ c, d.Ok W) {p : Pic} (hp : PicOk W p) (k : Nat) : (blev (mdone W) c p k).1.length ≤ 256 := by
  have h1 := nodup_le (blev_nodup (mdone W) c p k) (m := mevery W) fun q hq => in_every.mpr (fl_ok hW hc hp k q hq)
  rw [List.length_map] at h1
  have := mevery_len hW
  omega
theorem fl_here_len (hW : W.Ok) {c : List Deed} (hc : ∀ d ∈ c, d.Ok W) {p : Pic} (hp : PicOk W p) (k : Nat) : (blev (mdone W) c p k).2.length ≤ 256 := by
  have h1 := fl_len hW hc hp k
  obtain ⟨old, m, e1, _⟩ := blev_spec (mdone W) c p k
  rw [e1] at h1 ⊢
  simp at h1 ⊢
  omega
theorem fl_loop (hW : W.Ok) {c : List Deed} (hc : ChOk W c) {p : Pic} (hp : PicOk W p) {Φ : Nat → List D → Out D} {g : Nat} {ce : CE} (hw : 257 ≤ wf) (hg : ∀ q, PicOk W q → ∀ d ∈ c, Φ g [W.D, picD q, d.D] = ok (picD (mdone W q d)))
    (hce : ∀ F H x5 x6 x7 x8, (ev Φ ce (flS W c p F H x5 x6 x7 x8)).bind tru = ok (!H.isEmpty)) :
    ∃ H x5 x6 x7 x8, whlM (fun S => (ev Φ ce S).bind tru) (fun S => evSs Φ wf (fBody g) S) wf (flS W c p [(p, [])] [p] .no .no .no .no) = ok (.nx (flS W c p (mflood W c p) H x5 x6 x7 x8)) := by
  obtain ⟨j, S', e, ⟨x5, x6, x7, x8, eS⟩, h2, h3⟩ := whl_lev (s := mdone W) (cs := c) (x := p) (c := fun S => (ev Φ ce S).bind tru) (f := fun S => evSs Φ wf (fBody g) S)
    (fun k S => ∃ x5 x6 x7 x8, S = flS W c p (blev (mdone W) c p k).1 (blev (mdone W) c p k).2 x5 x6 x7 x8) (B := 256) (fl_len hW hc.ok hp)
    (by
      rintro k S ⟨x5, x6, x7, x8, rfl⟩
      exact hce _ _ _ _ _ _)
    (by
      rintro k S ⟨x5, x6, x7, x8, rfl⟩ hk
      have l1 := fl_len hW hc.ok hp k
      have l2 := fl_here_len hW hc.ok hp k
      obtain ⟨y5, y6, y7, y8, e⟩ := fl_turn (wf := wf) (Φ := Φ) (g := g) p (known := (blev (mdone W) c p k).1) (H := (blev (mdone W) c p k).2) (by omega) (by omega) hc.five (by
        intro one ho
        obtain ⟨r, hr1, hr2⟩ := blev_here one ho
        have hok := fl_ok hW hc.ok hp k one (List.mem_map.mpr ⟨_, pget_mem hr1, rfl⟩)
        exact ⟨fun d hd => hg one hok d hd, r, hr1, by omega⟩) x5 x6 x7 x8
      exact ⟨_, e, y5, y6, y7, y8, rfl⟩) wf 0 (flS W c p [(p, [])] [p] .no .no .no .no) ⟨_, _, _, _, rfl⟩ (fun j hj => absurd hj (Nat.not_lt_zero _)) (by omega)
  have ef : (blev (mdone W) c p j).1 = mflood W c p := by
    unfold mflood
    have := blev_stop h2 (256 - j)
    rw [show j + (256 - j) = 256 by omega] at this
    rw [this]
  exact ⟨_, x5, x6, x7, x8, by rw [e, eS, ef]⟩
theorem v_rows_from (hW : W.Ok) (hw : 257 ≤ wf) {c : List Deed} (hc : ChOk W c) {p : Pic} (hp : PicOk W p) : call (tblL L) wf (n + 4) 103 [W.D, chD c, picD p] = ok (dcD picD (mflood W c p)) := by
  refine (call_eq (n := n + 3) tc_rows_from rfl).trans ?_
  have h1 := fun q hq d hd => v_done (L := L) (wf := wf) (n := n) hW (p := q) hq (d := d) hd
  obtain ⟨Φ, hΦ⟩ : ∃ Φ, Φ = call (tblL L) wf (n + 3) := ⟨_, rfl⟩
  rw [← hΦ] at h1 ⊢
  clear hΦ
  obtain ⟨H, x5, x6, x7, x8, e⟩ := fl_loop hW hc hp (Φ := Φ) (g := 59) (ce := .var 4) hw (fun q hq d hd => h1 q hq.1 d (hc.ok d hd)) (fun F H x5 x6 x7 x8 => by
    simp [flS, picsD])
  have eb : c_rows_from.body = .cons (.setd 3 (.cons (.var 2) .nil) (.cons (.tup .nil) .nil)) (.cons (.set 4 (.lst (.cons (.var 2) .nil))) (.cons (.whl (.var 4) (fBody 59)) (.cons (.frz 3) (.cons (.ret (.var 3)) .nil)))) := rfl
  have f0 : fits 0 = true := rfl
  have f1 : fits 1 = true := rfl
  have en : newN [picD p] [.tuple []] = ok (dcD picD [(p, [])]) := by
    show guard (tkD (picD p)) _ = _
    rw [tk_pic]
    rfl
  have e0 : evSs Φ wf (.cons (.setd 3 (.cons (.var 2) .nil) (.cons (.tup .nil) .nil)) (.cons (.set 4 (.lst (.cons (.var 2) .nil))) (.cons (.whl (.var 4) (fBody 59)) (.cons (.frz 3) (.cons (.ret (.var 3)) .nil))))) (startS c_rows_from.nn [W.D, chD c, picD p]) = seqK (whlM (fun S => (ev Φ (.var 4) S).bind tru) (fun S => evSs Φ wf (fBody 59) S) wf (flS W c p [(p, [])] [p] .no .no .no .no)) fun S' => evSs Φ wf (.cons (.frz 3) (.cons (.ret (.var 3)) .nil)) S' := by
    simp [c_rows_from, f0, f1, en]
    rfl
  rw [eb, e0, e]
  simp [flS, frzK]
theorem v_law_flood (hW : W.Ok) (hw : 257 ≤ wf) {c : List Deed} (hc : ChOk W c) {p : Pic} (hp : PicOk W p) : call (tblL L) wf (n + 2) 18 [W.D, chD c, picD p] = ok (dcD picD (mflood W c p)) := by
  refine (call_eq (n := n + 1) tc_law_flood rfl).trans ?_
  have h1 := fun q hq d hd => v_law_done (L := L) (wf := wf) (n := n) hW (p := q) hq (d := d) hd
  obtain ⟨Φ, hΦ⟩ : ∃ Φ, Φ = call (tblL L) wf (n + 1) := ⟨_, rfl⟩
  rw [← hΦ] at h1 ⊢
  clear hΦ
  have f0 : fits 0 = true := rfl
  have f1 : fits 1 = true := rfl
  obtain ⟨H, x5, x6, x7, x8, e⟩ := fl_loop hW hc hp (Φ := Φ) (g := 14) (ce := .cmp .ne (.var 4) (.lst .nil)) hw (fun q hq d hd => h1 q hq.1 d (hc.ok d hd)) (fun F H x5 x6 x7 x8 => by
    have hs : shN 2 (picsD H) := shN_list fun x hx => by
      obtain ⟨q, _, rfl⟩ := List.mem_map.mp hx
      exact shN_pic q
    have : cop .ne (picsD H) (.list []) = ok (.bool (!H.isEmpty)) := by
      show guard (shp _ && shp _) _ = _
      rw [shp_of hs (by decide), show shp (.list []) = true from rfl]
      cases H <;> rfl
    simp [flS, f0, this])
  have eb : c_law_flood.body = .cons (.pard 3 4 (.var 2) (.tup .nil) (.lst (.cons (.var 2) .nil))) (.cons (.whl (.cmp .ne (.var 4) (.lst .nil)) (fBody 14)) (.cons (.frz 3) (.cons (.ret (.var 3)) .nil))) := rfl
  have e0 : evSs Φ wf (.cons (.pard 3 4 (.var 2) (.tup .nil) (.lst (.cons (.var 2) .nil))) (.cons (.whl (.cmp .ne (.var 4) (.lst .nil)) (fBody 14)) (.cons (.frz 3) (.cons (.ret (.var 3)) .nil)))) (startS c_law_flood.nn [W.D, chD c, picD p]) = seqK (whlM (fun S => (ev Φ (.cmp .ne (.var 4) (.lst .nil)) S).bind tru) (fun S => evSs Φ wf (fBody 14) S) wf (flS W c p [(p, [])] [p] .no .no .no .no)) fun S' => evSs Φ wf (.cons (.frz 3) (.cons (.ret (.var 3)) .nil)) S' := by
    simp [c_law_flood, f0, f1, tk_pic]
    rfl
  rw [eb, e0, e]
  simp [flS, frzK]
/-! ### what is told of them -/
def mkeys (F : List (Pic × List Deed)) : List Pic := F.map (·.1)
theorem mflood_ok (hW : W.Ok) {c : List Deed} (hc : ChOk W c) {p : Pic} (hp : PicOk W p) : ∀ q ∈ mkeys (mflood W c p), PicOk W q := fl_ok hW hc.ok hp 256
theorem srt_dc (hW : W.Ok) {F : List (Pic × List Deed)} (hF : ∀ q ∈ mkeys F, PicOk W q) : b1 .sorted (dcD picD F) = ok (picsD (srtP (mkeys F))) := by
  unfold dcD
  rw [srt_dict, enc_keys]
  have e : (F.map fun q => (q.1, rowD q.2)).map (·.1) = mkeys F := by simp [mkeys, Function.comp_def]
  rw [e]
  exact srtD_pics (l := mkeys F) fun p hp => pic_ne hW (hF p hp).1
def mreach (W : Wd) (c : List Deed) (p : Pic) : List Pic := srtP (mkeys (mflood W c p))
theorem v_reached (hW : W.Ok) (hw : 257 ≤ wf) {c : List Deed} (hc : ChOk W c) {p : Pic} (hp : PicOk W p) : call (tblL L) wf (n + 6) 97 [W.D, chD c, picD p] = ok (picsD (mreach W c p)) := by
  refine (call_eq (n := n + 5) tc_reached rfl).trans ?_
  have h1 := v_look_choice (L := L) (wf := wf) (n := n) hW hc
  have h2 := v_look_picture (L := L) (wf := wf) (n := n + 2) hW hp
  have h3 := v_rows_from (L := L) (wf := wf) (n := n + 1) hW hw hc hp
  obtain ⟨Φ, hΦ⟩ : ∃ Φ, Φ = call (tblL L) wf (n + 5) := ⟨_, rfl⟩
  rw [← hΦ] at h1 h2 h3 ⊢
  clear hΦ
  simp [c_reached, h1, h2, h3, srt_dc hW (mflood_ok hW hc hp), mreach]
theorem v_way_to (hW : W.Ok) (hw : 257 ≤ wf) {c : List Deed} (hc : ChOk W c) {p : Pic} (hp : PicOk W p) {q : Pic} (hq : PicOk W q) : call (tblL L) wf (n + 6) 116 [W.D, chD c, picD p, picD q] = ok (optR (pget q (mflood W c p))) := by
  refine (call_eq (n := n + 5) tc_way_to rfl).trans ?_
  have h1 := v_look_choice (L := L) (wf := wf) (n := n) hW hc
  have h2 := v_look_picture (L := L) (wf := wf) (n := n + 2) hW hp
  have h2' := v_look_picture (L := L) (wf := wf) (n := n + 2) hW hq
  have h3 := v_rows_from (L := L) (wf := wf) (n := n + 1) hW hw hc hp
  obtain ⟨Φ, hΦ⟩ : ∃ Φ, Φ = call (tblL L) wf (n + 5) := ⟨_, rfl⟩
  rw [← hΦ] at h1 h2 h2' h3 ⊢
  clear hΦ
  simp [c_way_to, h1, h2, h2', h3, get_dc eqv_pic tk_pic]
/-! ### the farthest -/
def mmost (F : List (Pic × List Deed)) : Int := maxL (F.map fun q => (q.2.length : Int))
def mfar (F : List (Pic × List Deed)) : List Pic := mkeys (F.filter fun q => decide ((q.2.length : Int) = mmost F))
def pmin (x : Pic) (xs : List Pic) : Pic := xs.foldl (fun a y => if PySem.W.dataLt (picD y) (picD a) = true then y else a) x
theorem minD_pics : ∀ (xs : List Pic) (x : Pic), PySem.W.minD (picD x) (xs.map picD) = picD (pmin x xs)
  | [], x => rfl
  | y :: xs, x => by
    have ih := minD_pics xs
    unfold PySem.W.minD pmin at ih ⊢
    rw [List.map_cons, List.foldl_cons, List.foldl_cons, ← ih]
    by_cases h : PySem.W.dataLt (picD y) (picD x) = true <;> simp [h]
theorem pmin_mem : ∀ (xs : List Pic) (x : Pic), pmin x xs ∈ x :: xs
  | [], x => by simp [pmin]
  | y :: xs, x => by
    unfold pmin
    rw [List.foldl_cons]
    have := pmin_mem xs (if PySem.W.dataLt (picD y) (picD x) = true then y else x)
    unfold pmin at this
    rcases List.mem_cons.mp this with h | h
    · rw [h]
      split <;> simp
    · exact List.mem_cons_of_mem _ (List.mem_cons_of_mem _ h)
theorem b1_minP {l : List Pic} (h : l ≠ []) (hl : ∀ p ∈ l, p ≠ []) : ∃ p ∈ l, b1 .min (picsD l) = ok (picD p) := by
  cases l with
  | nil => exact absurd rfl h
  | cons x xs =>
    refine ⟨pmin x xs, pmin_mem xs x, ?_⟩
    have hi : intsD ((x :: xs).map picD) = none := rfl
    show (match intsD ((x :: xs).map picD) with
      | some ns => (ofOpt (minI ns)).map PyData.int
      | none => mnD ((x :: xs).map picD)) = _
    rw [hi]
    show guard (mnOk ((x :: xs).map picD)) (ok (PySem.W.minD (picD x) (xs.map picD))) = _
    have hm : mnOk ((x :: xs).map picD) = true := by
      unfold mnOk
      rw [Bool.and_eq_true, List.all_eq_true, List.all_eq_true]
      refine ⟨fun d hd => List.all_eq_true.mpr fun e he => ?_, fun d hd => ?_⟩
      · obtain ⟨p, _, rfl⟩ := List.mem_map.mp hd
        obtain ⟨q, _, rfl⟩ := List.mem_map.mp he
        exact alike_pic p q
      · obtain ⟨p, _, rfl⟩ := List.mem_map.mp hd
        rw [shp_of (shN_pic p) (by decide)]
        rfl
    rw [hm, minD_pics]
    rfl
theorem vals_dc (F : List (Pic × List Deed)) : valsI (dcD picD F) = ok (F.map fun q => rowD q.2) := by
  show ok ((encN picD (F.map fun q => (q.1, rowD q.2))).map (·.2)) = _
  rw [enc_vals, List.map_map]
  rfl
theorem keys_dc (F : List (Pic × List Deed)) : items (dcD picD F) = ok (F.map fun q => picD q.1) := by
  show ok ((encN picD (F.map fun q => (q.1, rowD q.2))).map (·.1)) = _
  rw [enc_keys, List.map_map, List.map_map]
  rfl
theorem mmost_mem {F : List (Pic × List Deed)} (h : F ≠ []) : ∃ q ∈ F, (q.2.length : Int) = mmost F := by
  have h1 := maxI_spec (maxI_some (F.map fun q => (q.2.length : Int)) (by simpa using h))
  obtain ⟨q, hq, e⟩ := List.mem_map.mp h1.1
  exact ⟨q, hq, e⟩
theorem mmost_le {F : List (Pic × List Deed)} {q : Pic × List Deed} (h : q ∈ F) : (q.2.length : Int) ≤ mmost F := by
  have h1 := maxI_spec (maxI_some (F.map fun q => (q.2.length : Int)) (by
    intro z
    have : F = [] := by simpa using z
    rw [this] at h
    cases h))
  exact h1.2 _ (List.mem_map.mpr ⟨q, h, rfl⟩)
theorem mfar_ne {F : List (Pic × List Deed)} (hF : F ≠ []) : mfar F ≠ [] := by
  obtain ⟨q, hq, e⟩ := mmost_mem hF
  intro z
  have : q.1 ∈ mfar F := List.mem_map.mpr ⟨q, List.mem_filter.mpr ⟨hq, by simpa using e⟩, rfl⟩
  rw [z] at this
  cases this
theorem mfar_sub {F : List (Pic × List Deed)} : ∀ p ∈ mfar F, p ∈ mkeys F := fun p hp => by
  obtain ⟨q, hq, rfl⟩ := List.mem_map.mp hp
  exact List.mem_map.mpr ⟨q, (List.mem_filter.mp hq).1, rfl⟩
theorem far_min {Φ : Nat → List D → Out D} {F : List (Pic × List Deed)} (nd : (F.map (·.1)).Nodup) {q : Pic} (e : b1 .min (picsD (mfar F)) = ok (picD q)) (S : St) (i j k : Nat) (hi : ∀ x, getF (S.set j x) i = ok (dcD picD F)) (hi0 : getF S i = ok (dcD picD F)) (hj : ∀ d, getF (S.set j (.fz d)) j = ok d) (hk : ∀ x, getF (S.set j x) k = ok (.int (mmost F))) :
    ev Φ (.b1 .min (.lc (.seq (.var i)) (.one j) (.so (.cmp .eq (.b1 .len (.idx (.var i) (.var j))) (.var k))) (.var j))) S = ok (picD q) := by
  have e1 := lcM_filterI (f := lcF Φ (.one j) (.so (.cmp .eq (.b1 .len (.idx (.var i) (.var j))) (.var k))) (.var j) S) (i := fun q : Pic × List Deed => picD q.1) (g := fun q => picD q.1) (p := fun q => decide ((q.2.length : Int) = mmost F)) (as := F) (by
    intro q hq
    have hx : idx (dcD picD F) (picD q.1) = ok (rowD q.2) := idx_dc eqv_pic tk_pic (pget_of nd (by cases q; exact hq))
    have hlen : b1 .len (rowD q.2) = ok (.int (q.2.length : Nat)) := by simp [rowD]
    by_cases g : (q.2.length : Int) = mmost F <;> simp [lcF, hi, hj, hk, hx, hlen, g])
  rw [ev_b1, ev_lc, evi_seq, ev_var, hi0, bind_ok, keys_dc, bind_ok, e1, bind_ok, bind_ok]
  have : (F.filter fun q => decide ((q.2.length : Int) = mmost F)).map (fun q => picD q.1) = (mfar F).map picD := by
    unfold mfar mkeys
    rw [List.map_map]
    rfl
  rw [this]
  exact e
theorem far_max {Φ : Nat → List D → Out D} {F : List (Pic × List Deed)} (hF : F ≠ []) (S : St) (i j : Nat) (hi : getF S i = ok (dcD picD F)) (hj : ∀ d, getF (S.set j (.fz d)) j = ok d) : ev Φ (.b1 .max (.lc (.vals (.var i)) (.one j) .no (.b1 .len (.var j)))) S = ok (.int (mmost F)) := by
  have e1 := lcM_mapI (f := lcF Φ (.one j) .no (.b1 .len (.var j)) S) (i := fun q : Pic × List Deed => rowD q.2) (g := fun q => PyData.int (q.2.length : Nat)) (as := F) (by
    intro q hq
    have hlen : b1 .len (rowD q.2) = ok (.int (q.2.length : Nat)) := by simp [rowD]
    simp [lcF, hj, hlen])
  rw [ev_b1, ev_lc, evi_vals, ev_var, hi, bind_ok, vals_dc, bind_ok, e1, bind_ok, bind_ok]
  have := b1_maxI (F.map fun q => (q.2.length : Int)) (by simpa using hF)
  rw [List.map_map] at this
  exact this
theorem flood_ne (c : List Deed) (p : Pic) : mflood W c p ≠ [] := by
  intro z
  have : p ∈ mkeys (mflood W c p) := (blev_keys 256 p).mpr ⟨[], rowsTo_mem.mpr ⟨by simp, by simp⟩, rfl⟩
  rw [z] at this
  cases this
theorem flood_nd (c : List Deed) (p : Pic) : ((mflood W c p).map (·.1)).Nodup := blev_nodup (mdone W) c p 256
theorem v_farthest (hW : W.Ok) (hw : 257 ≤ wf) {c : List Deed} (hc : ChOk W c) {p : Pic} (hp : PicOk W p) : ∃ q, q ∈ mfar (mflood W c p) ∧ b1 .min (picsD (mfar (mflood W c p))) = ok (picD q) ∧ ∀ n, call (tblL L) wf (n + 6) 60 [W.D, chD c, picD p] = ok (.tuple [.int (mmost (mflood W c p)), picD q]) := by
  have hF := flood_ne (W := W) c p
  obtain ⟨q, hq, e⟩ := b1_minP (mfar_ne hF) fun r hr => pic_ne hW (mflood_ok hW hc hp r (mfar_sub r hr)).1
  refine ⟨q, hq, e, fun n => ?_⟩
  refine (call_eq (n := n + 5) tc_farthest rfl).trans ?_
  have h1 := v_look_choice (L := L) (wf := wf) (n := n) hW hc
  have h2 := v_look_picture (L := L) (wf := wf) (n := n + 2) hW hp
  have h3 := v_rows_from (L := L) (wf := wf) (n := n + 1) hW hw hc hp
  obtain ⟨Φ, hΦ⟩ : ∃ Φ, Φ = call (tblL L) wf (n + 5) := ⟨_, rfl⟩
  rw [← hΦ] at h1 h2 h3 ⊢
  clear hΦ
  have m1 := far_max (Φ := Φ) hF [.fz W.D, .fz (chD c), .fz (picD p), .fz (dcD picD (mflood W c p)), .no, .no, .no] 3 5 rfl (fun _ => rfl)
  have m2 := far_min (Φ := Φ) (flood_nd c p) e [.fz W.D, .fz (chD c), .fz (picD p), .fz (dcD picD (mflood W c p)), .fz (.int (mmost (mflood W c p))), .no, .no] 3 6 4 (fun _ => rfl) rfl (fun _ => rfl) (fun _ => rfl)
  have f2 : fits 2 = true := rfl
  rw [ev_b1] at m1 m2
  simp [c_farthest, h1, h2, h3, -ev_lc]
  rw [m1]
  simp [-ev_lc]
  rw [m2]
  simp [f2]
end FL

set_option maxRecDepth 20000
/-! FLv24: membership of rows and pictures; more of rows of a choice. -/
namespace FL
open PySem Out
variable {L : Fn} {wf n : Nat} {W : Wd}
theorem anyEq_map {α : Type} [DecidableEq α] {i : α → D} (hi : ∀ a b, PyData.eqv (i a) (i b) = decide (a = b)) (x : α) : ∀ l : List α, anyEq (i x) (l.map i) = decide (x ∈ l)
  | [] => rfl
  | y :: l => by
    show (PyData.eqv (i y) (i x) || anyEq (i x) (l.map i)) = _
    rw [hi, anyEq_map hi x l]
    by_cases h : y = x
    · simp [h]
    · have : ¬ x = y := fun z => h z.symm
      simp [h, this]
theorem in_map {α : Type} [DecidableEq α] {i : α → D} (hi : ∀ a b, PyData.eqv (i a) (i b) = decide (a = b)) (hs : ∀ a, shN 5 (i a)) (x : α) (l : List α) : cop .inn (i x) (.list (l.map i)) = ok (.bool (decide (x ∈ l))) := by
  have h2 : shN 6 (.list (l.map i)) := shN_list fun d hd => by
    obtain ⟨a, _, rfl⟩ := List.mem_map.mp hd
    exact hs a
  show (guard (shp (i x) && shp (.list (l.map i))) (ok (anyEq (i x) (l.map i)))).map PyData.bool = _
  rw [shp_of (hs x) (by decide), shp_of h2 (by decide), anyEq_map hi]
  rfl
theorem nin_map {α : Type} [DecidableEq α] {i : α → D} (hi : ∀ a b, PyData.eqv (i a) (i b) = decide (a = b)) (hs : ∀ a, shN 5 (i a)) (x : α) (l : List α) : cop .nin (i x) (.list (l.map i)) = ok (.bool (!decide (x ∈ l))) := by
  have h2 : shN 6 (.list (l.map i)) := shN_list fun d hd => by
    obtain ⟨a, _, rfl⟩ := List.mem_map.mp hd
    exact hs a
  show (guard (shp (i x) && shp (.list (l.map i))) (ok (anyEq (i x) (l.map i)))).map (fun r => PyData.bool (!r)) = _
  rw [shp_of (hs x) (by decide), shp_of h2 (by decide), anyEq_map hi]
  rfl
theorem nin_rows (r : List Deed) (R : List (List Deed)) : cop .nin (rowD r) (rowsD R) = ok (.bool (!decide (r ∈ R))) := (nin_map eqv_row (fun a => shN_mono (shN_row a) (by decide)) r R).trans (by congr)
theorem inn_rows (r : List Deed) (R : List (List Deed)) : cop .inn (rowD r) (rowsD R) = ok (.bool (decide (r ∈ R))) := (in_map eqv_row (fun a => shN_mono (shN_row a) (by decide)) r R).trans (by congr)
theorem nin_pics (p : Pic) (H : List Pic) : cop .nin (picD p) (picsD H) = ok (.bool (!decide (p ∈ H))) := (nin_map eqv_pic (fun a => shN_mono (shN_pic a) (by decide)) p H).trans (by congr)
theorem inn_pics (p : Pic) (H : List Pic) : cop .inn (picD p) (picsD H) = ok (.bool (decide (p ∈ H))) := (in_map eqv_pic (fun a => shN_mono (shN_pic a) (by decide)) p H).trans (by congr)
theorem ne_nil_of {n : Nat} {xs : List D} (h : ∀ x ∈ xs, shN n x) (hn : n ≤ 60) : cop .ne (.list xs) (.list []) = ok (.bool (!xs.isEmpty)) := by
  show guard (shp _ && shp _) _ = _
  rw [shp_of (shN_list h) (by omega), show shp (.list []) = true from rfl]
  cases xs <;> rfl
theorem eq_nil_of {n : Nat} {xs : List D} (h : ∀ x ∈ xs, shN n x) (hn : n ≤ 60) : cop .eq (.list xs) (.list []) = ok (.bool xs.isEmpty) := by
  show guard (shp _ && shp _) _ = _
  rw [shp_of (shN_list h) (by omega), show shp (.list []) = true from rfl]
  cases xs <;> rfl
theorem ne_nil_nil : cop .ne (.list []) (.list []) = ok (.bool false) := ne_nil_of (n := 0) (by simp) (by decide)
theorem eq_nil_nil : cop .eq (.list []) (.list []) = ok (.bool true) := eq_nil_of (n := 0) (by simp) (by decide)
theorem rowsTo_pre (c : List Deed) (k : Nat) : ∀ j, ∃ rest, rowsTo c (k + j) = rowsTo c k ++ rest
  | 0 => ⟨[], by simp⟩
  | j + 1 => by
    obtain ⟨rest, e⟩ := rowsTo_pre c k j
    refine ⟨rest ++ lvl c (k + j + 1), ?_⟩
    show rowsTo c (k + j) ++ lvl c (k + j + 1) = _
    rw [e, List.append_assoc]
/-- the first row in a longer list of rows, where a short one does -/
theorem find_pre {c : List Deed} {k m : Nat} (h : k ≤ m) {p : List Deed → Bool} {r : List Deed} (hr : r ∈ rowsTo c k) (hp : p r = true) : (rowsTo c m).find? p = (rowsTo c k).find? p := by
  obtain ⟨j, rfl⟩ : ∃ j, m = k + j := ⟨m - k, by omega⟩
  obtain ⟨rest, e⟩ := rowsTo_pre c k j
  rw [e, List.find?_append]
  cases q : (rowsTo c k).find? p with
  | some a => rfl
  | none =>
    have := List.find?_eq_none.mp q r hr
    exact absurd hp this
theorem flood_get (c : List Deed) (p q : Pic) : pget q (mflood W c p) = (rowsTo c 256).find? fun r => decide (mall W p r = q) := blev_get (s := mdone W) 256 q
theorem slc_rows (R : List (List Deed)) (k : Nat) : slc none (some (k : Int)) (rowsD R) = ok (rowsD (R.take k)) := by
  show ok (PyData.list (cut (R.map rowD) none (some (k : Int)))) = _
  rw [cut_take, ← List.map_take]
  rfl
theorem cut_one {α : Type} (xs : List α) : cut xs none (some 1) = xs.take 1 := cut_first xs
theorem len_rows (R : List (List Deed)) : b1 .len (rowsD R) = ok (.int (R.length : Nat)) := by simp [rowsD]
theorem len_row (r : List Deed) : b1 .len (rowD r) = ok (.int (r.length : Nat)) := by simp [rowD]
theorem len_ch (c : List Deed) : b1 .len (chD c) = ok (.int (c.length : Nat)) := by simp [chD]
theorem list_ch (c : List Deed) : b1 .list (chD c) = ok (chD c) := rfl
theorem list_prs (P : List (Pic × Pic)) : b1 .list (prsL P) = ok (prsL P) := rfl
theorem items_rows (R : List (List Deed)) : items (rowsD R) = ok (R.map rowD) := rfl
theorem items_pics (H : List Pic) : items (picsD H) = ok (H.map picD) := rfl
theorem items_row (r : List Deed) : items (rowD r) = ok (r.map Deed.D) := rfl
theorem items_ch (c : List Deed) : items (chD c) = ok (c.map Deed.D) := rfl
/-- a loop that only looks -/
theorem forM_look {α : Type} {f : D → St → Out Fl} {i : α → D} (I : St → Prop) : ∀ {as : List α} {S : St}, I S → (∀ a ∈ as, ∀ S, I S → ∃ S', f (i a) S = ok (.nx S') ∧ I S') → ∃ S', forM f (as.map i) S = ok (.nx S') ∧ I S'
  | [], S, h, _ => ⟨S, rfl, h⟩
  | a :: as, S, h, hf => by
    obtain ⟨S1, e1, i1⟩ := hf a (List.mem_cons_self ..) S h
    obtain ⟨S2, e2, i2⟩ := forM_look I i1 fun b hb => hf b (List.mem_cons_of_mem _ hb)
    refine ⟨S2, ?_, i2⟩
    rw [List.map_cons, forM_cons, e1, seqK_nx, e2]
/-- a row of deeds of a choice, picked by numbers -/
theorem pick_row {c : List Deed} {f : Nat → Int} (h : ∀ j, 0 ≤ f j ∧ f j < (c.length : Int)) : ∃ F : Nat → Deed, ∀ j, F j ∈ c ∧ atD (c.map Deed.D) (f j) = some (F j).D := by
  have hF : ∀ j : Nat, ∃ d : Deed, d ∈ c ∧ atD (c.map Deed.D) (f j) = some d.D := fun j => by
    obtain ⟨x, hx, ex⟩ := atD_mem (l := c.map Deed.D) (h j).1 (by rw [List.length_map]; exact (h j).2)
    obtain ⟨d, hd, rfl⟩ := List.mem_map.mp hx
    exact ⟨d, hd, ex⟩
  exact Classical.axiomOfChoice hF
end FL

set_option maxRecDepth 20000
namespace FL
open PySem Out
def c_law : Fn := ⟨1, 11, (.cons (.set 1 (.call 47 (.cons (.call 10 (.cons (.var 0) (.cons (.con (.int 0)) .nil))) .nil)))
 (.cons (.set 2 (.call 11 (.cons (.var 1) (.cons (.var 0) (.cons (.con (.int 1)) (.cons (.con (.int 4)) .nil))))))
 (.cons (.set 3 (.b1 .tuple (.lc (.rng (.con (.int 3))) (.one 5) .no (.idx (.var 2) (.call 28 (.cons (.bin .add (.call 10 (.cons (.var 0) (.cons (.con (.int 4)) .nil))) (.bin .mul (.con (.int 41)) (.var 5))) (.cons (.con (.int 9949)) (.cons (.b1 .len (.var 2)) .nil))))))))
 (.cons (.set 3 (.slc (.var 3) .no (.so (.bin .mod (.call 10 (.cons (.var 0) (.cons (.con (.int 3)) .nil))) (.con (.int 4))))))
 (.cons (.setl 4 .nil)
 (.cons (.for_ (.one 5) (.rng (.bin .add (.con (.int 1)) (.bin .mod (.call 10 (.cons (.var 0) (.cons (.con (.int 5)) .nil))) (.con (.int 6)))))
 (.cons (.set 9 (.call 41 (.cons (.var 1) (.cons (.call 38 (.cons (.bin .add (.call 10 (.cons (.var 0) (.cons (.con (.int 6)) .nil))) (.bin .mul (.con (.int 41)) (.var 5))) (.cons (.var 5) .nil))) .nil))))
 (.cons (.app 4 (.tup (.cons (.var 9) (.cons (.call 49 (.cons (.var 1) (.cons (.var 3) (.cons (.var 9) .nil)))) .nil))))
 .nil)))
 (.cons (.set 6 (.call 65 (.cons (.var 1) (.cons (.b1 .list (.var 2)) (.cons (.b1 .list (.pk 4)) (.cons (.con (.int 3)) .nil))))))
 (.cons (.iff (.bool false (.cons (.cmp .nin (.var 3) (.var 6)) (.cons (.cmp .ne (.call 62 (.cons (.var 1) (.cons (.b1 .list (.var 2)) (.cons (.b1 .list (.pk 4)) .nil)))) (.idx (.var 6) (.con (.int 0)))) .nil)))
 (.cons (.ret (.con (.bool false)))
 .nil)
 .nil)
 (.cons (.for_ (.one 7) (.seq (.slc (.var 6) .no (.so (.con (.int 9)))))
 (.cons (.frz 4)
 (.cons (.iff (.cmp .ne (.lc (.seq (.var 4)) (.two 9 10) (.so (.cmp .ne (.call 49 (.cons (.var 1) (.cons (.var 7) (.cons (.var 9) .nil)))) (.var 10))) (.con (.int 1))) (.lst .nil))
 (.cons (.ret (.con (.bool false)))
 .nil)
 .nil)
 .nil)))
 (.cons (.iff (.cmp .ne (.call 65 (.cons (.var 1) (.cons (.b1 .list (.var 2)) (.cons (.rev (.pk 4)) (.cons (.con (.int 3)) .nil))))) (.var 6))
 (.cons (.ret (.con (.bool false)))
 .nil)
 .nil)
 (.cons (.set 8 (.call 65 (.cons (.var 1) (.cons (.b1 .list (.var 2)) (.cons (.slc (.pk 4) (.so (.con (.int 1))) .no) (.cons (.con (.int 3)) .nil))))))
 (.cons (.iff (.cmp .ne (.lc (.seq (.var 6)) (.one 7) (.so (.cmp .nin (.var 7) (.var 8))) (.var 7)) (.lst .nil))
 (.cons (.ret (.con (.bool false)))
 .nil)
 .nil)
 (.cons (.iff (.cmp .ne (.b1 .len (.call 65 (.cons (.var 1) (.cons (.b1 .list (.var 2)) (.cons (.lst .nil) (.cons (.con (.int 2)) .nil)))))) (.bin .add (.bin .add (.con (.int 1)) (.b1 .len (.var 2))) (.bin .pow (.b1 .len (.var 2)) (.con (.int 2)))))
 (.cons (.ret (.con (.bool false)))
 .nil)
 .nil)
 (.cons (.iff (.cmp .ne (.call 65 (.cons (.var 1) (.cons (.b1 .list (.var 2)) (.cons (.b1 .list (.pk 4)) (.cons (.con (.int 2)) .nil))))) (.lc (.seq (.var 6)) (.one 7) (.so (.cmp .lt (.b1 .len (.var 7)) (.con (.int 3)))) (.var 7)))
 (.cons (.ret (.con (.bool false)))
 .nil)
 .nil)
 (.cons (.for_ (.one 7) (.seq (.slc (.call 65 (.cons (.var 1) (.cons (.b1 .list (.var 2)) (.cons (.lst .nil) (.cons (.con (.int 2)) .nil))))) .no (.so (.con (.int 9)))))
 (.cons (.iff (.bool true (.cons (.cmp .nin (.var 7) (.var 6)) (.cons (.call 51 (.cons (.var 1) (.cons (.var 7) (.cons (.var 3) .nil)))) .nil)))
 (.cons (.ret (.con (.bool false)))
 .nil)
 .nil)
 .nil))
 (.cons (.unp (.two 9 10) (.idx (.pk 4) (.con (.int 0))))
 (.cons (.ret (.cmp .eq (.call 62 (.cons (.var 1) (.cons (.b1 .list (.var 2)) (.cons (.slc (.pk 4) .no (.so (.con (.int 1)))) .nil)))) (.call 116 (.cons (.var 1) (.cons (.b1 .list (.var 2)) (.cons (.var 9) (.cons (.var 10) .nil)))))))
 .nil)))))))))))))))))⟩
def st_0 : CS := (.set 1 (.call 47 (.cons (.call 10 (.cons (.var 0) (.cons (.con (.int 0)) .nil))) .nil)))
def st_1 : CS := (.set 2 (.call 11 (.cons (.var 1) (.cons (.var 0) (.cons (.con (.int 1)) (.cons (.con (.int 4)) .nil))))))
def st_2 : CS := (.set 3 (.b1 .tuple (.lc (.rng (.con (.int 3))) (.one 5) .no (.idx (.var 2) (.call 28 (.cons (.bin .add (.call 10 (.cons (.var 0) (.cons (.con (.int 4)) .nil))) (.bin .mul (.con (.int 41)) (.var 5))) (.cons (.con (.int 9949)) (.cons (.b1 .len (.var 2)) .nil))))))))
def st_3 : CS := (.set 3 (.slc (.var 3) .no (.so (.bin .mod (.call 10 (.cons (.var 0) (.cons (.con (.int 3)) .nil))) (.con (.int 4))))))
def st_4 : CS := (.setl 4 .nil)
def st_5_0 : CS := (.set 9 (.call 41 (.cons (.var 1) (.cons (.call 38 (.cons (.bin .add (.call 10 (.cons (.var 0) (.cons (.con (.int 6)) .nil))) (.bin .mul (.con (.int 41)) (.var 5))) (.cons (.var 5) .nil))) .nil))))
def st_5_1 : CS := (.app 4 (.tup (.cons (.var 9) (.cons (.call 49 (.cons (.var 1) (.cons (.var 3) (.cons (.var 9) .nil)))) .nil))))
def bd_5 : CSs := (.cons st_5_0 (.cons st_5_1 .nil))
def st_5 : CS := (.for_ (.one 5) (.rng (.bin .add (.con (.int 1)) (.bin .mod (.call 10 (.cons (.var 0) (.cons (.con (.int 5)) .nil))) (.con (.int 6))))) bd_5)
def st_6 : CS := (.set 6 (.call 65 (.cons (.var 1) (.cons (.b1 .list (.var 2)) (.cons (.b1 .list (.pk 4)) (.cons (.con (.int 3)) .nil))))))
def st_7 : CS := (.iff (.bool false (.cons (.cmp .nin (.var 3) (.var 6)) (.cons (.cmp .ne (.call 62 (.cons (.var 1) (.cons (.b1 .list (.var 2)) (.cons (.b1 .list (.pk 4)) .nil)))) (.idx (.var 6) (.con (.int 0)))) .nil))) (.cons (.ret (.con (.bool false))) .nil) .nil)
def st_8_0 : CS := (.frz 4)
def st_8_1 : CS := (.iff (.cmp .ne (.lc (.seq (.var 4)) (.two 9 10) (.so (.cmp .ne (.call 49 (.cons (.var 1) (.cons (.var 7) (.cons (.var 9) .nil)))) (.var 10))) (.con (.int 1))) (.lst .nil)) (.cons (.ret (.con (.bool false))) .nil) .nil)
def bd_8 : CSs := (.cons st_8_0 (.cons st_8_1 .nil))
def st_8 : CS := (.for_ (.one 7) (.seq (.slc (.var 6) .no (.so (.con (.int 9))))) bd_8)
def st_9 : CS := (.iff (.cmp .ne (.call 65 (.cons (.var 1) (.cons (.b1 .list (.var 2)) (.cons (.rev (.pk 4)) (.cons (.con (.int 3)) .nil))))) (.var 6)) (.cons (.ret (.con (.bool false))) .nil) .nil)
def st_10 : CS := (.set 8 (.call 65 (.cons (.var 1) (.cons (.b1 .list (.var 2)) (.cons (.slc (.pk 4) (.so (.con (.int 1))) .no) (.cons (.con (.int 3)) .nil))))))
def st_11 : CS := (.iff (.cmp .ne (.lc (.seq (.var 6)) (.one 7) (.so (.cmp .nin (.var 7) (.var 8))) (.var 7)) (.lst .nil)) (.cons (.ret (.con (.bool false))) .nil) .nil)
def st_12 : CS := (.iff (.cmp .ne (.b1 .len (.call 65 (.cons (.var 1) (.cons (.b1 .list (.var 2)) (.cons (.lst .nil) (.cons (.con (.int 2)) .nil)))))) (.bin .add (.bin .add (.con (.int 1)) (.b1 .len (.var 2))) (.bin .pow (.b1 .len (.var 2)) (.con (.int 2))))) (.cons (.ret (.con (.bool false))) .nil) .nil)
def st_13 : CS := (.iff (.cmp .ne (.call 65 (.cons (.var 1) (.cons (.b1 .list (.var 2)) (.cons (.b1 .list (.pk 4)) (.cons (.con (.int 2)) .nil))))) (.lc (.seq (.var 6)) (.one 7) (.so (.cmp .lt (.b1 .len (.var 7)) (.con (.int 3)))) (.var 7))) (.cons (.ret (.con (.bool false))) .nil) .nil)
def st_14_0 : CS := (.iff (.bool true (.cons (.cmp .nin (.var 7) (.var 6)) (.cons (.call 51 (.cons (.var 1) (.cons (.var 7) (.cons (.var 3) .nil)))) .nil))) (.cons (.ret (.con (.bool false))) .nil) .nil)
def bd_14 : CSs := (.cons st_14_0 .nil)
def st_14 : CS := (.for_ (.one 7) (.seq (.slc (.call 65 (.cons (.var 1) (.cons (.b1 .list (.var 2)) (.cons (.lst .nil) (.cons (.con (.int 2)) .nil))))) .no (.so (.con (.int 9))))) bd_14)
def st_15 : CS := (.unp (.two 9 10) (.idx (.pk 4) (.con (.int 0))))
def st_16 : CS := (.ret (.cmp .eq (.call 62 (.cons (.var 1) (.cons (.b1 .list (.var 2)) (.cons (.slc (.pk 4) .no (.so (.con (.int 1)))) .nil)))) (.call 116 (.cons (.var 1) (.cons (.b1 .list (.var 2)) (.cons (.var 9) (.cons (.var 10) .nil)))))))
theorem law_body : c_law.body = (.cons st_0 (.cons st_1 (.cons st_2 (.cons st_3 (.cons st_4 (.cons st_5 (.cons st_6 (.cons st_7 (.cons st_8 (.cons st_9 (.cons st_10 (.cons st_11 (.cons st_12 (.cons st_13 (.cons st_14 (.cons st_15 (.cons st_16 .nil))))))))))))))))) := rfl
def lawLev : Nat := 14
def lawWf : Nat := 1000
def lS (ns : List Int) (W : Wd) (c : List Deed) (r : List Deed) (p4 x5 x6 x7 x8 x9 x10 : Sl) : St := [.fz (scr ns), .fz W.D, .fz (chD c), .fz (rowD r), p4, x5, x6, x7, x8, x9, x10]
structure Hk (ns : List Int) (W : Wd) (c : List Deed) (PF : Int → Pic) (Φ : Nat → List D → Out D) : Prop where
  f0 : ∀ k : Int, 0 ≤ k → Φ 10 [scr ns, .int k] = ok (.int (cel ns k))
  f1 : Φ 47 [.int (cel ns 0)] = ok W.D
  f2 : Φ 11 [W.D, scr ns, .int 1, .int 4] = ok (chD c)
  f3 : ∀ x m : Int, 0 < m → Φ 28 [.int x, .int 9949, .int m] = ok (.int ((x * 48271 % 9949) ^ 3 % 9949 % m))
  f4 : ∀ s k, Φ 38 [.int s, .int k] = ok (.int (sd s k))
  f5 : ∀ s, PicOk W (PF s) ∧ Φ 41 [W.D, .int s] = ok (picD (PF s))
  f6 : ∀ p : Pic, PicOk W p → ∀ r, RowOk W r → r.length ≤ 6 → Φ 49 [W.D, rowD r, picD p] = ok (picD (mall W p r))
  f8 : ∀ P, PrsOk W P → P.length ≤ 6 → ∀ k : Nat, k ≤ 3 → Φ 65 [W.D, chD c, prsL P, .int (k : Nat)] = ok (rowsD (mfit W c P k))
  f9 : ∀ P, PrsOk W P → P.length ≤ 6 → Φ 62 [W.D, chD c, prsL P] = ok (optR (mfit W c P 3).head?)
  f10 : ∀ r s, RowOk W r → RowOk W s → r.length ≤ 6 → s.length ≤ 6 → Φ 51 [W.D, rowD r, rowD s] = ok (.bool (mparted W r s).isNone)
  f11 : ∀ p q, PicOk W p → PicOk W q → Φ 116 [W.D, chD c, picD p, picD q] = ok (optR (pget q (mflood W c p)))
variable {ns : List Int} {W : Wd} {c : List Deed} {PF : Int → Pic} {Φ : Nat → List D → Out D}
theorem k_pairs (h : Hk ns W c PF Φ) (hW : W.Ok) {r : List Deed} (hr : RowOk W r) (lr : r.length ≤ 6) {N : Nat} (hN : N ≤ 6) : ∃ P x5 x9, PrsOk W P ∧ P.length = N ∧ mfits W P r = true ∧ forM (forF Φ lawWf (.one 5) bd_5) ((List.range N).map fun k : Nat => PyData.int k) (lS ns W c r (.ow (.list [])) .no .no .no .no .no .no) = ok (.nx (lS ns W c r (.ow (prsL P)) x5 .no .no .no x9 .no)) := by
  let g : Nat → Pic × Pic := fun k => (PF (sd (cel ns 6 + 41 * k) k), mall W (PF (sd (cel ns 6 + 41 * k) k)) r)
  obtain ⟨S', e, x6, x9, eS⟩ := forM_invI (f := forF Φ lawWf (.one 5) bd_5) (i := fun k : Nat => PyData.int k) (as := List.range N) (S := lS ns W c r (.ow (.list [])) .no .no .no .no .no .no) (fun pre S => ∃ x6 x9, S = lS ns W c r (.ow (prsL (pre.map g))) x6 .no .no .no x9 .no) ⟨_, _, rfl⟩ (by
    rintro pre j post S er ⟨x6, x9, rfl⟩
    have hl : fits pre.length = true := fits_of (by
      have := congrArg List.length er
      simp at this
      omega)
    have f2 : fits 2 = true := rfl
    have hmu : mulOk 41 (j : Int) = true := mulOk_smallL (by decide) (by decide)
    have a0 := h.f0 6 (by decide)
    have a1 := h.f5 (sd (cel ns 6 + 41 * j) j)
    have a2 := h.f6 _ a1.1 r hr lr
    refine ⟨lS ns W c r (.ow (prsL ((pre ++ [j]).map g))) (.fz (.int j)) .no .no .no (.fz (picD (g j).1)) .no, ?_, ⟨_, _, rfl⟩⟩
    simp only [lS, prsL]
    simp [forF, bd_5, st_5_0, st_5_1, a0, h.f4, hmu, a1.2, a2, hl, f2, g, prD, Function.comp_def])
  refine ⟨(List.range N).map g, x6, x9, fun q hq => ?_, by simp, ?_, by rw [e, eS]⟩
  · obtain ⟨j, _, rfl⟩ := List.mem_map.mp hq
    exact ⟨(h.f5 _).1, mall_ok hW (h.f5 _).1 hr⟩
  · unfold mfits
    rw [List.all_eq_true]
    intro q hq
    obtain ⟨j, _, rfl⟩ := List.mem_map.mp hq
    simp [g]
theorem fit_mem {P : List (Pic × Pic)} {k : Nat} {o : List Deed} : o ∈ mfit W c P k ↔ o ∈ rowsTo c k ∧ mfits W P o = true := List.mem_filter
theorem fits_rev (P : List (Pic × Pic)) (o : List Deed) : mfits W P.reverse o = mfits W P o := by
  unfold mfits
  rw [List.all_reverse]
theorem fits_tail {P : List (Pic × Pic)} {o : List Deed} (h : mfits W P o = true) : mfits W P.tail o = true := by
  unfold mfits at *
  rw [List.all_eq_true] at *
  exact fun q hq => h q (List.mem_of_mem_tail hq)
theorem fit_nil (k : Nat) : mfit W c [] k = rowsTo c k := by
  unfold mfit
  rw [List.filter_eq_self]
  intro r _
  rfl
theorem size2 (c : List Deed) : ((rowsTo c 2).length : Int) = 1 + c.length + (c.length : Int) ^ 2 := by
  have : (rowsTo c 2).length = 1 + c.length + c.length ^ 2 := by
    show (([[]] ++ lvl c 1) ++ lvl c 2).length = _
    rw [List.length_append, List.length_append, lvl_size, lvl_size]
    simp
  rw [this]
  simp
theorem fit_lt (P : List (Pic × Pic)) : (mfit W c P 3).filter (fun r => decide ((r.length : Int) < 3)) = mfit W c P 2 := by
  unfold mfit
  rw [List.filter_filter, ← rowsTo_filter c 3 2 (by decide), List.filter_filter]
  refine List.filter_congr fun r _ => ?_
  have : decide ((r.length : Int) < 3) = decide (r.length ≤ 2) := by
    by_cases h : r.length ≤ 2
    · have : (r.length : Int) < 3 := by omega
      simp [h, this]
    · have : ¬ (r.length : Int) < 3 := by omega
      simp [h, this]
  rw [this, Bool.and_comm]
theorem alike_fits (hW : W.Ok) {P : List (Pic × Pic)} (hP : PrsOk W P) {o r : List Deed} (h : (mparted W o r).isNone = true) (hr : mfits W P r = true) : mfits W P o = true := by
  have h := mparted_none.mp (Option.isNone_iff_eq_none.mp h)
  unfold mfits at *
  rw [List.all_eq_true] at *
  intro q hq
  have e1 := h q.1 (in_every.mpr (hP q hq).1)
  have e2 := of_decide_eq_true (hr q hq)
  exact decide_eq_true (e1.trans e2)
theorem head_find {P : Pic × Pic} : (mfit W c [P] 3).head? = (rowsTo c 3).find? fun r => decide (mall W P.1 r = P.2) := by
  unfold mfit
  rw [List.head?_filter]
  congr
  funext r
  simp [mfits]
/-- what holds of the slot of the pairs -/
def GotL (P : List (Pic × Pic)) (p4 : Sl) : Prop := p4 = .ow (prsL P) ∨ p4 = .fz (prsL P)
theorem GotL.get {P : List (Pic × Pic)} {p4 : Sl} (h : GotL P p4) (S : St) : getP (p4 :: S) 0 = ok (prsL P) := by rcases h with rfl | rfl <;> rfl
theorem k_mid (h : Hk ns W c PF Φ) (hW : W.Ok) (hc : ChOk W c) {r : List Deed} (hr : r ∈ rowsTo c 3) {P : List (Pic × Pic)} (hP : PrsOk W P) (h1 : 1 ≤ P.length) (h6 : P.length ≤ 6) (hf : mfits W P r = true) (x5 x9 : Sl) :
    evSs Φ lawWf (.cons st_6 (.cons st_7 (.cons st_8 (.cons st_9 (.cons st_10 (.cons st_11 (.cons st_12 (.cons st_13 (.cons st_14 (.cons st_15 (.cons st_16 .nil))))))))))) (lS ns W c r (.ow (prsL P)) x5 .no .no .no x9 .no) = ok (.rt (.bool true)) := by
  have rok : RowOk W r := hc.row hr
  have rl : r.length ≤ 3 := (rowsTo_mem.mp hr).1
  have hin : r ∈ mfit W c P 3 := fit_mem.mpr ⟨hr, hf⟩
  have g3 := h.f8 P hP h6 3 (by decide)
  have g3' : Φ 65 [W.D, chD c, prsL P, .int 3] = ok (rowsD (mfit W c P 3)) := g3
  have f0 : fits 0 = true := rfl
  -- some
  have e6 : evS Φ lawWf st_6 (lS ns W c r (.ow (prsL P)) x5 .no .no .no x9 .no) = ok (.nx (lS ns W c r (.ow (prsL P)) x5 (.fz (rowsD (mfit W c P 3))) .no .no x9 .no)) := by
    simp [st_6, lS, g3', list_ch, list_prs]
  obtain ⟨o, os, eo⟩ : ∃ o os, mfit W c P 3 = o :: os := by
    cases q : mfit W c P 3 with
    | nil =>
      rw [q] at hin
      cases hin
    | cons o os => exact ⟨o, os, rfl⟩
  have e7 : evS Φ lawWf st_7 (lS ns W c r (.ow (prsL P)) x5 (.fz (rowsD (mfit W c P 3))) .no .no x9 .no) = ok (.nx (lS ns W c r (.ow (prsL P)) x5 (.fz (rowsD (mfit W c P 3))) .no .no x9 .no)) := by
    have n1 := nin_rows r (mfit W c P 3)
    have n2 := h.f9 P hP h6
    have n3 := ne_self (shN_row o) (by decide)
    have n4 : idx (rowsD (mfit W c P 3)) (.int 0) = ok (rowD o) := by
      rw [eo]
      simp [rowsD]
    rw [eo] at n2
    have n2 : Φ 62 [W.D, chD c, prsL P] = ok (rowD o) := n2
    simp [st_7, lS, n1, hin, n2, n3, n4, list_ch, list_prs]
  -- each that fits makes the pairs
  obtain ⟨S8, e8, p4, x7, hp4, eS8⟩ := forM_look (f := forF Φ lawWf (.one 7) bd_8) (i := rowD) (as := (mfit W c P 3).take 9) (S := lS ns W c r (.ow (prsL P)) x5 (.fz (rowsD (mfit W c P 3))) .no .no x9 .no) (fun S => ∃ p4 x7, GotL P p4 ∧ S = lS ns W c r p4 x5 (.fz (rowsD (mfit W c P 3))) x7 .no x9 .no) ⟨_, _, .inl rfl, rfl⟩ (by
    rintro o ho S ⟨p4, x7, hp4, rfl⟩
    have ho := fit_mem.mp (List.mem_of_mem_take ho)
    have ook : RowOk W o := hc.row ho.1
    have ol : o.length ≤ 6 := by have := (rowsTo_mem.mp ho.1).1; omega
    have e1 : lcM (lcF Φ (.two 9 10) (.so (.cmp .ne (.call 49 (.cons (.var 1) (.cons (.var 7) (.cons (.var 9) .nil)))) (.var 10))) (.con (.int 1)) (lS ns W c r (.fz (prsL P)) x5 (.fz (rowsD (mfit W c P 3))) (.fz (rowD o)) .no x9 .no)) (P.map prD) = ok [] := lcM_none (by
      intro x hx
      obtain ⟨q, hq, rfl⟩ := List.mem_map.mp hx
      have h1 := h.f6 q.1 (hP q hq).1 o ook ol
      have h2 : mall W q.1 o = q.2 := of_decide_eq_true (List.all_eq_true.mp ho.2 q hq)
      have h3 : cop .ne (picD (mall W q.1 o)) (picD q.2) = ok (.bool (!decide (mall W q.1 o = q.2))) := cop_neP _ _
      rw [h2] at h1 h3
      simp only [lS, lcF, prD, bindT_two, List.set_cons_succ, List.set_cons_zero, bind_ok, evt_so, ev_cmp, ev_call, evs_cons, evs_nil, ev_var, getF_succ, getF_zero, h1, h3]
      simp)
    refine ⟨lS ns W c r (.fz (prsL P)) x5 (.fz (rowsD (mfit W c P 3))) (.fz (rowD o)) .no x9 .no, ?_, ⟨_, _, .inr rfl, rfl⟩⟩
    simp only [lS, prsL] at e1 ⊢
    rcases hp4 with rfl | rfl
    · simp [forF, bd_8, st_8_0, st_8_1, frzK, prsL, e1, f0, ne_nil_nil]
    · simp [forF, bd_8, st_8_0, st_8_1, frzK, prsL, e1, f0, ne_nil_nil])
  have e8' : evS Φ lawWf st_8 (lS ns W c r (.ow (prsL P)) x5 (.fz (rowsD (mfit W c P 3))) .no .no x9 .no) = ok (.nx (lS ns W c r p4 x5 (.fz (rowsD (mfit W c P 3))) x7 .no x9 .no)) := by
    have s9 : slc none (some 9) (rowsD (mfit W c P 3)) = ok (rowsD ((mfit W c P 3).take 9)) := slc_rows (mfit W c P 3) 9
    rw [eS8] at e8
    simp only [lS] at e8 ⊢
    simp [st_8, s9, items_rows]
    rw [← List.map_take]
    exact e8
  have get4 := hp4.get
  -- the other way about
  have e9 : evS Φ lawWf st_9 (lS ns W c r p4 x5 (.fz (rowsD (mfit W c P 3))) x7 .no x9 .no) = ok (.nx (lS ns W c r p4 x5 (.fz (rowsD (mfit W c P 3))) x7 .no x9 .no)) := by
    have a1 : Φ 65 [W.D, chD c, prsL P.reverse, .int 3] = ok (rowsD (mfit W c P.reverse 3)) := h.f8 P.reverse (fun q hq => hP q (List.mem_reverse.mp hq)) (by simpa using h6) 3 (by decide)
    have a2 : mfit W c P.reverse 3 = mfit W c P 3 := by
      unfold mfit
      exact List.filter_congr fun o _ => fits_rev P o
    rw [a2] at a1
    have a3 := ne_rows (mfit W c P 3) (mfit W c P 3)
    have a4 : revD (prsL P) = ok (prsL P.reverse) := by
      show ok (PyData.list (P.map prD).reverse) = _
      rw [← List.map_reverse]
      rfl
    simp [st_9, lS, get4, a4, a1, a3, list_ch]
  have tok : PrsOk W P.tail := fun q hq => hP q (List.mem_of_mem_tail hq)
  have e10 : evS Φ lawWf st_10 (lS ns W c r p4 x5 (.fz (rowsD (mfit W c P 3))) x7 .no x9 .no) = ok (.nx (lS ns W c r p4 x5 (.fz (rowsD (mfit W c P 3))) x7 (.fz (rowsD (mfit W c P.tail 3))) x9 .no)) := by
    have a1 : Φ 65 [W.D, chD c, prsL P.tail, .int 3] = ok (rowsD (mfit W c P.tail 3)) := h.f8 P.tail tok (by simp; omega) 3 (by decide)
    have a4 : slc (some 1) none (prsL P) = ok (prsL P.tail) := by
      show ok (PyData.list (cut (P.map prD) (some 1) none)) = _
      rw [cut_tail, ← List.map_tail]
      rfl
    simp [st_10, lS, get4, a4, a1, list_ch]
  have e11 : evS Φ lawWf st_11 (lS ns W c r p4 x5 (.fz (rowsD (mfit W c P 3))) x7 (.fz (rowsD (mfit W c P.tail 3))) x9 .no) = ok (.nx (lS ns W c r p4 x5 (.fz (rowsD (mfit W c P 3))) x7 (.fz (rowsD (mfit W c P.tail 3))) x9 .no)) := by
    have e1 : lcM (lcF Φ (.one 7) (.so (.cmp .nin (.var 7) (.var 8))) (.var 7) (lS ns W c r p4 x5 (.fz (rowsD (mfit W c P 3))) x7 (.fz (rowsD (mfit W c P.tail 3))) x9 .no)) ((mfit W c P 3).map rowD) = ok [] := lcM_none (by
      intro x hx
      obtain ⟨o, ho, rfl⟩ := List.mem_map.mp hx
      have ho := fit_mem.mp ho
      have : o ∈ mfit W c P.tail 3 := fit_mem.mpr ⟨ho.1, fits_tail ho.2⟩
      simp [lcF, lS, nin_rows, this])
    simp only [lS] at e1 ⊢
    simp [st_11, items_rows, e1, f0, ne_nil_nil]
  have gn := h.f8 [] (by simp [PrsOk]) (by simp) 2 (by decide)
  rw [fit_nil] at gn
  have gn' : Φ 65 [W.D, chD c, .list [], .int 2] = ok (rowsD (rowsTo c 2)) := gn
  have e12 : evS Φ lawWf st_12 (lS ns W c r p4 x5 (.fz (rowsD (mfit W c P 3))) x7 (.fz (rowsD (mfit W c P.tail 3))) x9 .no) = ok (.nx (lS ns W c r p4 x5 (.fz (rowsD (mfit W c P 3))) x7 (.fz (rowsD (mfit W c P.tail 3))) x9 .no)) := by
    have s2 := size2 c
    have hl := hc.five
    have hp : decide ((0 : Int) ≤ 2 ∧ (2 : Int) ≤ 1000000 ∧ (c.length : Int).natAbs < 2 ^ 64) = true := by
      refine decide_eq_true ⟨by decide, by decide, ?_⟩
      rw [Int.natAbs_natCast]
      omega
    simp only [st_12, lS]
    rw [evS_iff]
    have e1 : ev Φ (.cmp .ne (.b1 .len (.call 65 (.cons (.var 1) (.cons (.b1 .list (.var 2)) (.cons (.lst .nil) (.cons (.con (.int 2)) .nil)))))) (.bin .add (.bin .add (.con (.int 1)) (.b1 .len (.var 2))) (.bin .pow (.b1 .len (.var 2)) (.con (.int 2))))) [.fz (scr ns), .fz W.D, .fz (chD c), .fz (rowD r), p4, x5, .fz (rowsD (mfit W c P 3)), x7, .fz (rowsD (mfit W c P.tail 3)), x9, .no] = ok (.bool false) := by
      simp only [ev_cmp, ev_b1, ev_call, evs_cons, ev_var, getF_succ, getF_zero, bind_ok, list_ch, ev_lst, evs_nil, List.length_nil, f0, guard_true, ev_con, gn', len_rows, ev_bin, len_ch, bop_add, bop_pow, hp, cop_neI]
      rw [show (2 : Int).toNat = 2 from rfl, s2]
      simp
    rw [e1]
    simp
  have e13 : evS Φ lawWf st_13 (lS ns W c r p4 x5 (.fz (rowsD (mfit W c P 3))) x7 (.fz (rowsD (mfit W c P.tail 3))) x9 .no) = ok (.nx (lS ns W c r p4 x5 (.fz (rowsD (mfit W c P 3))) x7 (.fz (rowsD (mfit W c P.tail 3))) x9 .no)) := by
    have a1 : Φ 65 [W.D, chD c, prsL P, .int 2] = ok (rowsD (mfit W c P 2)) := h.f8 P hP h6 2 (by decide)
    have e1 := lcM_filterI (f := lcF Φ (.one 7) (.so (.cmp .lt (.b1 .len (.var 7)) (.con (.int 3)))) (.var 7) (lS ns W c r p4 x5 (.fz (rowsD (mfit W c P 3))) x7 (.fz (rowsD (mfit W c P.tail 3))) x9 .no)) (i := rowD) (g := rowD) (p := fun r => decide ((r.length : Int) < 3)) (as := mfit W c P 3) (by
      intro q hq
      by_cases g : (q.length : Int) < 3 <;> simp [lcF, lS, len_row, g])
    rw [fit_lt] at e1
    have a3 := ne_rows (mfit W c P 2) (mfit W c P 2)
    simp only [lS, rowsD] at e1 a1 a3 ⊢
    simp [st_13, get4, list_prs, list_ch, a1, e1, a3]
  obtain ⟨S14, e14, x7', eS14⟩ := forM_look (f := forF Φ lawWf (.one 7) bd_14) (i := rowD) (as := (rowsTo c 2).take 9) (S := lS ns W c r p4 x5 (.fz (rowsD (mfit W c P 3))) x7 (.fz (rowsD (mfit W c P.tail 3))) x9 .no) (fun S => ∃ x7, S = lS ns W c r p4 x5 (.fz (rowsD (mfit W c P 3))) x7 (.fz (rowsD (mfit W c P.tail 3))) x9 .no) ⟨_, rfl⟩ (by
    rintro o ho S ⟨x7, rfl⟩
    have ho := List.mem_of_mem_take ho
    have ol := (rowsTo_mem.mp ho)
    have ho3 : o ∈ rowsTo c 3 := rowsTo_mem.mpr ⟨by omega, ol.2⟩
    have al := h.f10 o r (hc.row ho) rok (by omega) (by omega)
    refine ⟨lS ns W c r p4 x5 (.fz (rowsD (mfit W c P 3))) (.fz (rowD o)) (.fz (rowsD (mfit W c P.tail 3))) x9 .no, ?_, ⟨_, rfl⟩⟩
    by_cases hm : o ∈ mfit W c P 3
    · simp [forF, bd_14, st_14_0, lS, nin_rows, hm]
    · have : (mparted W o r).isNone = false := by
        cases q : (mparted W o r).isNone with
        | false => rfl
        | true => exact absurd (fit_mem.mpr ⟨ho3, alike_fits hW hP q hf⟩) hm
      rw [this] at al
      simp [forF, bd_14, st_14_0, lS, nin_rows, hm, al])
  have e14' : evS Φ lawWf st_14 (lS ns W c r p4 x5 (.fz (rowsD (mfit W c P 3))) x7 (.fz (rowsD (mfit W c P.tail 3))) x9 .no) = ok (.nx (lS ns W c r p4 x5 (.fz (rowsD (mfit W c P 3))) x7' (.fz (rowsD (mfit W c P.tail 3))) x9 .no)) := by
    have s9 : slc none (some 9) (rowsD (rowsTo c 2)) = ok (rowsD ((rowsTo c 2).take 9)) := slc_rows (rowsTo c 2) 9
    rw [eS14] at e14
    simp only [lS] at e14 ⊢
    simp [st_14, list_ch, f0, gn', s9, items_rows]
    rw [← List.map_take]
    exact e14
  obtain ⟨q, qs, rfl⟩ : ∃ q qs, P = q :: qs := by
    cases P with
    | nil => simp at h1
    | cons q qs => exact ⟨q, qs, rfl⟩
  have hq := hP q (List.mem_cons_self ..)
  have e15 : evS Φ lawWf st_15 (lS ns W c r p4 x5 (.fz (rowsD (mfit W c (q :: qs) 3))) x7' (.fz (rowsD (mfit W c (q :: qs).tail 3))) x9 .no) = ok (.nx (lS ns W c r p4 x5 (.fz (rowsD (mfit W c (q :: qs) 3))) x7' (.fz (rowsD (mfit W c (q :: qs).tail 3))) (.fz (picD q.1)) (.fz (picD q.2)))) := by
    have a1 : idx (prsL (q :: qs)) (.int 0) = ok (prD q) := by simp [prsL]
    simp [st_15, lS, get4, a1]
    simp [prD]
  have e16 : evS Φ lawWf st_16 (lS ns W c r p4 x5 (.fz (rowsD (mfit W c (q :: qs) 3))) x7' (.fz (rowsD (mfit W c (q :: qs).tail 3))) (.fz (picD q.1)) (.fz (picD q.2))) = ok (.rt (.bool true)) := by
    have a1 : slc none (some 1) (prsL (q :: qs)) = ok (prsL [q]) := by
      show ok (PyData.list (cut ((q :: qs).map prD) none (some 1))) = _
      rw [cut_first]
      rfl
    have a2 := h.f9 [q] (fun q' hq' => by rw [List.mem_singleton.mp hq']; exact hq) (by simp)
    have a3 := h.f11 q.1 q.2 hq.1 hq.2
    have e1 : mall W q.1 r = q.2 := of_decide_eq_true (List.all_eq_true.mp hf q (List.mem_cons_self ..))
    rw [flood_get, find_pre (k := 3) (m := 256) (by decide) hr (decide_eq_true e1)] at a3
    rw [head_find] at a2
    have a4 := eq_self (shN_optR ((rowsTo c 3).find? fun r => decide (mall W q.1 r = q.2))) (by decide)
    simp [st_16, lS, get4, a1, a2, a3, a4, list_ch]
  rw [evSs_cons, e6, seqK_nx, evSs_cons, e7, seqK_nx, evSs_cons, e8', seqK_nx, evSs_cons, e9, seqK_nx, evSs_cons, e10, seqK_nx, evSs_cons, e11, seqK_nx, evSs_cons, e12, seqK_nx, evSs_cons, e13, seqK_nx, evSs_cons, e14', seqK_nx, evSs_cons, e15, seqK_nx, evSs_cons, e16]
  rfl
theorem k_core (h : Hk ns W c PF Φ) (hW : W.Ok) (hc : ChOk W c) : endK (evSs Φ lawWf c_law.body (startS c_law.nn [scr ns])) = ok (.bool true) := by
  have hpos : 0 < (c.length : Int) := by have := hc.one; omega
  obtain ⟨k, hk⟩ : ∃ k : Nat, cel ns 3 % 4 = (k : Int) := ⟨(cel ns 3 % 4).toNat, by omega⟩
  obtain ⟨N, hN⟩ : ∃ N : Nat, 1 + cel ns 5 % 6 = (N : Int) := ⟨(1 + cel ns 5 % 6).toNat, by omega⟩
  have hN1 : 1 ≤ N := by omega
  have hN6 : N ≤ 6 := by omega
  obtain ⟨F, hF⟩ := pick_row (c := c) (f := fun j => ((cel ns 4 + 41 * (j : Int)) * 48271 % 9949) ^ 3 % 9949 % (c.length : Int)) fun j => ⟨Int.emod_nonneg _ (by omega), Int.emod_lt_of_pos _ hpos⟩
  have hr : ((List.range 3).map F).take k ∈ rowsTo c 3 := rowsTo_mem.mpr ⟨by simp; omega, fun d hd => by
    obtain ⟨j, _, rfl⟩ := List.mem_map.mp (List.mem_of_mem_take hd)
    exact (hF j).1⟩
  have rl := (rowsTo_mem.mp hr).1
  obtain ⟨P, x5, x9, hP, hPl, hf, e1⟩ := k_pairs h hW (hc.row hr) (by omega) hN6
  have e2 := k_mid h hW hc hr hP (by omega) (by omega) hf x5 x9
  have erow := lcM_mapI (f := lcF Φ (.one 5) .no (.idx (.var 2) (.call 28 (.cons (.bin .add (.call 10 (.cons (.var 0) (.cons (.con (.int 4)) .nil))) (.bin .mul (.con (.int 41)) (.var 5))) (.cons (.con (.int 9949)) (.cons (.b1 .len (.var 2)) .nil))))) [.fz (scr ns), .fz W.D, .fz (chD c), .no, .no, .no, .no, .no, .no, .no, .no]) (i := fun k : Nat => PyData.int k) (g := fun j => (F j).D) (as := List.range 3) (by
    intro j _
    have hmu : mulOk 41 (j : Int) = true := mulOk_smallL (by decide) (by decide)
    have a4 := h.f0 4 (by decide)
    have a3 := h.f3 (cel ns 4 + 41 * (j : Int)) c.length hpos
    simp [lcF, a4, hmu, chD, a3, (hF j).2])
  have r3 : rangeD 3 = (List.range 3).map fun k : Nat => PyData.int k := rangeD_nat 3
  have rg3 : rngB 3 = true := by decide
  have rgN : rngB ((N : Nat) : Int) = true := rngB_of (by omega)
  have a0 := h.f0 0 (by decide)
  have a3 := h.f0 3 (by decide)
  have a5 := h.f0 5 (by decide)
  have f0 : fits 0 = true := rfl
  have s0 : evS Φ lawWf st_0 (startS c_law.nn [scr ns]) = ok (.nx [.fz (scr ns), .fz W.D, .no, .no, .no, .no, .no, .no, .no, .no, .no]) := by simp [st_0, c_law, a0, h.f1]
  have s1 : evS Φ lawWf st_1 [.fz (scr ns), .fz W.D, .no, .no, .no, .no, .no, .no, .no, .no, .no] = ok (.nx [.fz (scr ns), .fz W.D, .fz (chD c), .no, .no, .no, .no, .no, .no, .no, .no]) := by simp [st_1, h.f2]
  have s2 : evS Φ lawWf st_2 [.fz (scr ns), .fz W.D, .fz (chD c), .no, .no, .no, .no, .no, .no, .no, .no] = ok (.nx [.fz (scr ns), .fz W.D, .fz (chD c), .fz (rowD ((List.range 3).map F)), .no, .no, .no, .no, .no, .no, .no]) := by
    simp [st_2, rg3]
    rw [r3, erow]
    simp [rowD, Function.comp_def]
  have s3 : evS Φ lawWf st_3 [.fz (scr ns), .fz W.D, .fz (chD c), .fz (rowD ((List.range 3).map F)), .no, .no, .no, .no, .no, .no, .no] = ok (.nx [.fz (scr ns), .fz W.D, .fz (chD c), .fz (rowD (((List.range 3).map F).take k)), .no, .no, .no, .no, .no, .no, .no]) := by
    simp [st_3, a3, hk, slc_lo]
  have s5 : evS Φ lawWf st_5 (lS ns W c (((List.range 3).map F).take k) (.ow (.list [])) .no .no .no .no .no .no) = ok (.nx (lS ns W c (((List.range 3).map F).take k) (.ow (prsL P)) x5 .no .no .no x9 .no)) := by
    rw [← e1]
    simp [st_5, lS, a5, hN, rgN]
    rw [rangeD_nat]
  rw [law_body, evSs_cons, s0, seqK_nx, evSs_cons, s1, seqK_nx, evSs_cons, s2, seqK_nx, evSs_cons, s3, seqK_nx, evSs_cons]
  have s4 : evS Φ lawWf st_4 [.fz (scr ns), .fz W.D, .fz (chD c), .fz (rowD (((List.range 3).map F).take k)), .no, .no, .no, .no, .no, .no, .no] = ok (.nx (lS ns W c (((List.range 3).map F).take k) (.ow (.list [])) .no .no .no .no .no .no)) := by simp [st_4, lS, f0]
  rw [s4, seqK_nx, evSs_cons, s5, seqK_nx, e2]
  rfl
theorem law_true : ∀ ns : List Int, ns.length ≤ 63 → call (tblL c_law) lawWf lawLev 0 [scr ns] = .ok (.bool true) := by
  intro ns _
  obtain ⟨W, hW, h1⟩ := v_law_world (L := c_law) (wf := lawWf) (cel ns 0)
  obtain ⟨c, hc, hl, h2⟩ := v_law_choice (L := c_law) (wf := lawWf) hW ns (at_ := 1) (most := 4) (by decide) (by decide) (by decide)
  obtain ⟨PF, hPF⟩ := Classical.axiomOfChoice fun s => v_law_some_picture (L := c_law) (wf := lawWf) hW s
  have hw : 257 ≤ lawWf := by decide
  refine (call_eq (tbl := tblL c_law) (n := 13) (fn := c_law) (f := 0) rfl rfl).trans ?_
  exact k_core ⟨fun k hk => v_law_cell (n := 12) ns hk, h1 11, h2 9, fun x m hm => v_law_mix (n := 12) x (by decide) (by decide) hm, fun s k => v_law_seed (n := 12) s k, fun s => ⟨(hPF s).1, (hPF s).2 11⟩, fun p hp r hr hl => v_after (n := 7) hW hp hr hl, fun P hP hl k hk => v_fitting (n := 7) hW hc hP hl hk, fun P hP hl => v_first_fitting (n := 6) hW hc hP hl, fun r s hr hs lr ls => v_alike (n := 6) hW hr hs lr ls, fun p q hp hq => v_way_to (n := 7) hW hw hc hp hq⟩ hW hc
end FL

set_option maxRecDepth 100000
set_option maxHeartbeats 8000000
namespace FL
abbrev tbl : Nat → Option Fn := tblL c_law
end FL
namespace FL
open PySem PySem.Spec PyProof.Rows L2
def topS (i : Nat) : Stmt := PySem.Challenge.pw_pastpictures_k19_whole_fitting.main.body.getD i (.Pass ⟨0, 0, 0, 0⟩)
def e_c_is_within : FnE := ⟨78, "is_within", topS 11, c_is_within, ["thing", "low", "high"], ["thing", "low", "high"]⟩
def e_c_is_world : FnE := ⟨79, "is_world", topS 12, c_is_world, ["thing", "many", "cell"], ["thing"]⟩
def e_c_look : FnE := ⟨82, "look", topS 13, c_look, ["world"], ["world"]⟩
def e_c_is_picture : FnE := ⟨73, "is_picture", topS 14, c_is_picture, ["world", "thing", "one"], ["world", "thing"]⟩
def e_c_look_picture : FnE := ⟨86, "look_picture", topS 15, c_look_picture, ["world", "picture"], ["world", "picture"]⟩
def e_c_is_step : FnE := ⟨75, "is_step", topS 16, c_is_step, ["world", "thing"], ["world", "thing"]⟩
def e_c_rises : FnE := ⟨101, "rises", topS 17, c_rises, ["row", "one", "other"], ["row"]⟩
def e_c_is_window : FnE := ⟨77, "is_window", topS 18, c_is_window, ["world", "thing", "one"], ["world", "thing"]⟩
def e_c_are_cells : FnE := ⟨54, "are_cells", topS 19, c_are_cells, ["world", "thing", "one"], ["world", "thing"]⟩
def e_c_is_deed : FnE := ⟨71, "is_deed", topS 20, c_is_deed, ["world", "thing"], ["world", "thing"]⟩
def e_c_look_row : FnE := ⟨87, "look_row", topS 21, c_look_row, ["world", "row", "one"], ["world", "row"]⟩
def e_c_all_pictures : FnE := ⟨53, "all_pictures", topS 22, c_all_pictures, ["world", "found", "cell", "longer", "row", "worth"], ["world"]⟩
def e_c_cell_at : FnE := ⟨57, "cell_at", topS 23, c_cell_at, ["world", "across", "down"], ["world", "across", "down"]⟩
def e_c_moved : FnE := ⟨91, "moved", topS 24, c_moved, ["world", "cell", "deed", "across", "down"], ["world", "cell", "deed"]⟩
def e_c_seen : FnE := ⟨105, "seen", topS 25, c_seen, ["world", "picture", "window", "cell", "across", "down", "step"], ["world", "picture", "window", "cell"]⟩
def e_c_done : FnE := ⟨59, "done", topS 26, c_done, ["world", "picture", "deed", "cells", "word", "led", "cell", "one"], ["world", "picture", "deed"]⟩
def e_c_all_done : FnE := ⟨52, "all_done", topS 27, c_all_done, ["world", "picture", "row", "deed"], ["world", "picture", "row"]⟩
def e_c_after : FnE := ⟨49, "after", topS 28, c_after, ["world", "row", "picture"], ["world", "row", "picture"]⟩
def e_c_look_choice : FnE := ⟨83, "look_choice", topS 31, c_look_choice, ["world", "choice", "deed"], ["world", "choice"]⟩
def e_c_rows_from : FnE := ⟨103, "rows_from", topS 32, c_rows_from, ["world", "choice", "picture", "found", "here", "later", "one", "deed", "new"], ["world", "choice", "picture"]⟩
def e_c_way_to : FnE := ⟨116, "way_to", topS 33, c_way_to, ["world", "choice", "picture", "goal"], ["world", "choice", "picture", "goal"]⟩
def e_c_look_pairs : FnE := ⟨85, "look_pairs", topS 36, c_look_pairs, ["world", "pairs", "pair", "one"], ["world", "pairs"]⟩
def e_c_rows_to : FnE := ⟨104, "rows_to", topS 37, c_rows_to, ["choice", "long", "found", "here", "turn", "later", "row", "deed"], ["choice", "long"]⟩
def e_c_fits : FnE := ⟨64, "fits", topS 38, c_fits, ["world", "row", "pairs", "one", "other"], ["world", "row", "pairs"]⟩
def e_c_fitting : FnE := ⟨65, "fitting", topS 39, c_fitting, ["world", "choice", "pairs", "long", "row"], ["world", "choice", "pairs", "long"]⟩
def e_c_first_fitting : FnE := ⟨62, "first_fitting", topS 40, c_first_fitting, ["world", "choice", "pairs"], ["world", "choice", "pairs"]⟩
def e_c_first_parted : FnE := ⟨63, "first_parted", topS 42, c_first_parted, ["world", "one", "other", "picture"], ["world", "one", "other"]⟩
def e_c_parts : FnE := ⟨93, "parts", topS 43, c_parts, ["world", "one", "other"], ["world", "one", "other"]⟩
def e_c_alike : FnE := ⟨51, "alike", topS 44, c_alike, ["world", "one", "other"], ["world", "one", "other"]⟩
def e_c_law_cell : FnE := ⟨10, "_law_cell", topS 46, c_law_cell, ["script", "k"], ["script", "k"]⟩
def e_c_law_mix : FnE := ⟨28, "_law_mix", topS 47, c_law_mix, ["cell", "prime", "many"], ["cell", "prime", "many"]⟩
def e_c_law_seed : FnE := ⟨38, "_law_seed", topS 48, c_law_seed, ["seed", "k"], ["seed", "k"]⟩
def e_c_law_pick : FnE := ⟨32, "_law_pick", topS 49, c_law_pick, ["seed", "many"], ["seed", "many"]⟩
def e_c_law_world : FnE := ⟨47, "_law_world", topS 50, c_law_world, ["cell", "some"], ["cell"]⟩
def e_c_law_window : FnE := ⟨45, "_law_window", topS 51, c_law_window, ["world", "seed", "steps", "across", "some", "k", "step", "down"], ["world", "seed"]⟩
def e_c_law_deed : FnE := ⟨12, "_law_deed", topS 52, c_law_deed, ["world", "seed", "pick", "cells", "cell"], ["world", "seed"]⟩
def e_c_law_choice : FnE := ⟨11, "_law_choice", topS 53, c_law_choice, ["world", "script", "at", "most", "found", "k", "deed"], ["world", "script", "at", "most"]⟩
def e_c_law_some_picture : FnE := ⟨41, "_law_some_picture", topS 54, c_law_some_picture, ["world", "seed", "cell"], ["world", "seed"]⟩
def e_c_law : FnE := ⟨0, "law", topS 55, c_law, ["script", "world", "choice", "row", "pairs", "k", "some", "one", "fewer", "picture", "goal"], ["script"]⟩
def fnL : List FnE := [e_c_is_within, e_c_is_world, e_c_look, e_c_is_picture, e_c_look_picture, e_c_is_step, e_c_rises, e_c_is_window, e_c_are_cells, e_c_is_deed, e_c_look_row, e_c_all_pictures, e_c_cell_at, e_c_moved, e_c_seen, e_c_done, e_c_all_done, e_c_after, e_c_look_choice, e_c_rows_from, e_c_way_to, e_c_look_pairs, e_c_rows_to, e_c_fits, e_c_fitting, e_c_first_fitting, e_c_first_parted, e_c_parts, e_c_alike, e_c_law_cell, e_c_law_mix, e_c_law_seed, e_c_law_pick, e_c_law_world, e_c_law_window, e_c_law_deed, e_c_law_choice, e_c_law_some_picture, e_c_law]
def glL : List (Nat × Str × D) := [(4, "MOST_DEEDS", (.int 6)), (6, "MOST_PICTURES", (.int 256)), (7, "SIDES", (.tuple [(.str "across"), (.str "down")])), (3, "MOST_CHOICE", (.int 5)), (5, "MOST_PAIRS", (.int 6))]
def exL : List (Nat × Str) := [(8, "PictureError"), (6, "BadWorld"), (4, "BadRow"), (3, "BadPicture"), (0, "BadChoice"), (1, "BadCount")]
def gm : Gm := ⟨fnLook fnL, fun g => (glL.lookup g), fun k => exL.lookup k⟩
def facts : List He.Fa := (fnL.map fun e => He.Fa.glo e.name) ++ ((exL.map fun p => He.Fa.glo p.2) ++ ((exL.map fun p => He.Fa.exc p.2) ++ bltN.map He.Fa.free))
def exB (K : PySem.W.Frag) : Bool := (glL.all fun p => gloB K p.2.1 p.2.2) && exL.all fun p => exL.all fun q => PySem.W.exmOne K (.ref (He.ga K p.2)) (.ref (He.ga K q.2)) == some (subX p.1 q.1)
theorem all_ok : fnL.all (okE gm) = true := by decide +kernel
theorem b_c_is_within : bindE e_c_is_within := fun _ _ _ _ _ _ us hl => match us, hl with | [_, _, _], _ => rfl
theorem b_c_is_world : bindE e_c_is_world := fun _ _ _ _ _ _ us hl => match us, hl with | [_], _ => rfl
theorem b_c_look : bindE e_c_look := fun _ _ _ _ _ _ us hl => match us, hl with | [_], _ => rfl
theorem b_c_is_picture : bindE e_c_is_picture := fun _ _ _ _ _ _ us hl => match us, hl with | [_, _], _ => rfl
theorem b_c_look_picture : bindE e_c_look_picture := fun _ _ _ _ _ _ us hl => match us, hl with | [_, _], _ => rfl
theorem b_c_is_step : bindE e_c_is_step := fun _ _ _ _ _ _ us hl => match us, hl with | [_, _], _ => rfl
theorem b_c_rises : bindE e_c_rises := fun _ _ _ _ _ _ us hl => match us, hl with | [_], _ => rfl
theorem b_c_is_window : bindE e_c_is_window := fun _ _ _ _ _ _ us hl => match us, hl with | [_, _], _ => rfl
theorem b_c_are_cells : bindE e_c_are_cells := fun _ _ _ _ _ _ us hl => match us, hl with | [_, _], _ => rfl
theorem b_c_is_deed : bindE e_c_is_deed := fun _ _ _ _ _ _ us hl => match us, hl with | [_, _], _ => rfl
theorem b_c_look_row : bindE e_c_look_row := fun _ _ _ _ _ _ us hl => match us, hl with | [_, _], _ => rfl
theorem b_c_all_pictures : bindE e_c_all_pictures := fun _ _ _ _ _ _ us hl => match us, hl with | [_], _ => rfl
theorem b_c_cell_at : bindE e_c_cell_at := fun _ _ _ _ _ _ us hl => match us, hl with | [_, _, _], _ => rfl
theorem b_c_moved : bindE e_c_moved := fun _ _ _ _ _ _ us hl => match us, hl with | [_, _, _], _ => rfl
theorem b_c_seen : bindE e_c_seen := fun _ _ _ _ _ _ us hl => match us, hl with | [_, _, _, _], _ => rfl
theorem b_c_done : bindE e_c_done := fun _ _ _ _ _ _ us hl => match us, hl with | [_, _, _], _ => rfl
theorem b_c_all_done : bindE e_c_all_done := fun _ _ _ _ _ _ us hl => match us, hl with | [_, _, _], _ => rfl
theorem b_c_after : bindE e_c_after := fun _ _ _ _ _ _ us hl => match us, hl with | [_, _, _], _ => rfl
theorem b_c_look_choice : bindE e_c_look_choice := fun _ _ _ _ _ _ us hl => match us, hl with | [_, _], _ => rfl
theorem b_c_rows_from : bindE e_c_rows_from := fun _ _ _ _ _ _ us hl => match us, hl with | [_, _, _], _ => rfl
theorem b_c_way_to : bindE e_c_way_to := fun _ _ _ _ _ _ us hl => match us, hl with | [_, _, _, _], _ => rfl
theorem b_c_look_pairs : bindE e_c_look_pairs := fun _ _ _ _ _ _ us hl => match us, hl with | [_, _], _ => rfl
theorem b_c_rows_to : bindE e_c_rows_to := fun _ _ _ _ _ _ us hl => match us, hl with | [_, _], _ => rfl
theorem b_c_fits : bindE e_c_fits := fun _ _ _ _ _ _ us hl => match us, hl with | [_, _, _], _ => rfl
theorem b_c_fitting : bindE e_c_fitting := fun _ _ _ _ _ _ us hl => match us, hl with | [_, _, _, _], _ => rfl
theorem b_c_first_fitting : bindE e_c_first_fitting := fun _ _ _ _ _ _ us hl => match us, hl with | [_, _, _], _ => rfl
theorem b_c_first_parted : bindE e_c_first_parted := fun _ _ _ _ _ _ us hl => match us, hl with | [_, _, _], _ => rfl
theorem b_c_parts : bindE e_c_parts := fun _ _ _ _ _ _ us hl => match us, hl with | [_, _, _], _ => rfl
theorem b_c_alike : bindE e_c_alike := fun _ _ _ _ _ _ us hl => match us, hl with | [_, _, _], _ => rfl
theorem b_c_law_cell : bindE e_c_law_cell := fun _ _ _ _ _ _ us hl => match us, hl with | [_, _], _ => rfl
theorem b_c_law_mix : bindE e_c_law_mix := fun _ _ _ _ _ _ us hl => match us, hl with | [_, _, _], _ => rfl
theorem b_c_law_seed : bindE e_c_law_seed := fun _ _ _ _ _ _ us hl => match us, hl with | [_, _], _ => rfl
theorem b_c_law_pick : bindE e_c_law_pick := fun _ _ _ _ _ _ us hl => match us, hl with | [_, _], _ => rfl
theorem b_c_law_world : bindE e_c_law_world := fun _ _ _ _ _ _ us hl => match us, hl with | [_], _ => rfl
theorem b_c_law_window : bindE e_c_law_window := fun _ _ _ _ _ _ us hl => match us, hl with | [_, _], _ => rfl
theorem b_c_law_deed : bindE e_c_law_deed := fun _ _ _ _ _ _ us hl => match us, hl with | [_, _], _ => rfl
theorem b_c_law_choice : bindE e_c_law_choice := fun _ _ _ _ _ _ us hl => match us, hl with | [_, _, _, _], _ => rfl
theorem b_c_law_some_picture : bindE e_c_law_some_picture := fun _ _ _ _ _ _ us hl => match us, hl with | [_, _], _ => rfl
theorem b_c_law : bindE e_c_law := fun _ _ _ _ _ _ us hl => match us, hl with | [_], _ => rfl
theorem binds : ∀ e ∈ fnL, bindE e := by
  unfold fnL
  simp only [List.forall_mem_cons, List.not_mem_nil, false_implies, implies_true, and_true]
  exact ⟨b_c_is_within, b_c_is_world, b_c_look, b_c_is_picture, b_c_look_picture, b_c_is_step, b_c_rises, b_c_is_window, b_c_are_cells, b_c_is_deed, b_c_look_row, b_c_all_pictures, b_c_cell_at, b_c_moved, b_c_seen, b_c_done, b_c_all_done, b_c_after, b_c_look_choice, b_c_rows_from, b_c_way_to, b_c_look_pairs, b_c_rows_to, b_c_fits, b_c_fitting, b_c_first_fitting, b_c_first_parted, b_c_parts, b_c_alike, b_c_law_cell, b_c_law_mix, b_c_law_seed, b_c_law_pick, b_c_law_world, b_c_law_window, b_c_law_deed, b_c_law_choice, b_c_law_some_picture, b_c_law⟩
theorem tbl_ok : ∀ e ∈ fnL, tbl e.id = some e.fn := by
  unfold fnL
  simp only [List.forall_mem_cons, List.not_mem_nil, false_implies, implies_true, and_true]
  exact ⟨rfl, rfl, rfl, rfl, rfl, rfl, rfl, rfl, rfl, rfl, rfl, rfl, rfl, rfl, rfl, rfl, rfl, rfl, rfl, rfl, rfl, rfl, rfl, rfl, rfl, rfl, rfl, rfl, rfl, rfl, rfl, rfl, rfl, rfl, rfl, rfl, rfl, rfl, rfl⟩
theorem glo_in : ∀ e ∈ fnL, He.Fa.glo e.name ∈ facts := fun e he => List.mem_append_left _ (List.mem_map_of_mem (f := fun e => He.Fa.glo e.name) he)
theorem mok {K : PySem.W.Frag} {h : Heap} {mg : Str → Option Value} (X : K.In h) (G : h.Ns mainGlobals mg) (c : He.SaysD facts (fnL.map ofE) K) (d : exB K = true) : Mok gm K mg where
  free := fun x hx => He.free_ok X G (says_fact c (List.mem_append_right _ (List.mem_append_right _ (List.mem_append_right _ (List.mem_map_of_mem (f := He.Fa.free) hx)))))
  glo := fun g x y hg => gloB_ok X G (List.all_eq_true.mp (Bool.and_eq_true_iff.mp d).1 (g, x, y) (mem_lookN (l := glL) hg))
  sub := fun j k x y hj hk => by
    have mj : (j, x) ∈ exL := mem_lookN hj
    have mk : (k, y) ∈ exL := mem_lookN hk
    have c1 := says_fact c (List.mem_append_right _ (List.mem_append_left _ (List.mem_map_of_mem (f := fun p : Nat × Str => He.Fa.glo p.2) mj)))
    have c2 := says_fact c (List.mem_append_right _ (List.mem_append_left _ (List.mem_map_of_mem (f := fun p : Nat × Str => He.Fa.glo p.2) mk)))
    have q := List.all_eq_true.mp (List.all_eq_true.mp (Bool.and_eq_true_iff.mp d).2 (j, x) mj) (k, y) mk
    exact ⟨_, _, He.glo_ok X G c1, He.glo_ok X G c2, by simpa using q⟩
  exs := fun k x hx => by
    have hm : (k, x) ∈ exL := mem_lookN hx
    have c1 := says_fact c (List.mem_append_right _ (List.mem_append_left _ (List.mem_map_of_mem (f := fun p : Nat × Str => He.Fa.glo p.2) hm)))
    have c2 := says_fact c (List.mem_append_right _ (List.mem_append_right _ (List.mem_append_left _ (List.mem_map_of_mem (f := fun p : Nat × Str => He.Fa.exc p.2) hm))))
    obtain ⟨q1, q2, q3, q4⟩ := He.exc_ok c2
    exact ⟨_, He.glo_ok X G c1, q1, q2, q3, q4⟩
abbrev theRow : PySem.W.OpenRow := PySem.W.OpenLaw.row PySem.Challenge.rw_pastpictures_k19_whole_fitting
abbrev theHook : PySem.W.Hook := hookE 4 facts (fnL.map ofE) exB
def loose0 : List PySem.Str := ["PictureError", "BadWorld", "BadRow", "BadPicture", "BadChoice", "BadCount", "MOST_DEEDS", "MOST_PICTURES", "SIDES", "is_within", "is_world", "look", "is_picture", "look_picture", "is_step", "rises", "is_window", "are_cells", "is_deed", "look_row", "all_pictures", "cell_at", "moved", "seen", "done", "all_done", "after", "MOST_CHOICE", "look_choice", "rows_from"]
def loose1 : List PySem.Str := ["way_to", "MOST_PAIRS", "look_pairs", "rows_to", "fits", "fitting", "first_fitting", "first_parted", "parts", "alike", "_law_cell", "_law_mix", "_law_seed", "_law_pick", "_law_world", "_law_window", "_law_deed", "_law_choice", "_law_some_picture"]
abbrev looseN : List PySem.Str := loose0 ++ loose1
set_option maxHeartbeats 0 in
theorem theRun (w : World) : HandSHeadRun.RunEq theRow (PySem.W.view theRow.prog [55]) theHook (obE 4 facts (fnL.map ofE) exB) 4000 looseN w := by
  intro os
  kernel_rfl
end FL
open PySem PySem.W PySem.Calls PyProof.Rows
set_option maxHeartbeats 0 in
theorem PySem.Challenge.cw_pastpictures_k19_whole_fitting_holds : PySem.Challenge.rw_pastpictures_k19_whole_fitting.Holds := by
  w_on; o_law
  refine HandSHeadRun.head_any (r := FL.theRow) (q := view FL.theRow.prog [55]) (H := FL.theHook) (ob := FL.obE 4 FL.facts (FL.fnL.map FL.ofE) FL.exB) (M := 4000) (loose := FL.looseN) (d := HandSHeadRun.topDef FL.theRow.prog 55) (kwd := []) FL.obE_eq
    (by kernel_rfl) (fun s => by kernel_rfl) FL.theRun (by kernel_rfl) (by kernel_rfl) (by kernel_rfl) (by rfl) (by first | assumption | decide +kernel) (by decide +kernel) ⟨rfl, rfl, rfl, rfl, rfl, by decide +kernel⟩ ?hw ?hc
  case hw => w_witness2
  case hc =>
    refine L2.walk_ofE (l := PySem.Challenge.rw_pastpictures_k19_whole_fitting) (n := 63) (k := FL.lawLev) (x := "script") (CX := L2.CX0) rfl (by decide) (by kernel_rfl) ⟨rfl, by decide, by decide⟩ ?F (fun _ _ _ _ z => z)
    intro w mg fa h Y G hmg0
    obtain ⟨K, KX, c, d⟩ := Y
    have hmg : mg ("law" : PySem.Str) = some (.ref fa) := by
      have e : (HandSHeadRun.topDef FL.theRow.prog 55).name = ("law" : PySem.Str) := by kernel_rfl
      rw [← e]
      exact hmg0
    have M := FL.mok KX G c d
    have hf := FL.hf_of (tbl := FL.tbl) KX G c FL.all_ok FL.binds FL.glo_in rfl FL.tbl_ok
    have hl : FL.e_c_law ∈ FL.fnL := by
      unfold FL.fnL
      simp
    obtain ⟨fd, F, hb⟩ := FL.fnAt_of KX G c hl (List.all_eq_true.mp FL.all_ok _ hl) (FL.binds _ hl) (FL.glo_in _ hl)
    have ef : He.ga K "law" = fa := by
      have := F.here.symm.trans hmg
      cases this
      rfl
    subst ef
    exact ⟨K, fd, fun vs H Q _ => FL.spF FL.gm K mg (FL.call FL.tbl FL.lawWf FL.lawLev 0) vs H Q L2.E0, KX, fun s u => hb s [u] rfl, fun H a ns hl _ hS => FL.law_in FL.law_true H a ns hl hS, fun base _ _ => FL.law_sp M hf rfl F⟩
