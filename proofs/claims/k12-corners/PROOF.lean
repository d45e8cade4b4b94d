import PyProof.Rows.All
import Wide.All
import OpenK.AllK
import Wide.FinOn
import HandS.ForMost
import HandS.ForExc
import HandS.Wide
import HandS.TupAny
import HandS.TupMul
import HandS.TupLe
import HandS.Conv
import HandS.Zip
import HandS.IsInst
import HandS.NoneIn
import HandS.Style
import HandS.Deep
import KE.GoesMore
import KE.GoesEnum
import KE.DataCmp
import KE.DataMinMax
import KE.SortData
import HandS.SetFor
import HandS.Strs
import HandS.Small
import HandS.Defaults
import HandS.Ends
import HandS.Head0
import HandS.Head1
import HandS.Head2
import HandS.HeadEnd
import HandS.HeadHook1
import HandS.HeadHook2
import KE.KStateDown
import PySem.Challenge.RW_shearsquares_k12_corners
set_option Elab.async false
set_option linter.all false
set_option maxRecDepth 100000
set_option maxHeartbeats 0
/-! Dat, part A: a small language of expressions and statements over plain data, and its evaluator. -/
namespace Dat
open PySem
abbrev D := PyData

/-! ### plain data: equality, order -/
mutual
def eqD : D → D → Bool
  | .none, .none => true
  | .bool a, .bool b => a == b
  | .bool a, .int b => decide ((if a then 1 else 0) = b)
  | .int a, .bool b => decide (a = (if b then 1 else 0))
  | .int a, .int b => decide (a = b)
  | .str a, .str b => decide (a.cps.toList = b.cps.toList)
  | .list xs, .list ys => eqDs xs ys
  | .tuple xs, .tuple ys => eqDs xs ys
  | _, _ => false
def eqDs : List D → List D → Bool
  | [], [] => true
  | x :: xs, y :: ys => eqD x y && eqDs xs ys
  | _, _ => false
end
mutual
/-- no dict within; texts of plain signs -/
def plain : D → Bool
  | .none => true
  | .bool _ => true
  | .int _ => true
  | .str x => x.cps.toList.all fun c => decide (c < 128)
  | .list xs => plains xs
  | .tuple xs => plains xs
  | .dict _ => false
def plains : List D → Bool
  | [] => true
  | x :: xs => plain x && plains xs
end
mutual
def dep : D → Nat
  | .list xs => deps xs + 1
  | .tuple xs => deps xs + 1
  | _ => 0
def deps : List D → Nat
  | [] => 0
  | x :: xs => max (dep x) (deps xs)
end
/-- what == may be asked of -/
def eqOk (d : D) : Bool := plain d && decide (dep d ≤ 40)
def ltL : List Nat → List Nat → Bool
  | [], [] => false
  | [], _ :: _ => true
  | _ :: _, [] => false
  | x :: xs, y :: ys => if x = y then ltL xs ys else decide (x < y)
mutual
def ltD : D → D → Bool
  | .int a, .int b => decide (a < b)
  | .str a, .str b => ltL a.cps.toList b.cps.toList
  | .list xs, .list ys => ltDs xs ys
  | .tuple xs, .tuple ys => ltDs xs ys
  | _, _ => false
def ltDs : List D → List D → Bool
  | [], [] => false
  | [], _ :: _ => true
  | _ :: _, [] => false
  | x :: xs, y :: ys => if eqD x y = true then ltDs xs ys else ltD x y
end
mutual
/-- comparable, place by place -/
def alk : D → D → Bool
  | .int _, .int _ => true
  | .str _, .str _ => true
  | .list xs, .list ys => alks xs ys
  | .tuple xs, .tuple ys => alks xs ys
  | _, _ => false
def alks : List D → List D → Bool
  | x :: xs, y :: ys => alk x y && alks xs ys
  | [], _ => true
  | _ :: _, [] => true
end
def alkAll (xs : List D) : Bool := xs.all fun x => xs.all fun y => alk x y
/-- stable insertion, from the right -/
def insD (x : D) : List D → List D
  | [] => [x]
  | y :: ys => if ltD y x = true then y :: insD x ys else x :: y :: ys
def sortD : List D → List D
  | [] => []
  | x :: xs => insD x (sortD xs)
def minDs (x : D) (xs : List D) : D := xs.foldl (fun a y => if ltD y a = true then y else a) x
def maxDs (x : D) (xs : List D) : D := xs.foldl (fun a y => if ltD a y = true then y else a) x
def memD (x : D) : List D → Bool
  | [] => false
  | y :: ys => eqD y x || memD x ys
def idxD (x : D) : List D → Nat → Option Nat
  | [], _ => none
  | y :: ys, n => if eqD y x = true then some n else idxD x ys (n + 1)
/-- each once, as first met -/
def dedupD : List D → List D → List D
  | [], acc => acc
  | x :: xs, acc => dedupD xs (if memD x acc = true then acc else acc ++ [x])

/-! ### dicts: pairs in the order of insertion -/
def dLook (k : D) : List (D × D) → Option D
  | [] => none
  | (q, v) :: r => if eqD q k = true then some v else dLook k r
def dHas (k : D) (r : List (D × D)) : Bool := (dLook k r).isSome
def dPut (k v : D) : List (D × D) → List (D × D)
  | [] => [(k, v)]
  | (q, u) :: r => if eqD q k = true then (q, v) :: r else (q, u) :: dPut k v r
def dMerge (a : List (D × D)) : List (D × D) → List (D × D)
  | [] => a
  | (k, v) :: r => dMerge (dPut k v a) r
def pairsOf : List D → Option (List (D × D))
  | [] => some []
  | .tuple [k, v] :: r => match pairsOf r with
    | some l => some ((k, v) :: l)
    | none => none
  | _ :: _ => none
def altPairs : List D → Option (List (D × D))
  | [] => some []
  | k :: v :: r => match altPairs r with
    | some l => some ((k, v) :: l)
    | none => none
  | _ => none
mutual
/-- a part of a key: numbers, texts, tuples of them -/
def kPart : D → Bool
  | .int _ => true
  | .str _ => true
  | .tuple xs => kParts xs
  | _ => false
def kParts : List D → Bool
  | [] => true
  | x :: xs => kPart x && kParts xs
end
def kFlat : D → Bool
  | .int _ => true
  | .str _ => true
  | _ => false
def kTup (d : D) : Bool := match d with
  | .tuple xs => kParts xs && decide (deps xs ≤ 6)
  | _ => false
/-- the keys of a dict and one more go together -/
def kOk (k : D) (r : List (D × D)) : Bool := kFlat k && r.all fun p => kFlat p.1
def kOks (r : List (D × D)) : Bool := r.all fun p => kFlat p.1

/-! ### results, values, slots -/
inductive R (α : Type) where
  | ok (a : α)
  | exc (c : Str)
  | bad
@[reducible] def R.bind {α β : Type} (x : R α) (f : α → R β) : R β := match x with
  | .ok a => f a
  | .exc c => .exc c
  | .bad => .bad
/-- in a loop nothing may be raised -/
@[reducible] def R.quiet {α β : Type} (x : R α) (f : α → R β) : R β := match x with
  | .ok a => f a
  | _ => .bad
def R.ofO {α : Type} : Option α → R α
  | some a => .ok a
  | none => .bad
/-- a value: frozen data, a new container of one's own, the thing in a slot -/
inductive Vl where
  | f (d : D)
  | o (d : D)
  | r (i : Nat)
/-- what a slot holds: frozen data; a container of its own; one that the caller handed in to be changed -/
inductive B where
  | frz (d : D)
  | own (d : D)
  | io (d : D)
abbrev G := List (Option B)
def B.dat : B → D
  | .frz d => d
  | .own d => d
  | .io d => d
/-- what may be shared: any data but a dict that holds something -/
def frzOk : D → Bool
  | .dict (_ :: _) => false
  | _ => true
def Vl.fz : Vl → R D
  | .f d => .ok d
  | .o d => if frzOk d = true then .ok d else .bad
  | .r _ => .bad
def pkv (g : G) (i : Nat) : R D := match g[i]? with
  | some (some b) => .ok b.dat
  | _ => .bad
def Vl.res (g : G) : Vl → R D
  | .f d => .ok d
  | .o d => .ok d
  | .r i => pkv g i
def rdv (g : G) (i : Nat) : R (Vl × G) := match g[i]? with
  | some (some (.frz d)) => .ok (.f d, g)
  | some (some (.own d)) => if frzOk d = true then .ok (.f d, g.set i (some (.frz d))) else .bad
  | _ => .bad
def mvv (g : G) (i : Nat) : R (Vl × G) := match g[i]? with
  | some (some (.frz d)) => .ok (.f d, g)
  | some (some (.own d)) => .ok (.o d, g.set i none)
  | _ => .bad
def put (g : G) (i : Nat) (v : Vl) : R G := match g[i]? with
  | none => .bad
  | some (some (.io _)) => .bad
  | some _ => match v with
    | .f d => .ok (g.set i (some (.frz d)))
    | .o d => .ok (g.set i (some (.own d)))
    | .r _ => .bad
/-- the container in a slot changed -/
def chg (g : G) (i : Nat) (h : D → R D) : R G := match g[i]? with
  | some (some (.own d)) => R.bind (h d) fun e => .ok (g.set i (some (.own e)))
  | some (some (.io d)) => R.bind (h d) fun e => .ok (g.set i (some (.io e)))
  | _ => .bad
def notSlot (i : Nat) : Vl → Bool
  | .r j => decide (i ≠ j)
  | _ => true
def LIM : Nat := 1000000
def small (i : Int) : Bool := decide (-1000000000000000000 ≤ i) && decide (i ≤ 1000000000000000000)

/-! ### operations on data -/
inductive Op where | add | sub | mul | mod | fdiv | pow
inductive Cm where | eq | ne | lt | le | gt | ge | isin | notin | is_ | isnot
inductive F1 where | len | abs | all | any | sum | tuple | list | sorted | min | max | str | int | dict | lenset | sortset | neg
inductive Ty where | int | bool | str | tuple
def mulOk (i j : Int) : Bool := (decide (-18446744073709551616 < i) && decide (i < 18446744073709551616)) || (decide (-18446744073709551616 < j) && decide (j < 18446744073709551616))
def repL {α : Type} (xs : List α) : Nat → List α
  | 0 => []
  | n + 1 => xs ++ repL xs n
def bI (i : Int) : R Vl := .ok (.f (.int i))
def bB (b : Bool) : R Vl := .ok (.f (.bool b))
def bS (l : List Nat) : R Vl := .ok (.f (.str ⟨l.toArray⟩))
def op2 : Op → D → D → R Vl
  | .add, .int a, .int b => bI (a + b)
  | .add, .str a, .str b => if a.cps.toList.length + b.cps.toList.length ≤ LIM then bS (a.cps.toList ++ b.cps.toList) else .bad
  | .add, .list a, .list b => if a.length + b.length ≤ LIM then .ok (.o (.list (a ++ b))) else .bad
  | .add, .tuple a, .tuple b => if a.length + b.length ≤ LIM then .ok (.f (.tuple (a ++ b))) else .bad
  | .sub, .int a, .int b => bI (a - b)
  | .mul, .int a, .int b => if mulOk a b = true then bI (a * b) else .bad
  | .mul, .list a, .int n => if 0 ≤ n ∧ n ≤ 1000 ∧ a.length ≤ 1000 then .ok (.o (.list (repL a n.toNat))) else .bad
  | .mul, .tuple a, .int n => if 1 ≤ n ∧ n ≤ 1000 ∧ a.length ≤ 1000 ∧ a.length ≠ 0 then .ok (.f (.tuple (repL a n.toNat))) else .bad
  | .mod, .int a, .int b => if 0 < b then bI (a % b) else .bad
  | .fdiv, .int a, .int b => if 0 < b ∧ b < 1152921504606846976 then bI (a / b) else .bad
  | .pow, .int a, .int b => if 0 ≤ b ∧ b ≤ 100 ∧ -18446744073709551616 < a ∧ a < 18446744073709551616 then bI (a ^ b.toNat) else .bad
  | _, _, _ => .bad
def isMem : D → D → R Bool
  | x, .list ys => if eqOk x = true ∧ eqOk (.list ys) = true then .ok (memD x ys) else .bad
  | x, .tuple ys => if eqOk x = true ∧ eqOk (.tuple ys) = true then .ok (memD x ys) else .bad
  | x, .dict r => if kOk x r = true then .ok (dHas x r) else .bad
  | .str x, .str y => match x.cps.toList with
    | [c] => .ok (decide (c ∈ y.cps.toList))
    | _ => .bad
  | _, _ => .bad
def isNon : D → Bool
  | .none => true
  | _ => false
/-- the script (it stands in the heap in a way of its own) -/
def scr (ds : List D) : D := .dict [(.none, .list ds)]
def cmpD : Cm → D → D → R Bool
  | .eq, .dict [(.none, .list a)], .list b => if eqOk (.list a) = true ∧ eqOk (.list b) = true then .ok (eqDs a b) else .bad
  | .eq, a, b => if eqOk a = true ∧ eqOk b = true then .ok (eqD a b) else .bad
  | .ne, a, b => if eqOk a = true ∧ eqOk b = true then .ok (!eqD a b) else .bad
  | .lt, .int a, .int b => .ok (decide (a < b))
  | .le, .int a, .int b => .ok (decide (a ≤ b))
  | .gt, .int a, .int b => .ok (decide (b < a))
  | .ge, .int a, .int b => .ok (decide (b ≤ a))
  | .isin, a, b => isMem a b
  | .notin, a, b => R.bind (isMem a b) fun t => .ok (!t)
  | .is_, a, .none => .ok (isNon a)
  | .isnot, a, .none => .ok (!isNon a)
  | .is_, .bool b, .bool true => .ok b
  | .isnot, .bool b, .bool true => .ok (!b)
  | _, _, _ => .bad
def boolsOf : List D → Option (List Bool)
  | [] => some []
  | .bool b :: r => match boolsOf r with
    | some l => some (b :: l)
    | none => none
  | _ :: _ => none
def intsOf : List D → Option (List Int)
  | [] => some []
  | .int b :: r => match intsOf r with
    | some l => some (b :: l)
    | none => none
  | _ :: _ => none
def strsOf : List D → Option (List (List Nat))
  | [] => some []
  | .str b :: r => match strsOf r with
    | some l => some (b.cps.toList :: l)
    | none => none
  | _ :: _ => none
def signs (x : Str) : List D := x.cps.toList.map fun c => .str ⟨[c].toArray⟩
def keysOf (r : List (D × D)) : List D := r.map (·.1)
def ordOk (xs : List D) : Bool := alkAll xs && plains xs && decide (deps xs ≤ 30)
def tupNE : D → Bool
  | .tuple (_ :: _) => true
  | _ => false
def noTup : D → Bool
  | .int _ => true
  | .str _ => true
  | .list _ => true
  | _ => false
def srtOk (xs : List D) : Bool := ordOk xs && (xs.all tupNE || xs.all noTup)
def srt (xs : List D) : R Vl := if srtOk xs = true ∧ xs.length ≤ LIM then .ok (.o (.list (sortD xs))) else .bad
def setOk (xs : List D) : Bool := (xs.all fun x => match x with | .int _ => true | _ => false) || xs.all kTup
def fn1 : F1 → D → R Vl
  | .len, .list a => bI a.length
  | .len, .dict [(.none, .list a)] => bI a.length
  | .len, .tuple a => bI a.length
  | .len, .str a => if a.cps.toList.length ≤ LIM then bI a.cps.toList.length else .bad
  | .len, .dict a => if kOks a = true then bI a.length else .bad
  | .abs, .int a => bI (if a < 0 then -a else a)
  | .neg, .int a => bI (-a)
  | .all, .list a => R.bind (.ofO (boolsOf a)) fun l => bB (l.all id)
  | .any, .list a => R.bind (.ofO (boolsOf a)) fun l => bB (l.any id)
  | .sum, .list a => R.bind (.ofO (intsOf a)) fun l => bI l.sum
  | .tuple, .list a => .ok (.f (.tuple a))
  | .tuple, .tuple a => .ok (.f (.tuple a))
  | .list, .list a => .ok (.o (.list a))
  | .list, .dict [(.none, .list a)] => .ok (.o (.list a))
  | .list, .tuple a => .ok (.o (.list a))
  | .sorted, .list a => srt a
  | .min, .list (x :: xs) => if ordOk (x :: xs) = true then .ok (.f (minDs x xs)) else .bad
  | .min, .tuple (x :: xs) => if ordOk (x :: xs) = true then .ok (.f (minDs x xs)) else .bad
  | .max, .list (x :: xs) => if ordOk (x :: xs) = true then .ok (.f (maxDs x xs)) else .bad
  | .max, .tuple (x :: xs) => if ordOk (x :: xs) = true then .ok (.f (maxDs x xs)) else .bad
  | .str, .int a => if 0 ≤ a ∧ a < 10 then bS [48 + a.toNat] else .bad
  | .int, .str a => match a.cps.toList with
    | [c] => if 48 ≤ c ∧ c < 58 then bI ((c - 48 : Nat) : Int) else .bad
    | _ => .bad
  | .int, .bool b => bI (if b then 1 else 0)
  | .dict, .list a => R.bind (.ofO (pairsOf a)) fun l => if kOks l = true ∧ l.length ≤ LIM then .ok (.o (.dict (dMerge [] l))) else .bad
  | .lenset, .list a => R.bind (.ofO (intsOf a)) fun l => if l.length ≤ 4000 then bI (dedupD a []).length else .bad
  | .lenset, .tuple a => R.bind (.ofO (intsOf a)) fun l => if l.length ≤ 4000 then bI (dedupD a []).length else .bad
  | _, _ => .bad
def isTy : Ty → D → Bool
  | .int, .int _ => true
  | .int, .bool _ => true
  | .bool, .bool _ => true
  | .str, .str _ => true
  | .tuple, .tuple _ => true
  | _, _ => false
def ixL {α : Type} (xs : List α) (i : Int) : Option α := if 0 ≤ i then xs[i.toNat]? else if -(xs.length : Int) ≤ i then xs[(i + xs.length).toNat]? else none
def ixD : D → D → R D
  | .list a, .int i => .ofO (ixL a i)
  | .dict [(.none, .list a)], .int i => .ofO (ixL a i)
  | .tuple a, .int i => .ofO (ixL a i)
  | .str a, .int i => if a.cps.toList.length ≤ LIM then R.bind (.ofO (ixL a.cps.toList i)) fun c => .ok (.str ⟨[c].toArray⟩) else .bad
  | .dict r, k => if kOk k r = true then .ofO (dLook k r) else .bad
  | _, _ => .bad
/-- where a cut begins or ends: o the place asked for, dflt if none is -/
def cutIx (n dflt : Nat) : Option Int → Nat
  | none => dflt
  | some v => if v < 0 then (v + n).toNat else if v ≤ n then v.toNat else n
def cutL {α : Type} (xs : List α) (lo hi : Option Int) : List α := (xs.drop (cutIx xs.length 0 lo)).take (cutIx xs.length xs.length hi - cutIx xs.length 0 lo)
def slcD (lo hi : Option Int) : D → R Vl
  | .list a => .ok (.o (.list (cutL a lo hi)))
  | .tuple a => .ok (.f (.tuple (cutL a lo hi)))
  | .str a => if a.cps.toList.length ≤ LIM then bS (cutL a.cps.toList lo hi) else .bad
  | _ => .bad
def revD : D → R Vl
  | .list a => .ok (.o (.list a.reverse))
  | .tuple a => .ok (.f (.tuple a.reverse))
  | .str a => bS a.cps.toList.reverse
  | _ => .bad
def joinL (sep : List Nat) : List (List Nat) → List Nat
  | [] => []
  | [x] => x
  | x :: y :: r => x ++ sep ++ joinL sep (y :: r)
/-- cut at each sign c -/
def splitL (c : Nat) : List Nat → List Nat → List (List Nat)
  | [], acc => [acc]
  | x :: r, acc => if x = c then acc :: splitL c r [] else splitL c r (acc ++ [x])
inductive M2 where | index | count | join | split | endsw
def meth : M2 → D → D → R Vl
  | .index, .list a, x => if eqOk x = true ∧ eqOk (.list a) = true then R.bind (.ofO (idxD x a 0)) fun n => bI n else .bad
  | .index, .tuple a, x => if eqOk x = true ∧ eqOk (.tuple a) = true then R.bind (.ofO (idxD x a 0)) fun n => bI n else .bad
  | .join, .str s, .list a => R.bind (.ofO (strsOf a)) fun l => if (l.map (·.length)).sum + l.length * s.cps.toList.length ≤ LIM then bS (joinL s.cps.toList l) else .bad
  | _, _, _ => .bad
def meKind : M2 → D → Bool
  | .index, .list _ => true
  | .index, .tuple _ => true
  | .join, .str _ => true
  | _, _ => false
def getD2 (r k d : D) : R D := match r with
  | .dict r => if kOk k r = true then .ok ((dLook k r).getD d) else .bad
  | _ => .bad
def itemsOf : D → R (List D)
  | .list a => .ok a
  | .tuple a => .ok a
  | .str a => if a.cps.toList.length ≤ LIM then .ok (signs a) else .bad
  | _ => .bad
def upFrom (lo : Int) : Nat → List D
  | 0 => []
  | n + 1 => .int lo :: upFrom (lo + 1) n
def downFrom (hi : Int) : Nat → List D
  | 0 => []
  | n + 1 => .int hi :: downFrom (hi - 1) n
def rngD : List D → R (List D)
  | [.int n] => if n ≤ LIM ∧ -1000000 ≤ n then .ok (upFrom 0 n.toNat) else .bad
  | [.int a, .int b] => if small a = true ∧ small b = true ∧ b - a ≤ LIM then .ok (upFrom a (b - a).toNat) else .bad
  | [.int a, .int b, .int c] => if c = -1 ∧ small a = true ∧ small b = true ∧ a - b ≤ LIM then .ok (downFrom a (a - b).toNat) else .bad
  | _ => .bad
def seqOf : D → R (List D)
  | .list a => .ok a
  | .tuple a => .ok a
  | _ => .bad
def enumD : List D → Int → List D
  | [], _ => []
  | x :: r, n => .tuple [.int n, x] :: enumD r (n + 1)
def zip2D : List D → List D → List D
  | x :: r, y :: s => .tuple [x, y] :: zip2D r s
  | _, _ => []
def zip3D : List D → List D → List D → List D
  | x :: r, y :: s, z :: t => .tuple [x, y, z] :: zip3D r s t
  | _, _, _ => []
def zipD : List D → R (List D)
  | [a, b] => R.bind (seqOf a) fun x => R.bind (seqOf b) fun y => .ok (zip2D x y)
  | [a, b, c] => R.bind (seqOf a) fun x => R.bind (seqOf b) fun y => R.bind (seqOf c) fun z => .ok (zip3D x y z)
  | _ => .bad
def dzipD (a b : D) : R Vl := R.bind (seqOf a) fun x => R.bind (seqOf b) fun y =>
  if kOks (x.zip y) = true ∧ x.length ≤ LIM then .ok (.o (.dict (dMerge [] (x.zip y)))) else .bad
def setIx (i v : D) : D → R D
  | .list a => match i with
    | .int i => if 0 ≤ i ∧ i < a.length then .ok (.list (a.set i.toNat v)) else if i < 0 ∧ -(a.length : Int) ≤ i then .ok (.list (a.set (i + a.length).toNat v)) else .bad
    | _ => .bad
  | .dict r => if kOk i r = true ∧ r.length ≤ LIM then .ok (.dict (dPut i v r)) else .bad
  | _ => .bad

def isLst : D → Bool
  | .list _ => true
  | _ => false
def isDct : D → Bool
  | .dict r => kOks r
  | _ => false
def appD (v : D) : D → R D
  | .list a => if a.length < LIM then .ok (.list (a ++ [v])) else .bad
  | _ => .bad
def extD (v : D) : D → R D
  | .list a => match v with
    | .list b => if a.length + b.length ≤ LIM then .ok (.list (a ++ b)) else .bad
    | _ => .bad
  | _ => .bad
def updD (v : D) : D → R D
  | .dict a => match v with
    | .dict b => if (kOks (a ++ b)) = true ∧ a.length + b.length ≤ LIM then .ok (.dict (dMerge a b)) else .bad
    | _ => .bad
  | _ => .bad
/-! ### the text -/
inductive Pat where
  | v (i : Nat)
  | t0
  | tc (p q : Pat)
mutual
inductive E where
  | cst (d : D) | var (i : Nat) | pv (i : Nat) | mv (i : Nat) | glo (x : Str) (d : D)
  | tup (a : A) | lst (a : A) | dct (a : A)
  | bin (o : Op) (a b : E) | not (a : E) | and (a : A) | or (a : A)
  | cmp (o : Cm) (a b : E) | chn (a b c : E) | inv (neg : Bool) (a b : E) | ife (c a b : E)
  | sub (a i : E) | slc (a : E) (lo hi : O) | rev (a : E)
  | call (f : Nat) (a : A) | b1 (f : F1) (a : E) | mm (mx : Bool) (a b : E) | rngl (tu : Bool) (a : A) | dzip (a b : E) | isi (a : E) (t : Ty)
  | get (a k d : E) | me (m : M2) (a x : E) | pop0 (i : Nat) | popi (i : Nat) (e : E)
  | lc (e : E) (p : Pat) (i : I) (c : O) | lc2 (e : E) (p : Pat) (i : I) (q : Pat) (j : I) (c : O)
inductive A where
  | nil
  | cons (e : E) (a : A)
inductive O where
  | no
  | yes (e : E)
inductive I where
  | e (x : E) | rng (a : A) | enu (x : E) | zip (a : A) | vals (x : E)
end
inductive S where
  | skip | seq (s t : S)
  | asg (p : Pat) (e : E) | par (p : Pat) (a : A) | seti (i : Nat) (k v : E) | app (i : Nat) (e : E) | ext (i : Nat) (e : E) | upd (i : Nat) (e : E) | ex (e : E)
  | ite (c : E) (s t : S) | whl (c : E) (s : S) | for_ (p : Pat) (i : I) (s : S) | ret (e : E) | rse (c m : Str)
inductive Fl where
  | nx (g : G)
  | rt (v : Vl) (g : G)

/-! ### storing -/
def Pat.slots : Pat → List Nat
  | .v i => [i]
  | .t0 => []
  | .tc p q => p.slots ++ q.slots
mutual
/-- one datum to a pattern -/
def stP : Pat → D → G → R G
  | .v i, d, g => put g i (.f d)
  | .t0, .tuple [], g => .ok g
  | .t0, .list [], g => .ok g
  | .tc p q, .tuple (x :: xs), g => R.bind (stP p x g) fun g => stQ q xs g
  | .tc p q, .list (x :: xs), g => R.bind (stP p x g) fun g => stQ q xs g
  | _, _, _ => .bad
/-- the rest of a tuple -/
def stQ : Pat → List D → G → R G
  | .t0, [], g => .ok g
  | .tc p q, x :: xs, g => R.bind (stP p x g) fun g => stQ q xs g
  | _, _, _ => .bad
end
/-- several values at once, to names -/
def stVs : Pat → List Vl → G → R G
  | .t0, [], g => .ok g
  | .tc (.v i) q, v :: vs, g => R.bind (put g i v) fun g => stVs q vs g
  | _, _, _ => .bad
def rst (g0 : G) : List Nat → G → G
  | [], g => g
  | i :: r, g => rst g0 r (g.set i ((g0[i]?).getD none))
def wipeG : List Nat → G → G
  | [], g => g
  | i :: r, g => wipeG r (g.set i none)

/-! ### loops -/
def FUEL : Nat := 100000
def whileF (c : G → R (Bool × G)) (b : G → R Fl) : Nat → G → R Fl
  | 0, _ => .bad
  | n + 1, g => R.quiet (c g) fun x => match x.1 with
    | false => .ok (.nx x.2)
    | true => R.quiet (b x.2) fun y => match y with
      | .nx g => whileF c b n g
      | .rt v g => .ok (.rt v g)
def forF (p : Pat) (b : G → R Fl) : List D → G → R Fl
  | [], g => .ok (.nx g)
  | d :: r, g => R.quiet (stP p d g) fun g => R.quiet (b g) fun y => match y with
    | .nx g => forF p b r g
    | .rt v g => .ok (.rt v g)
/-- a comprehension's turns; ws the slots of its own names -/
def lcF (p : Pat) (ws : List Nat) (c : G → R (Bool × G)) (e : G → R (D × G)) : List D → G → List D → R (List D × G)
  | [], g, acc => .ok (acc, g)
  | d :: r, g, acc => R.quiet (stP p d (wipeG ws g)) fun g => R.quiet (c g) fun x => match x.1 with
    | false => lcF p ws c e r x.2 acc
    | true => R.quiet (e x.2) fun y => lcF p ws c e r y.2 (acc ++ [y.1])
/-- two clauses -/
def lc2F (p : Pat) (ws : List Nat) (it : G → R (List D × G)) (inner : List D → G → List D → R (List D × G)) : List D → G → List D → R (List D × G)
  | [], g, acc => .ok (acc, g)
  | d :: r, g, acc => R.quiet (stP p d (wipeG ws g)) fun g => R.quiet (it g) fun x => R.quiet (inner x.1 x.2 acc) fun y => lc2F p ws it inner r y.2 y.1

/-! ### calls -/
/-- the data handed to a def; a slot handed by reference is named -/
def handed (g : G) : List Bool → List Vl → R (List D)
  | [], [] => .ok []
  | false :: io, v :: vs => R.bind v.fz fun d => R.bind (handed g io vs) fun r => .ok (d :: r)
  | true :: io, .r i :: vs => match g[i]? with
    | some (some (.own d)) => R.bind (handed g io vs) fun r => .ok (d :: r)
    | some (some (.io d)) => R.bind (handed g io vs) fun r => .ok (d :: r)
    | _ => .bad
  | true :: io, .o d :: vs => R.bind (handed g io vs) fun r => .ok (d :: r)
  | _, _ => .bad
/-- what comes back -/
def backTo : List Bool → List Vl → List D → G → R G
  | [], [], [], g => .ok g
  | false :: io, _ :: vs, ds, g => backTo io vs ds g
  | true :: io, .r i :: vs, d :: ds, g => R.bind (chg g i fun _ => .ok d) fun g => backTo io vs ds g
  | true :: io, .o _ :: vs, _ :: ds, g => backTo io vs ds g
  | _, _, _, _ => .bad
def refsOf : List Bool → List Vl → List Nat
  | true :: io, .r i :: vs => i :: refsOf io vs
  | _ :: io, _ :: vs => refsOf io vs
  | _, _ => []
def noDup : List Nat → Bool
  | [] => true
  | x :: r => !(r.contains x) && noDup r
/-- a new container may be handed in to be changed if it is the only new one -/
def newCount : List Vl → Nat
  | [] => 0
  | .o _ :: r => newCount r + 1
  | _ :: r => newCount r
def newIo : List Bool → List Vl → Bool
  | true :: io, .o _ :: vs => true
  | _ :: io, _ :: vs => newIo io vs
  | _, _ => false
def okO (io : List Bool) (vs : List Vl) : Bool := !newIo io vs || decide (newCount vs ≤ 1)
/-- out: some t for the law's own def that calls the def t, and catches -/
structure Fn where
  name : Str
  io : List Bool
  n : Nat
  body : S
  out : Option Nat
/-- how a def is called: its number, its data; the value, what the handed containers are then -/
abbrev Caller := Nat → List D → R (Vl × List D)
abbrev Io := Nat → List Bool

/-! ### the evaluator -/
def asBool (d : D) : R Bool := match d with
  | .bool b => .ok b
  | _ => .bad
def asInt? (d : D) : R (Option Int) := match d with
  | .int i => .ok (some i)
  | _ => .bad
def popAt (i : Nat) (k d : D) (g : G) : R (Vl × G) := match d, k with
  | .list a, .int n => if 0 ≤ n ∧ n ≤ LIM then match a[n.toNat]? with
    | some y => R.bind (chg g i fun _ => .ok (.list (a.eraseIdx n.toNat))) fun g => .ok (.f y, g)
    | none => .bad else .bad
  | _, _ => .bad
section
variable (io : Io) (cf : Caller)
mutual
def ev : E → G → R (Vl × G)
  | .cst d, g => .ok (.f d, g)
  | .var i, g => rdv g i
  | .pv i, g => R.bind (pkv g i) fun _ => .ok (.r i, g)
  | .mv i, g => mvv g i
  | .glo _ d, g => .ok (.f d, g)
  | .tup a, g => R.bind (evD a g) fun x => .ok (.f (.tuple x.1), x.2)
  | .lst a, g => R.bind (evD a g) fun x => .ok (.o (.list x.1), x.2)
  | .dct a, g => R.bind (evD a g) fun x => R.bind (.ofO (altPairs x.1)) fun l => if kOks l = true ∧ l.length ≤ 15 then .ok (.o (.dict (dMerge [] l)), x.2) else .bad
  | .bin o a b, g => R.bind (ev a g) fun x => R.bind (ev b x.2) fun y => R.bind (x.1.res y.2) fun d => R.bind (y.1.res y.2) fun e => R.bind (op2 o d e) fun v => .ok (v, y.2)
  | .not a, g => R.bind (ev a g) fun x => R.bind x.1.fz fun d => R.bind (asBool d) fun b => .ok (.f (.bool !b), x.2)
  | .and a, g => R.bind (evAnd a g) fun x => .ok (.f (.bool x.1), x.2)
  | .or a, g => R.bind (evOr a g) fun x => .ok (.f (.bool x.1), x.2)
  | .cmp o a b, g => R.bind (ev a g) fun x => R.bind (ev b x.2) fun y => R.bind (x.1.res y.2) fun d => R.bind (y.1.res y.2) fun e => R.bind (cmpD o d e) fun v => .ok (.f (.bool v), y.2)
  | .chn a b c, g => R.bind (ev a g) fun x => R.bind (ev b x.2) fun y => R.bind (x.1.res y.2) fun d => R.bind (y.1.res y.2) fun e => R.bind (cmpD .le d e) fun v => match v with
    | false => .ok (.f (.bool false), y.2)
    | true => R.bind (ev c y.2) fun z => R.bind (y.1.res z.2) fun e => R.bind (z.1.res z.2) fun h => R.bind (cmpD .le e h) fun v => .ok (.f (.bool v), z.2)
  | .inv neg a b, g => R.bind (ev a g) fun x => R.bind (ev b x.2) fun y => R.bind (x.1.res y.2) fun d => R.bind (y.1.res y.2) fun e => match e with
    | .dict r => if kOks r = true then R.bind (isMem d (.list (r.map (·.2)))) fun v => .ok (.f (.bool (if neg then !v else v)), y.2) else .bad
    | _ => .bad
  | .ife c a b, g => R.bind (ev c g) fun x => R.bind x.1.fz fun d => R.bind (asBool d) fun t => match t with
    | true => ev a x.2
    | false => ev b x.2
  | .sub a i, g => R.bind (ev a g) fun x => R.bind (ev i x.2) fun y => R.bind (x.1.res y.2) fun d => R.bind (y.1.res y.2) fun e => R.bind (ixD d e) fun v => .ok (.f v, y.2)
  | .slc a lo hi, g => R.bind (ev a g) fun x => R.bind (evO lo x.2) fun y => R.bind (evO hi y.2) fun z => R.bind (x.1.res z.2) fun d => R.bind (slcD y.1 z.1 d) fun v => .ok (v, z.2)
  | .rev a, g => R.bind (ev a g) fun x => R.bind (x.1.res x.2) fun d => R.bind (revD d) fun v => .ok (v, x.2)
  | .call f a, g => R.bind (evA a g) fun x => if noDup (refsOf (io f) x.1) = true ∧ okO (io f) x.1 = true then R.bind (handed x.2 (io f) x.1) fun ds => R.bind (cf f ds) fun y => R.bind (backTo (io f) x.1 y.2 x.2) fun g => .ok (y.1, g) else .bad
  | .b1 f a, g => R.bind (ev a g) fun x => R.bind (x.1.res x.2) fun d => R.bind (fn1 f d) fun v => .ok (v, x.2)
  | .mm mx a b, g => R.bind (ev a g) fun x => R.bind (ev b x.2) fun y => R.bind (x.1.res y.2) fun d => R.bind (y.1.res y.2) fun e => match d, e with
    | .int i, .int j => .ok (.f (.int (if mx then (if j > i then j else i) else (if j < i then j else i))), y.2)
    | _, _ => .bad
  | .rngl tu a, g => R.bind (evD a g) fun x => R.bind (rngD x.1) fun l => .ok (if tu then .f (.tuple l) else .o (.list l), x.2)
  | .dzip a b, g => R.bind (ev a g) fun x => R.bind (ev b x.2) fun y => R.bind (x.1.res y.2) fun d => R.bind (y.1.res y.2) fun e => R.bind (dzipD d e) fun v => .ok (v, y.2)
  | .isi a t, g => R.bind (ev a g) fun x => R.bind (x.1.res x.2) fun d => .ok (.f (.bool (isTy t d)), x.2)
  | .get a k d, g => R.bind (ev a g) fun x => R.bind (ev k x.2) fun y => R.bind (ev d y.2) fun z => R.bind (x.1.res z.2) fun r => R.bind y.1.fz fun k => R.bind z.1.fz fun d => R.bind (getD2 r k d) fun v => .ok (.f v, z.2)
  | .me m a b, g => R.bind (ev a g) fun x => R.bind x.1.fz fun d => if meKind m d = true then R.bind (ev b x.2) fun y => R.bind y.1.fz fun e => R.bind (meth m d e) fun v => .ok (v, y.2) else .bad
  | .pop0 i, g => R.bind (pkv g i) fun d => match d with
    | .list a => match a.getLast? with
      | some x => R.bind (chg g i fun _ => .ok (.list a.dropLast)) fun g => .ok (.f x, g)
      | none => .bad
    | _ => .bad
  | .popi i e, g => R.bind (pkv g i) fun d0 => match d0 with
    | .list _ => R.bind (ev e g) fun x => R.bind x.1.fz fun k => R.bind (pkv x.2 i) fun d => popAt i k d x.2
    | _ => .bad
  | .lc e p i c, g => R.bind (evI i g) fun x => if x.1.length ≤ LIM then R.bind (lcF p p.slots (fun g => evC c g) (fun g => R.bind (ev e g) fun y => R.bind y.1.fz fun d => .ok (d, y.2)) x.1 x.2 []) fun y => .ok (.o (.list y.1), rst x.2 p.slots y.2) else .bad
  | .lc2 e p i q j c, g => R.bind (evI i g) fun x => R.bind (lc2F p (p.slots ++ q.slots) (fun g => evI j g)
      (fun l g acc => lcF q q.slots (fun g => evC c g) (fun g => R.bind (ev e g) fun y => R.bind y.1.fz fun d => .ok (d, y.2)) l g acc) x.1 x.2 []) fun y => if y.1.length ≤ LIM then .ok (.o (.list y.1), rst x.2 (p.slots ++ q.slots) y.2) else .bad
/-- a clause's test; none: yes -/
def evC : O → G → R (Bool × G)
  | .no, g => .ok (true, g)
  | .yes e, g => R.bind (ev e g) fun x => R.bind x.1.fz fun d => R.bind (asBool d) fun b => .ok (b, x.2)
def evAnd : A → G → R (Bool × G)
  | .nil, g => .ok (true, g)
  | .cons e a, g => R.bind (ev e g) fun x => R.bind x.1.fz fun d => R.bind (asBool d) fun b => match b with
    | true => evAnd a x.2
    | false => .ok (false, x.2)
def evOr : A → G → R (Bool × G)
  | .nil, g => .ok (false, g)
  | .cons e a, g => R.bind (ev e g) fun x => R.bind x.1.fz fun d => R.bind (asBool d) fun b => match b with
    | true => .ok (true, x.2)
    | false => evOr a x.2
/-- a part of a slice -/
def evO : O → G → R (Option Int × G)
  | .no, g => .ok (none, g)
  | .yes e, g => R.bind (ev e g) fun x => R.bind x.1.fz fun d => R.bind (asInt? d) fun i => .ok (i, x.2)
/-- values, from the left -/
def evA : A → G → R (List Vl × G)
  | .nil, g => .ok ([], g)
  | .cons e a, g => R.bind (ev e g) fun x => R.bind (evA a x.2) fun y => .ok (x.1 :: y.1, y.2)
/-- frozen data, from the left -/
def evD : A → G → R (List D × G)
  | .nil, g => .ok ([], g)
  | .cons e a, g => R.bind (ev e g) fun x => R.bind x.1.fz fun d => R.bind (evD a x.2) fun y => .ok (d :: y.1, y.2)
def evI : I → G → R (List D × G)
  | .e x, g => R.bind (ev x g) fun x => R.bind x.1.fz fun d => R.bind (itemsOf d) fun l => .ok (l, x.2)
  | .rng a, g => R.bind (evD a g) fun x => R.bind (rngD x.1) fun l => .ok (l, x.2)
  | .enu x, g => R.bind (ev x g) fun x => R.bind x.1.fz fun d => R.bind (seqOf d) fun l => .ok (enumD l 0, x.2)
  | .zip a, g => R.bind (evD a g) fun x => R.bind (zipD x.1) fun l => .ok (l, x.2)
  | .vals x, g => R.bind (ev x g) fun x => match x.1 with
    | .o (.dict r) => if kOks r = true then .ok (r.map (·.2), x.2) else .bad
    | _ => .bad
end
/-- a test -/
def tst (e : E) (g : G) : R (Bool × G) := R.bind (ev io cf e g) fun x => R.bind x.1.fz fun d => R.bind (asBool d) fun b => .ok (b, x.2)
def exec : S → G → R Fl
  | .skip, g => .ok (.nx g)
  | .seq s t, g => R.bind (exec s g) fun x => match x with
    | .nx g => exec t g
    | .rt v g => .ok (.rt v g)
  | .asg (.v i) e, g => R.bind (ev io cf e g) fun x => R.bind (put x.2 i x.1) fun g => .ok (.nx g)
  | .asg p e, g => R.bind (ev io cf e g) fun x => R.bind x.1.fz fun d => R.bind (stP p d x.2) fun g => .ok (.nx g)
  | .par p a, g => R.bind (evA io cf a g) fun x => R.bind (stVs p x.1 x.2) fun g => .ok (.nx g)
  | .seti i k v, g => R.bind (pkv g i) fun _ => R.bind (ev io cf v g) fun x => R.bind x.1.fz fun v => R.bind (ev io cf k x.2) fun y => R.bind y.1.fz fun k => R.bind (chg y.2 i (setIx k v)) fun g => .ok (.nx g)
  | .app i e, g => R.bind (pkv g i) fun d0 => if isLst d0 = true then R.bind (ev io cf e g) fun x => R.bind x.1.fz fun v => R.bind (chg x.2 i (appD v)) fun g => .ok (.nx g) else .bad
  | .ext i e, g => R.bind (pkv g i) fun d0 => if isLst d0 = true then R.bind (ev io cf e g) fun x => R.bind (x.1.res x.2) fun v => R.bind (chg x.2 i (extD v)) fun g => .ok (.nx g) else .bad
  | .upd i e, g => R.bind (pkv g i) fun d0 => if isDct d0 = true then R.bind (ev io cf e g) fun x => if notSlot i x.1 = true then R.bind (x.1.res x.2) fun v => R.bind (chg x.2 i (updD v)) fun g => .ok (.nx g) else .bad else .bad
  | .ex e, g => R.bind (ev io cf e g) fun x => .ok (.nx x.2)
  | .ite c s t, g => R.bind (tst io cf c g) fun x => match x.1 with
    | true => exec s x.2
    | false => exec t x.2
  | .whl c s, g => whileF (fun g => tst io cf c g) (fun g => exec s g) FUEL g
  | .for_ p i s, g => R.quiet (evI io cf i g) fun x => forF p (fun g => exec s g) x.1 x.2
  | .ret e, g => R.bind (ev io cf e g) fun x => match x.1 with
    | .r _ => .bad
    | v => .ok (.rt v x.2)
  | .rse c _, _ => .exc c
end

/-! ### a program -/
def startG (io : List Bool) (n : Nat) (ds : List D) : G := (ds.zip io).map (fun p => some (if p.2 then .io p.1 else .frz p.1)) ++ List.replicate (n - ds.length) none
def outsG : List Bool → G → R (List D)
  | [], _ => .ok []
  | false :: io, _ :: g => outsG io g
  | true :: io, some (.io d) :: g => R.bind (outsG io g) fun r => .ok (d :: r)
  | _, _ => .bad
def ioOf (P : List Fn) : Io := fun f => match P[f]? with
  | some F => F.io
  | none => []
def excNames : List Str := ["InvalidRound", "InvalidNames", "InvalidWord", "InvalidMatrix", "InvalidDirection", "InvalidNumber", "InvalidRounds", "InvalidText", "TooMany", "NothingToUndo"]
def excIx (c : Str) : List Str → Nat → Option Nat
  | [], _ => none
  | x :: r, n => if x = c then some n else excIx c r (n + 1)
def outcome (r : R (Vl × List D)) : R (Vl × List D) := match r with
  | .ok (v, []) => R.bind v.fz fun d => .ok (.f (.tuple [.str "returned", d]), [])
  | .exc c => R.bind (.ofO (excIx c excNames 0)) fun n => .ok (.f (.tuple [.str "raised", .int n]), [])
  | _ => .bad
/-- a def run to its end; k: how deep calls may go -/
def run (P : List Fn) : Nat → Caller
  | 0 => fun _ _ => .bad
  | k + 1 => fun f ds => match P[f]? with
    | none => .bad
    | some F => if ds.length = F.io.length then match F.out with
      | some t => outcome (run P k t ds)
      | none => R.bind (exec (ioOf P) (run P k) F.body (startG F.io F.n ds)) fun x => match x with
        | .nx g => R.bind (outsG F.io g) fun l => .ok (.f .none, l)
        | .rt v g => R.bind (outsG F.io g) fun l => .ok (v, l)
      else .bad
end Dat

/-! Dat, part B1: what code does, said of values; how data lie in the heap; the state of the slots. -/
namespace Dat
open PySem PySem.Spec PyProof.Rows L2

/-! ### code by its weakest wish -/
section
variable (X : Cx)
def wE (e : Expr) (σ : L2.St) (H : Hp) (Q : VK) : Prop := ∀ (pins : List (Addr × Obj)) (s : Shared), Inv X pins σ H s → wpAny (model X.prog X.w) X.A (eval e X.env) (EP X pins σ Q) X.xe s
def wT (e : Expr) (σ : L2.St) (H : Hp) (Q : Bool → Hp → Prop) : Prop := ∀ (pins : List (Addr × Obj)) (s : Shared), Inv X pins σ H s → wpAny (model X.prog X.w) X.A (isTrue e X.env (eval e X.env)) (TP X pins σ Q) X.xe s
def wA (es : List Expr) (σ : L2.St) (H : Hp) (Q : List V → Hp → Prop) : Prop := ∀ (pos : Pos) (pins : List (Addr × Obj)) (s : Shared), Inv X pins σ H s → wpAny (model X.prog X.w) X.A (spliced (PySem.backTo pos (starEach es X.env))) (AP X pins σ Q) X.xe s
def wS (st : Stmt) (Dn : Ends) (σ : L2.St) (H : Hp) : Prop := ∀ (pins : List (Addr × Obj)) (s : Shared), Inv X pins σ H s → wpAny (model X.prog X.w) X.A (PySem.exec st X.env) (SP X pins Dn) X.xe s
def wSs (st : List Stmt) (Dn : Ends) (σ : L2.St) (H : Hp) : Prop := ∀ (pins : List (Addr × Obj)) (s : Shared), Inv X pins σ H s → wpAny (model X.prog X.w) X.A (execs st X.env) (SP X pins Dn) X.xe s
def wO (f : Value → Value → Sem Value) (x y : V) (H : Hp) (Q : VK) : Prop := ∀ (pins : List (Addr × Obj)) (s : Shared) (σ : L2.St) (v u : Value), Inv X pins σ H s → RelV x v → RelV y u → wpAny (model X.prog X.w) X.A (f v u) (EP X pins σ Q) X.xe s
def wU (f : Value → Sem Value) (x : V) (H : Hp) (Q : VK) : Prop := ∀ (pins : List (Addr × Obj)) (s : Shared) (σ : L2.St) (v : Value), Inv X pins σ H s → RelV x v → wpAny (model X.prog X.w) X.A (f v) (EP X pins σ Q) X.xe s
end
section
variable {X : Cx}
theorem PE.w {e : Expr} : PE X e (wE X e) := ⟨fun pins s _ _ _ I h => h pins s I⟩
theorem PT.w {e : Expr} : PT X e (wT X e) := ⟨fun pins s _ _ _ I h => h pins s I⟩
theorem PA.w {es : List Expr} : PA X es (wA X es) := ⟨fun pos pins s _ _ _ I h => h pos pins s I⟩
theorem PS.w {st : Stmt} : PS X st (wS X st) := ⟨fun pins s _ _ _ I h => h pins s I⟩
theorem PSs.w {st : List Stmt} : PSs X st (wSs X st) := ⟨fun pins s _ _ _ I h => h pins s I⟩
theorem wE.of {e : Expr} {t : TE} {σ : L2.St} {H : Hp} {Q : VK} (h : PE X e t) (q : t σ H Q) : wE X e σ H Q := fun pins s I => h.run pins s σ H Q I q
theorem wT.of {e : Expr} {t : TT} {σ : L2.St} {H : Hp} {Q : Bool → Hp → Prop} (h : PT X e t) (q : t σ H Q) : wT X e σ H Q := fun pins s I => h.run pins s σ H Q I q
theorem wA.of {e : List Expr} {t : TA} {σ : L2.St} {H : Hp} {Q : List V → Hp → Prop} (h : PA X e t) (q : t σ H Q) : wA X e σ H Q := fun pos pins s I => h.run pos pins s σ H Q I q
theorem wS.of {e : Stmt} {t : TS} {σ : L2.St} {H : Hp} {D : Ends} (h : PS X e t) (q : t D σ H) : wS X e D σ H := fun pins s I => h.run pins s σ H D I q
theorem wSs.of {e : List Stmt} {t : TS} {σ : L2.St} {H : Hp} {D : Ends} (h : PSs X e t) (q : t D σ H) : wSs X e D σ H := fun pins s I => h.run pins s σ H D I q
theorem wE.mono {e : Expr} {σ : L2.St} {H : Hp} {Q Q' : VK} (h : wE X e σ H Q) (q : ∀ v H', Q v H' → Q' v H') : wE X e σ H Q' := fun pins s I => thn (h pins s I) fun _ _ ⟨v, H', I', r, z⟩ => ⟨v, H', I', r, q v H' z⟩
theorem wT.mono {e : Expr} {σ : L2.St} {H : Hp} {Q Q' : Bool → Hp → Prop} (h : wT X e σ H Q) (q : ∀ v H', Q v H' → Q' v H') : wT X e σ H Q' := fun pins s I => thn (h pins s I) fun _ _ ⟨H', I', z⟩ => ⟨H', I', q _ H' z⟩
theorem opW {f : Value → Value → Sem Value} : OpR X f (wO X f) := fun pins s σ H x y v u Q I rx ry h => h pins s σ v u I rx ry
theorem wO.of {f : Value → Value → Sem Value} {r : R2} {x y : V} {H : Hp} {Q : VK} (h : OpR X f r) (q : r x y H Q) : wO X f x y H Q := fun pins s σ v u I rx ry => h pins s σ H x y v u Q I rx ry q
theorem unW {f : Value → Sem Value} : UnR X f (wU X f) := fun pins s σ H x v Q I rx h => h pins s σ v I rx
theorem wU.of {f : Value → Sem Value} {r : V → Hp → VK → Prop} {x : V} {H : Hp} {Q : VK} (h : UnR X f r) (q : r x H Q) : wU X f x H Q := fun pins s σ v I rx => h pins s σ H x v Q I rx q
end

/-! ### data in the heap -/
/-- a tuple whose object is known to have no attributes -/
def TupN (K : PySem.W.Frag) (H : Hp) (a : Addr) (xs : List V) : Prop := (∃ o : Obj, H a = some (.frz o (.tup xs)) ∧ o.dict = none) ∨
  ∃ (o : Obj) (its : Array Value) (n : Nat), K.lookup a = some o ∧ o.dict = none ∧ o.cls = .type "tuple" ∧ o.data = .seq its n ∧ its.size ≤ sizeLine ∧ Vals xs its.toList
theorem TupN.sq {K : PySem.W.Frag} {H : Hp} {a : Addr} {xs : List V} (h : TupN K H a xs) : SqT K H a xs := by
  rcases h with ⟨o, h, _⟩ | ⟨o, its, n, h1, _, h2⟩
  · exact .inl (.inr ⟨o, h⟩)
  · exact .inr ⟨o, its, n, h1, h2⟩
theorem TupN.mono {K : PySem.W.Frag} {H H' : Hp} {a : Addr} {xs : List V} (e : Same H H') (h : TupN K H a xs) : TupN K H' a xs := by
  rcases h with ⟨o, h, d⟩ | h
  · exact .inl ⟨o, e _ _ h, d⟩
  · exact .inr h
mutual
inductive Rp (K : PySem.W.Frag) (H : Hp) : V → D → Prop
  | non : Rp K H .non .none
  | bl (b : Bool) : Rp K H (.bl b) (.bool b)
  | int (i : Int) : Rp K H (.int i) (.int i)
  | str (x : Str) : Rp K H (.str x) (.str x)
  | lst {a : Addr} {xs : List V} {ds : List D} : H a = some (.lst xs) → RpAll K H xs ds → Rp K H (.ref a) (.list ds)
  | scr {a : Addr} {xs : List V} {ds : List D} : SqL K H a xs → RpAll K H xs ds → Rp K H (.ref a) (.dict [(.none, .list ds)])
  | tup {a : Addr} {xs : List V} {ds : List D} : TupN K H a xs → RpAll K H xs ds → Rp K H (.ref a) (.tuple ds)
  | dct {a : Addr} : H a = some (.dK []) → Rp K H (.ref a) (.dict [])
inductive RpAll (K : PySem.W.Frag) (H : Hp) : List V → List D → Prop
  | nil : RpAll K H [] []
  | cons {v : V} {vs : List V} {d : D} {ds : List D} : Rp K H v d → RpAll K H vs ds → RpAll K H (v :: vs) (d :: ds)
end
theorem Rd.mono {H H' : Hp} {a : Addr} {u : HO} (e : Same H H') (h : Rd H a u) : Rd H' a u := by
  rcases h with h | ⟨o, h⟩
  · exact .inl (e _ _ h)
  · exact .inr ⟨o, e _ _ h⟩
theorem SqT.mono {K : PySem.W.Frag} {H H' : Hp} {a : Addr} {xs : List V} (e : Same H H') (h : SqT K H a xs) : SqT K H' a xs := by
  rcases h with h | h
  · exact .inl (Rd.mono e h)
  · exact .inr h
theorem SqL.mono {K : PySem.W.Frag} {H H' : Hp} {a : Addr} {xs : List V} (e : Same H H') (h : SqL K H a xs) : SqL K H' a xs := by
  rcases h with h | h
  · exact .inl (Rd.mono e h)
  · exact .inr h
mutual
theorem Rp.mono {K : PySem.W.Frag} {H H' : Hp} (e : Same H H') : ∀ {v : V} {d : D}, Rp K H v d → Rp K H' v d
  | _, _, .non => .non
  | _, _, .bl b => .bl b
  | _, _, .int i => .int i
  | _, _, .str x => .str x
  | _, _, .lst h r => .lst (e _ _ h) (RpAll.mono e r)
  | _, _, .scr h r => .scr (SqL.mono e h) (RpAll.mono e r)
  | _, _, .tup h r => .tup (TupN.mono e h) (RpAll.mono e r)
  | _, _, .dct h => .dct (e _ _ h)
theorem RpAll.mono {K : PySem.W.Frag} {H H' : Hp} (e : Same H H') : ∀ {v : List V} {d : List D}, RpAll K H v d → RpAll K H' v d
  | _, _, .nil => .nil
  | _, _, .cons h r => .cons (Rp.mono e h) (RpAll.mono e r)
end
section
variable {K : PySem.W.Frag} {H : Hp}
theorem RpAll.length : ∀ {vs : List V} {ds : List D}, RpAll K H vs ds → vs.length = ds.length
  | _, _, .nil => rfl
  | _, _, .cons _ r => by simp [RpAll.length r]
theorem RpAll.get : ∀ {vs : List V} {ds : List D} {i : Nat} {d : D}, RpAll K H vs ds → ds[i]? = some d → ∃ v, vs[i]? = some v ∧ Rp K H v d
  | _, _, _, _, .nil, e => by simp at e
  | _, _, 0, _, .cons r _, e => by simp at e; subst e; exact ⟨_, rfl, r⟩
  | _, _, i + 1, d, .cons _ t, e => by
    obtain ⟨v, h1, h2⟩ := RpAll.get (i := i) (d := d) t (by simpa using e)
    exact ⟨v, by simpa using h1, h2⟩
theorem RpAll.getV : ∀ {vs : List V} {ds : List D} {i : Nat} {v : V}, RpAll K H vs ds → vs[i]? = some v → ∃ d, ds[i]? = some d ∧ Rp K H v d
  | _, _, _, _, .nil, e => by simp at e
  | _, _, 0, _, .cons r _, e => by simp at e; subst e; exact ⟨_, rfl, r⟩
  | _, _, i + 1, v, .cons _ t, e => by
    obtain ⟨d, h1, h2⟩ := RpAll.getV (i := i) (v := v) t (by simpa using e)
    exact ⟨d, by simpa using h1, h2⟩
theorem RpAll.append : ∀ {vs ws : List V} {ds es : List D}, RpAll K H vs ds → RpAll K H ws es → RpAll K H (vs ++ ws) (ds ++ es)
  | _, _, _, _, .nil, s => s
  | _, _, _, _, .cons r t, s => .cons r (RpAll.append t s)
theorem RpAll.take : ∀ {vs : List V} {ds : List D} (n : Nat), RpAll K H vs ds → RpAll K H (vs.take n) (ds.take n)
  | _, _, 0, _ => .nil
  | _, _, _ + 1, .nil => .nil
  | _, _, n + 1, .cons r t => .cons r (RpAll.take n t)
theorem RpAll.drop : ∀ {vs : List V} {ds : List D} (n : Nat), RpAll K H vs ds → RpAll K H (vs.drop n) (ds.drop n)
  | _, _, 0, r => r
  | _, _, _ + 1, .nil => .nil
  | _, _, n + 1, .cons _ t => RpAll.drop n t
theorem RpAll.set {v : V} {d : D} (r : Rp K H v d) : ∀ {vs : List V} {ds : List D} (i : Nat), RpAll K H vs ds → RpAll K H (vs.set i v) (ds.set i d)
  | _, _, _, .nil => .nil
  | _, _, 0, .cons _ t => .cons r t
  | _, _, i + 1, .cons q t => .cons q (RpAll.set r i t)
theorem RpAll.eraseIdx : ∀ {vs : List V} {ds : List D} (i : Nat), RpAll K H vs ds → RpAll K H (vs.eraseIdx i) (ds.eraseIdx i)
  | _, _, _, .nil => .nil
  | _, _, 0, .cons _ t => t
  | _, _, i + 1, .cons q t => .cons q (RpAll.eraseIdx i t)
theorem RpAll.dropLast : ∀ {vs : List V} {ds : List D}, RpAll K H vs ds → RpAll K H vs.dropLast ds.dropLast
  | _, _, .nil => .nil
  | _, _, .cons _ .nil => .nil
  | _, _, .cons r (.cons q t) => .cons r (RpAll.dropLast (.cons q t))
theorem RpAll.reverse : ∀ {vs : List V} {ds : List D}, RpAll K H vs ds → RpAll K H vs.reverse ds.reverse
  | _, _, .nil => .nil
  | _, _, .cons r t => by
    rw [List.reverse_cons, List.reverse_cons]
    exact (RpAll.reverse t).append (.cons r .nil)
end

/-! ### a dict of one's own -/
def kIs : L2.Key → D → Prop
  | .inl i, d => d = .int i
  | .inr x, d => d = .str x
/-- the pairs of a dict with plain keys -/
def DicR (K : PySem.W.Frag) (Gz : Hp) : List (L2.Key × V) → List (D × D) → Prop := Paired fun p q => kIs p.1 q.1 ∧ Rp K Gz p.2 q.2
def DictAt (K : PySem.W.Frag) (Gz H : Hp) (a : Addr) (r : List (D × D)) : Prop := ∃ kvs, H a = some (.dK kvs) ∧ DicR K Gz kvs r ∧ (kvs.map (·.1)).Nodup
def OwnAt (K : PySem.W.Frag) (Gz H : Hp) (a : Addr) : D → Prop
  | .list ds => ∃ vs, H a = some (.lst vs) ∧ RpAll K Gz vs ds
  | .dict r => DictAt K Gz H a r
  | _ => False
theorem DicR.mono {K : PySem.W.Frag} {H H' : Hp} (e : Same H H') : ∀ {x : List (L2.Key × V)} {y : List (D × D)}, DicR K H x y → DicR K H' x y
  | _, _, .nil => .nil
  | _, _, .cons h t => .cons ⟨h.1, h.2.mono e⟩ (DicR.mono e t)
theorem OwnAt.mono {K : PySem.W.Frag} {Gz Gz' H H' : Hp} {a : Addr} (e : Same Gz Gz') (h : ∀ o, H a = some o → H' a = some o) : ∀ {d : D}, OwnAt K Gz H a d → OwnAt K Gz' H' a d
  | .list ds, ⟨vs, x, r⟩ => ⟨vs, h _ x, r.mono e⟩
  | .dict r, ⟨kvs, x, y, z⟩ => ⟨kvs, h _ x, y.mono e, z⟩
theorem OwnAt.there {K : PySem.W.Frag} {Gz H : Hp} {a : Addr} : ∀ {d : D}, OwnAt K Gz H a d → ∃ o, H a = some o
  | .list ds, ⟨vs, x, r⟩ => ⟨_, x⟩
  | .dict r, ⟨kvs, x, y⟩ => ⟨_, x⟩

/-! ### the state of the slots -/
def OwnSlot (g : G) (i : Nat) : Prop := (∃ d, g[i]? = some (some (.own d))) ∨ ∃ d, g[i]? = some (some (.io d))
def Owned (g : G) (σ : L2.St) (a : Addr) : Prop := ∃ i, OwnSlot g i ∧ σ[i]? = some (some (.ref a))
structure Rel (K : PySem.W.Frag) (ia : Nat → Option Addr) (Hz Gy : Hp) (g : G) (σ : L2.St) (H Gz : Hp) : Prop where
  len : g.length = σ.length
  sub : Same Gz H
  frz : ∀ (i : Nat) (d : D), g[i]? = some (some (.frz d)) → ∃ v, σ[i]? = some (some v) ∧ Rp K Gz v d
  own : ∀ (i : Nat) (d : D), g[i]? = some (some (.own d)) → ∃ a, σ[i]? = some (some (.ref a)) ∧ Gz a = none ∧ OwnAt K Gz H a d ∧ Hz a = none
  io : ∀ (i : Nat) (d : D), g[i]? = some (some (.io d)) → ∃ a, ia i = some a ∧ σ[i]? = some (some (.ref a)) ∧ Gz a = none ∧ OwnAt K Gz H a d
  sep : ∀ (i j : Nat) (a : Addr), i ≠ j → OwnSlot g i → OwnSlot g j → σ[i]? = some (some (.ref a)) → σ[j]? = some (some (.ref a)) → False
  keep : ∀ a o, Hz a = some o → (∀ i, ia i ≠ some a) → H a = some o
  gz0 : Same Gy Gz
  gr0 : ∀ a, Hz a ≠ none → Gy a = none → Gz a = none
  al0 : ∀ a, H a = none → Hz a = none
/-- from one state to a later one, the slots being the same -/
structure Stp (g g' : G) (σ : L2.St) (H H' Gz Gz' : Hp) : Prop where
  gz : Same Gz Gz'
  fr : ∀ a o, H a = some o → ¬ Owned g σ a → H' a = some o
  gr : ∀ a, H a ≠ none → Gz a = none → ¬ Owned g σ a → Gz' a = none
  sh : ∀ a, Owned g' σ a → Owned g σ a
  al : ∀ a, H' a = none → H a = none
theorem Stp.refl {g : G} {σ : L2.St} {H Gz : Hp} : Stp g g σ H H Gz Gz := ⟨Same.refl _, fun _ _ h _ => h, fun _ _ h _ => h, fun _ h => h, fun _ h => h⟩
theorem Stp.trans {g g1 g2 : G} {σ : L2.St} {H H1 H2 Gz Gz1 Gz2 : Hp} (a : Stp g g1 σ H H1 Gz Gz1) (b : Stp g1 g2 σ H1 H2 Gz1 Gz2) : Stp g g2 σ H H2 Gz Gz2 where
  gz := a.gz.trans b.gz
  fr := fun x o h n => b.fr x o (a.fr x o h n) fun z => n (a.sh x z)
  gr := fun x h z n => b.gr x (fun e => h (a.al x e)) (a.gr x h z n) fun z => n (a.sh x z)
  sh := fun x h => a.sh x (b.sh x h)
  al := fun x h => a.al x (b.al x h)
/-- what may be claimed: it did not stand before, or a slot had it -/
def Fs (g : G) (σ : L2.St) (H : Hp) (a : Addr) : Prop := H a = none ∨ Owned g σ a
/-- a value and what it stands for; F: what may be claimed -/
def VRep (K : PySem.W.Frag) (Hz : Hp) (σ : L2.St) (x : Vl) (v : V) (g : G) (F : Addr → Prop) (H Gz : Hp) : Prop := match x with
  | .f d => Rp K Gz v d
  | .o d => ∃ a, v = .ref a ∧ Gz a = none ∧ OwnAt K Gz H a d ∧ Hz a = none ∧ ¬ Owned g σ a ∧ F a
  | .r i => σ[i]? = some (some v)
/-- what data can be read off a value -/
def Vw (K : PySem.W.Frag) (v : V) (d : D) (H Gz : Hp) : Prop := Rp K Gz v d ∨ ∃ a, v = .ref a ∧ OwnAt K Gz H a d
theorem VRep.mono {K : PySem.W.Frag} {Hz : Hp} {σ : L2.St} {x : Vl} {v : V} {g : G} {F0 F1 : Addr → Prop} {H Gz : Hp} (h : VRep K Hz σ x v g F1 H Gz) (al : ∀ a, F1 a → F0 a) : VRep K Hz σ x v g F0 H Gz := by
  cases x with
  | f d => exact h
  | o d =>
    obtain ⟨a, e, gn, oa, hz, no, hn⟩ := h
    exact ⟨a, e, gn, oa, hz, no, al a hn⟩
  | r i => exact h
theorem VRep.step {K : PySem.W.Frag} {Hz : Hp} {σ : L2.St} {x : Vl} {v : V} {g g' : G} {F : Addr → Prop} {H H' Gz Gz' : Hp} (h : VRep K Hz σ x v g F H Gz) (s : Stp g g' σ H H' Gz Gz') : VRep K Hz σ x v g' F H' Gz' := by
  cases x with
  | f d => exact Rp.mono s.gz h
  | o d =>
    obtain ⟨a, e, gn, oa, hz, no, hn⟩ := h
    obtain ⟨o, ho⟩ := (OwnAt.there oa)
    exact ⟨a, e, s.gr a (by rw [ho]; exact Option.some_ne_none o) gn no, oa.mono s.gz fun o h => s.fr a o h no, hz, fun z => no (s.sh a z), hn⟩
  | r i => exact h
theorem VRep.vw {K : PySem.W.Frag} {ia : Nat → Option Addr} {Hz Gy : Hp} {σ : L2.St} {x : Vl} {v : V} {g : G} {F : Addr → Prop} {H Gz : Hp} {d : D} (h : VRep K Hz σ x v g F H Gz) (rl : Rel K ia Hz Gy g σ H Gz) (e : x.res g = .ok d) : Vw K v d H Gz := by
  cases x with
  | f d' => cases e; exact .inl h
  | o d' =>
    cases e
    obtain ⟨a, e, gn, oa, hz, no⟩ := h
    exact .inr ⟨a, e, oa⟩
  | r i =>
    have e : pkv g i = .ok d := e
    unfold pkv at e
    split at e
    · rename_i b hb
      cases e
      have h : σ[i]? = some (some v) := h
      cases b with
      | frz d =>
        obtain ⟨v', h1, h2⟩ := rl.frz i d hb
        rw [h] at h1; cases h1
        exact .inl h2
      | own d =>
        obtain ⟨a, h1, _, h2, _⟩ := rl.own i d hb
        rw [h] at h1; cases h1
        exact .inr ⟨a, rfl, h2⟩
      | io d =>
        obtain ⟨a, _, h1, _, h2⟩ := rl.io i d hb
        rw [h] at h1; cases h1
        exact .inr ⟨a, rfl, h2⟩
    · cases e

/-! ### the law of one step behind another -/
/-- what is fixed in a body: K; the heap at its entry, its shared part; the places that were handed in to be changed; what is wanted where an exception leaves -/
structure Cz where
  K : PySem.W.Frag
  Hz : Hp
  Gy : Hp
  ia : Nat → Option Addr
  W : WX
  ca : Str → Addr
abbrev Cz.Rl (C : Cz) (g : G) (σ : L2.St) (H Gz : Hp) : Prop := Rel C.K C.ia C.Hz C.Gy g σ H Gz
def Cz.Kept (C : Cz) (H : Hp) : Prop := ∀ a o, C.Hz a = some o → (∀ i, C.ia i ≠ some a) → H a = some o
theorem Stp.fs {g g' : G} {σ : L2.St} {H H' Gz Gz' : Hp} (s : Stp g g' σ H H' Gz Gz') : ∀ a, Fs g' σ H' a → Fs g σ H a := fun a h => h.elim (fun z => .inl (s.al a z)) fun z => .inr (s.sh a z)
/-- what a result stands for: the slots, what may be claimed, the heap behind, its shared part -/
structure Rep (α β : Type) where
  r : α → β → G → (Addr → Prop) → Hp → Hp → Prop
  mono : ∀ {a b g F0 F1 H Gz}, r a b g F1 H Gz → (∀ x, F1 x → F0 x) → r a b g F0 H Gz
def repV (K : PySem.W.Frag) (Hz : Hp) (σ : L2.St) : Rep Vl V := ⟨fun x v g F H Gz => VRep K Hz σ x v g F H Gz, fun h al => VRep.mono h al⟩
def repD (K : PySem.W.Frag) : Rep D V := ⟨fun d v _ _ _ Gz => Rp K Gz v d, fun h _ => h⟩
def repDs (K : PySem.W.Frag) : Rep (List D) (List V) := ⟨fun d v _ _ _ Gz => RpAll K Gz v d, fun h _ => h⟩
def repB : Rep Bool Bool := ⟨fun b c _ _ _ _ => b = c, fun h _ => h⟩
def repI : Rep (Option Int) (Option Int) := ⟨fun b c _ _ _ _ => b = c, fun h _ => h⟩
abbrev FsOk (F : Addr → Prop) (g : G) (σ : L2.St) (H : Hp) : Prop := ∀ a, Fs g σ H a → F a
/-- F: what may be claimed by the whole -/
def Res {α β : Type} (C : Cz) (σ : L2.St) (F : Addr → Prop) (rep : Rep α β) (g : G) (H Gz : Hp) (r : R (α × G)) (wp : (β → Hp → Prop) → Prop) : Prop := match r with
  | .ok x => ∀ Q, (∀ b H' Gz', C.Rl x.2 σ H' Gz' → Stp g x.2 σ H H' Gz Gz' → rep.r x.1 b x.2 F H' Gz' → Q b H') → wp Q
  | .exc c => ∀ Q, (∀ H', C.Kept H' → C.W (.ref (C.ca c)) none σ H') → wp Q
  | .bad => True
section
variable {α β γ δ : Type} {C : Cz} {σ : L2.St} {F : Addr → Prop} {rep : Rep α β} {rep' : Rep γ δ} {g : G} {H Gz : Hp}
theorem Res.bind {r : R (α × G)} {k : α × G → R (γ × G)} {wpa : (β → Hp → Prop) → Prop} {wpb : β → Hp → (δ → Hp → Prop) → Prop} (hF : FsOk F g σ H) (h : Res C σ F rep g H Gz r wpa)
    (hk : ∀ a b g1 H1 Gz1, r = .ok (a, g1) → FsOk F g1 σ H1 → C.Rl g1 σ H1 Gz1 → Stp g g1 σ H H1 Gz Gz1 → rep.r a b g1 F H1 Gz1 → Res C σ F rep' g1 H1 Gz1 (k (a, g1)) (wpb b H1)) :
    Res C σ F rep' g H Gz (R.bind r k) (fun Q => wpa fun b H1 => wpb b H1 Q) := by
  cases hr : r with
  | bad => exact trivial
  | exc c =>
    rw [hr] at h
    exact fun Q hx => h _ hx
  | ok x =>
    obtain ⟨a, g1⟩ := x
    rw [hr] at h
    show Res C σ F rep' g H Gz (k (a, g1)) _
    cases hk1 : k (a, g1) with
    | bad => exact trivial
    | exc c =>
      refine fun Q hx => h _ fun b H' Gz' rl st rp => ?_
      have q := hk a b g1 H' Gz' hr (fun z hz => hF z (st.fs z hz)) rl st rp
      rw [hk1] at q
      exact q Q hx
    | ok y =>
      refine fun Q hQ => h _ fun b H' Gz' rl st rp => ?_
      have q := hk a b g1 H' Gz' hr (fun z hz => hF z (st.fs z hz)) rl st rp
      rw [hk1] at q
      exact q Q fun d H2 Gz2 rl2 st2 rp2 => hQ d H2 Gz2 rl2 (st.trans st2) rp2
theorem Res.imp {r : R (α × G)} {wp wp' : (β → Hp → Prop) → Prop} (h : Res C σ F rep g H Gz r wp) (i : ∀ Q, wp Q → wp' Q) : Res C σ F rep g H Gz r wp' := by
  cases r with
  | bad => exact trivial
  | exc c => exact fun Q hx => i Q (h Q hx)
  | ok x => exact fun Q hx => i Q (h Q hx)
/-- a step that only reckons -/
theorem Res.data {ε : Type} {r : R ε} {k : ε → R (γ × G)} {wp : (δ → Hp → Prop) → Prop} (hx : ∀ c, r ≠ .exc c) (hk : ∀ d, r = .ok d → Res C σ F rep' g H Gz (k d) wp) : Res C σ F rep' g H Gz (R.bind r k) wp := by
  cases hr : r with
  | bad => exact trivial
  | exc c => exact absurd hr (hx c)
  | ok d => exact hk d hr
end
theorem bind_assoc {α β γ : Type} (r : R α) (k : α → R β) (h : β → R γ) : R.bind (R.bind r k) h = R.bind r fun a => R.bind (k a) h := by cases r <;> rfl

/-! ### steps of the state -/
section
variable {C : Cz} {g : G} {σ : L2.St} {H Gz : Hp}
theorem Rel.noOwn (rl : C.Rl g σ H Gz) {a : Addr} (h : Owned g σ a) : Gz a = none ∧ ∃ o, H a = some o := by
  obtain ⟨i, hi, e⟩ := h
  rcases hi with ⟨d, hi⟩ | ⟨d, hi⟩
  · obtain ⟨a', e', gn, oa, _⟩ := rl.own i d hi
    rw [e] at e'; cases e'
    exact ⟨gn, (OwnAt.there oa)⟩
  · obtain ⟨a', _, e', gn, oa⟩ := rl.io i d hi
    rw [e] at e'; cases e'
    exact ⟨gn, (OwnAt.there oa)⟩
theorem Rel.gfree (rl : C.Rl g σ H Gz) {a : Addr} (h : H a = none) : Gz a = none := rl.sub.free h
/-- something new is tracked -/
theorem Rel.new (rl : C.Rl g σ H Gz) {H' : Hp} (e : Same H H') : C.Rl g σ H' Gz where
  len := rl.len
  sub := rl.sub.trans e
  frz := rl.frz
  own := fun i d h => let ⟨a, h1, h2, h3, h4⟩ := rl.own i d h; ⟨a, h1, h2, h3.mono (Same.refl _) fun o => e a o, h4⟩
  io := fun i d h => let ⟨a, h0, h1, h2, h3⟩ := rl.io i d h; ⟨a, h0, h1, h2, h3.mono (Same.refl _) fun o => e a o⟩
  sep := rl.sep
  keep := fun a o h1 h2 => e a o (rl.keep a o h1 h2)
  gz0 := rl.gz0
  gr0 := rl.gr0
  al0 := fun a h => rl.al0 a (e.free h)
theorem Stp.new {H' : Hp} (e : Same H H') : Stp g g σ H H' Gz Gz := ⟨Same.refl _, fun a o h _ => e a o h, fun _ _ h _ => h, fun _ h => h, fun _ h => e.free h⟩
/-- what is tracked, and no slot's own, is shared from now on -/
theorem Rel.share (rl : C.Rl g σ H Gz) {a : Addr} {o : HO} (ha : H a = some o) (no : ¬ Owned g σ a) (hz : C.Hz a = none) (gn : Gz a = none) : C.Rl g σ H (upd Gz a o) := by
  have sm : Same Gz (upd Gz a o) := fun b u e => by
    rw [upd_ne (ne_of_none e gn)]
    exact e
  refine ⟨rl.len, fun b u e => ?_, fun i d h => let ⟨v, h1, h2⟩ := rl.frz i d h; ⟨v, h1, h2.mono sm⟩, fun i d h => ?_, fun i d h => ?_, rl.sep, rl.keep, rl.gz0.trans sm, fun b hb gb => ?_, rl.al0⟩
  · by_cases hb : b = a
    · subst hb
      rw [upd_same] at e
      cases e
      exact ha
    · rw [upd_ne hb] at e
      exact rl.sub b u e
  · obtain ⟨b, h1, h2, h3, h4⟩ := rl.own i d h
    have nb : b ≠ a := fun z => no ⟨i, .inl ⟨d, h⟩, by rw [← z]; exact h1⟩
    exact ⟨b, h1, by rw [upd_ne nb]; exact h2, h3.mono sm fun _ z => z, h4⟩
  · obtain ⟨b, h0, h1, h2, h3⟩ := rl.io i d h
    have nb : b ≠ a := fun z => no ⟨i, .inr ⟨d, h⟩, by rw [← z]; exact h1⟩
    exact ⟨b, h0, h1, by rw [upd_ne nb]; exact h2, h3.mono sm fun _ z => z⟩
  · have nb : b ≠ a := fun z => hb (by rw [z]; exact hz)
    rw [upd_ne nb]
    exact rl.gr0 b hb gb
/-- .. seen from a state in which it did not stand yet -/
theorem Stp.share {g0 : G} {H0 Gz0 : Hp} {a : Addr} {o : HO} (s : Stp g0 g σ H0 H Gz0 Gz) (gn : Gz a = none) (hn : Fs g0 σ H0 a) : Stp g0 g σ H0 H Gz0 (upd Gz a o) where
  gz := s.gz.trans fun b u e => by
    rw [upd_ne (ne_of_none e gn)]
    exact e
  fr := s.fr
  gr := fun b h z n => by
    have nb : b ≠ a := fun e => hn.elim (fun q => h (by rw [e]; exact q)) fun q => n (by rw [e]; exact q)
    rw [upd_ne nb]
    exact s.gr b h z n
  sh := s.sh
  al := s.al
theorem OwnAt.rp {K : PySem.W.Frag} {a : Addr} {d : D} (h : OwnAt K Gz H a d) (f : frzOk d = true) (gn : Gz a = none) : ∃ o, H a = some o ∧ Rp K (upd Gz a o) (.ref a) d := by
  have sm : ∀ o, Same Gz (upd Gz a o) := fun o b u e => by
    rw [upd_ne (ne_of_none e gn)]
    exact e
  cases d with
  | list ds =>
    obtain ⟨vs, x, r⟩ := h
    exact ⟨_, x, .lst upd_same (r.mono (sm _))⟩
  | dict r =>
    obtain ⟨kvs, x, y, _⟩ := h
    cases r with
    | nil =>
      cases y
      exact ⟨_, x, .dct upd_same⟩
    | cons p q => cases f
  | _ => exact False.elim h
/-- evaluated, then shared -/
theorem Res.fz {F : Addr → Prop} {r : R (Vl × G)} {wp : (V → Hp → Prop) → Prop} (h : Res C σ (Fs g σ H) (repV C.K C.Hz σ) g H Gz r wp) : Res C σ F (repD C.K) g H Gz (R.bind r fun x => R.bind x.1.fz fun d => .ok (d, x.2)) wp := by
  cases r with
  | bad => exact trivial
  | exc c => exact h
  | ok x =>
    obtain ⟨x, g1⟩ := x
    cases x with
    | f d => exact h
    | r i => exact trivial
    | o d =>
      show Res C σ F (repD C.K) g H Gz (R.bind (Vl.fz (.o d)) fun d => .ok (d, g1)) wp
      unfold Vl.fz
      by_cases f : frzOk d = true
      · simp only [f, if_true]
        refine fun Q hQ => h Q fun b H' Gz' rl st rp => ?_
        obtain ⟨a, rfl, gn, oa, hz, no, hn⟩ := rp
        obtain ⟨o, ho, rp⟩ := OwnAt.rp oa f gn
        exact hQ _ H' _ (rl.share ho no hz gn) (st.share gn hn) rp
      · simp only [f, if_false]
        exact trivial
theorem same_upd {p : Addr} {o : HO} (h : H p = none) : Same H (upd H p o) := fun b x e => by
  rw [upd_ne (ne_of_none e h)]
  exact e
/-- a new thing of one's own -/
theorem mkOwn (rl : C.Rl g σ H Gz) {p : Addr} {o : HO} {d : D} (hp : H p = none) (h : ∀ H' : Hp, H' p = some o → OwnAt C.K Gz H' p d) :
    C.Rl g σ (upd H p o) Gz ∧ Stp g g σ H (upd H p o) Gz Gz ∧ ∀ F : Addr → Prop, FsOk F g σ H → VRep C.K C.Hz σ (.o d) (.ref p) g F (upd H p o) Gz := by
  have sm := same_upd (o := o) hp
  refine ⟨rl.new sm, Stp.new sm, fun F hF => ⟨p, rfl, rl.gfree hp, h _ upd_same, rl.al0 p hp, fun z => ?_, hF p (.inl hp)⟩⟩
  obtain ⟨_, u, hu⟩ := rl.noOwn z
  rw [hp] at hu
  cases hu
/-- a new thing, shared -/
theorem mkNew (rl : C.Rl g σ H Gz) {p : Addr} {o : HO} (hp : H p = none) : C.Rl g σ (upd H p o) (upd Gz p o) ∧ Stp g g σ H (upd H p o) Gz (upd Gz p o) ∧ (upd Gz p o) p = some o ∧ Same Gz (upd Gz p o) := by
  have sm := same_upd (o := o) hp
  have gp := rl.gfree hp
  refine ⟨(rl.new sm).share upd_same (fun z => ?_) (rl.al0 p hp) gp, (Stp.new sm).share gp (.inl hp), upd_same, same_upd gp⟩
  obtain ⟨_, u, hu⟩ := rl.noOwn z
  rw [hp] at hu
  cases hu
end
end Dat

/-! Dat, part B2: the language's text beside Python's; names, constants, displays. -/
namespace Dat
open PySem PySem.Spec PyProof.Rows L2

/-! ### the text beside Python's -/
def isC : D → Const → Bool
  | .none, .none => true
  | .bool b, .bool c => b == c
  | .int i, .int j => decide (i = j)
  | .str x, .str y => decide (x = y)
  | _, _ => false
def visB (sc : Scope) (x : Str) : Bool := match sc.names.lookup x with
  | some .local => true
  | some .cell => true
  | some .free => true
  | _ => false
def glB (sc : Scope) (x : Str) : Bool := decide (sc.names.lookup x = some .globalImplicit)
def okName (x : Str) : Bool := !(x == ("__debug__" : Str)) && !(x == ("__classdict__" : Str))
def isN (N : List Str) (sc : Scope) (i : Nat) (x : Str) : Bool := decide (N[i]? = some x) && visB sc x && okName x
def opIs : Op → Operator → Bool
  | .add, .Add => true
  | .sub, .Sub => true
  | .mul, .Mult => true
  | .mod, .Mod => true
  | .fdiv, .FloorDiv => true
  | .pow, .Pow => true
  | _, _ => false
def cmIs : Cm → CmpOp → Bool
  | .eq, .Eq => true
  | .ne, .NotEq => true
  | .lt, .Lt => true
  | .le, .LtE => true
  | .gt, .Gt => true
  | .ge, .GtE => true
  | .isin, .In => true
  | .notin, .NotIn => true
  | .is_, .Is => true
  | .isnot, .IsNot => true
  | _, _ => false
def f1Name : F1 → Str
  | .len => "len" | .abs => "abs" | .all => "all" | .any => "any" | .sum => "sum" | .tuple => "tuple" | .list => "list" | .sorted => "sorted"
  | .min => "min" | .max => "max" | .str => "str" | .int => "int" | .dict => "dict" | .lenset => "len" | .sortset => "sorted" | .neg => "neg"
def tyName : Ty → Str
  | .int => "int" | .bool => "bool" | .str => "str" | .tuple => "tuple"
def tyId : Ty → String
  | .int => "int" | .bool => "bool" | .str => "str" | .tuple => "tuple"
def m2Name : M2 → Str
  | .index => "index" | .count => "count" | .join => "join" | .split => "split" | .endsw => "endswith"
def m2Ok : M2 → Bool
  | .index => true
  | .join => true
  | _ => false
def noStar : Expr → Bool
  | .Starred _ _ => false
  | _ => true
def noSlice : Expr → Bool
  | .Slice _ _ _ _ => false
  | _ => true
/-- not a conditional expression -/
def noIf : Expr → Bool
  | .IfExp _ _ _ _ => false
  | _ => true
def noSet : Expr → Bool
  | .Set _ _ _ => false
  | _ => true
/-- what a method is asked of -/
def okRecv : Expr → Bool
  | .Call _ [] _ _ => false
  | _ => true
def A.len : A → Nat
  | .nil => 0
  | .cons _ a => a.len + 1
def locB (sc : Scope) (fc : Str → Bool) (x : Str) : Bool := match sc.names.lookup x with
  | some .local => true
  | some .cell => fc x
  | _ => false
mutual
def isP (N : List Str) (sc : Scope) (fc : Str → Bool) : Pat → Expr → Bool
  | .v i, .Name x _ => decide (N[i]? = some x) && locB sc fc x
  | .tc p q, .Tuple (e :: es) _ _ => isP N sc fc p e && isQ N sc fc q es
  | _, _ => false
def isQ (N : List Str) (sc : Scope) (fc : Str → Bool) : Pat → List Expr → Bool
  | .t0, [] => true
  | .tc p q, e :: es => isP N sc fc p e && isQ N sc fc q es
  | _, _ => false
end
/-- the names of a comprehension's own slots -/
def ownOf (N : List Str) (l : List Nat) : List (Str × Nat) := l.map fun i => ((N[i]?).getD "", i)
section
variable (N : List Str) (fn : Nat → Option Str)
mutual
def isE (sc : Scope) : E → Expr → Bool
  | .cst d, .Constant c _ _ => isC d c
  | .var i, .Name x _ => isN N sc i x
  | .pv i, .Name x _ => isN N sc i x
  | .mv i, .Name x _ => isN N sc i x
  | .tup a, .Tuple es _ _ => isA sc a es && decide (a.len ≤ 1000)
  | .lst a, .List es _ => isA sc a es && decide (a.len ≤ 1000)
  | .dct .nil, .Dict [] [] _ => true
  | .bin o a b, .BinOp l op r _ => opIs o op && isE sc a l && isE sc b r
  | .not a, .UnaryOp .Not x _ => isE sc a x && noIf x
  | .and a, .BoolOp .And (x :: y :: xs) _ => isA sc a (x :: y :: xs) && (x :: y :: xs).all noIf
  | .or a, .BoolOp .Or (x :: y :: xs) _ => isA sc a (x :: y :: xs) && (x :: y :: xs).all noIf
  | .cmp o a b, .Compare l [op] [r] _ => cmIs o op && isE sc a l && isE sc b r && noSet r
  | .chn a b c, .Compare l [.LtE, .LtE] [m, r] _ => isE sc a l && isE sc b m && isE sc c r && noSet r
  | .ife c a b, .IfExp t x y _ => isE sc c t && isE sc a x && isE sc b y && noIf t
  | .sub a i, .Subscript x y _ => isE sc a x && isE sc i y && noSlice y
  | .slc a lo hi, .Subscript x (.Slice l h none _) _ => isE sc a x && isO sc lo l && isO sc hi h
  | .call f a, .Call (.Name x _) (e :: es) [] _ => decide (fn f = some x) && glB sc x && okName x && isA sc a (e :: es)
  | .b1 .neg a, .UnaryOp .USub x _ => isE sc a x
  | .b1 .lenset a, .Call (.Name x _) [.Call (.Name y _) [z] [] _] [] _ => decide (x = ("len" : Str)) && glB sc x && decide (y = ("set" : Str)) && glB sc y && isE sc a z && noStar z
  | .b1 f a, .Call (.Name x _) [z] [] _ => (match f with | .neg => false | .lenset => false | .sortset => false | _ => true) && decide (x = f1Name f) && glB sc x && isE sc a z && noStar z
  | .rngl tu a, .Call (.Name x _) [.Call (.Name y _) es [] _] [] _ => decide (x = (if tu then "tuple" else "list" : Str)) && glB sc x && decide (y = ("range" : Str)) && glB sc y && isA sc a es && decide (es.length = 1)
  | .isi a t, .Call (.Name x _) [z, .Name y _] [] _ => decide (x = ("isinstance" : Str)) && glB sc x && decide (y = tyName t) && glB sc y && isE sc a z && noStar z
  | .me m a b, .Call (.Attribute x y p) [z] [] q => m2Ok m && decide (y = m2Name m) && isE sc a x && isE sc b z && noStar z && okRecv x && (p.endLine == q.line)
  | .pop0 i, .Call (.Attribute (.Name x _) y p) [] [] q => decide (y = ("pop" : Str)) && isN N sc i x && (p.endLine == q.line)
  | .popi i e, .Call (.Attribute (.Name x _) y p) [z] [] q => decide (y = ("pop" : Str)) && isN N sc i x && isE sc e z && noStar z && (p.endLine == q.line)
  | .lc e p i c, .ListComp elt [⟨tg, iter, ifs, 0⟩] scope _ => isI sc i tg iter && noSet iter && blkC N sc scope (ownOf N p.slots) && isP N (relS scope sc) (fun x => decide (scope.names.lookup x = some .cell)) p tg && isE (relS scope sc) e elt && isF (relS scope sc) c ifs
  | _, _ => false
def isA (sc : Scope) : A → List Expr → Bool
  | .nil, [] => true
  | .cons e a, x :: xs => isE sc e x && noStar x && isA sc a xs
  | _, _ => false
def isO (sc : Scope) : O → Option Expr → Bool
  | .no, none => true
  | .yes e, some x => isE sc e x
  | _, _ => false
def isF (sc : Scope) : O → List Expr → Bool
  | .no, [] => true
  | .yes e, [x] => isE sc e x && noIf x
  | _, _ => false
def isI (sc : Scope) : I → Expr → Expr → Bool
  | .e x, _, y => isE sc x y
  | .enu a, .Tuple _ _ _, .Call (.Name x _) [z] [] _ => decide (x = ("enumerate" : Str)) && glB sc x && isE sc a z && noStar z
  | .rng a, _, .Call (.Name x _) es [] _ => decide (x = ("range" : Str)) && glB sc x && isA sc a es && (decide (es.length = 1) || decide (es.length = 2))
  | _, _, _ => false
end
end

/-! ### where one stands -/
/-- the built-ins that the text calls -/
def blts : List Str := ["len", "abs", "all", "any", "sum", "tuple", "list", "sorted", "min", "max", "str", "int", "dict", "set", "range", "isinstance", "enumerate", "zip", "bool"]
structure Cok (X : Cx) (C : Cz) (k : Nat) : Prop where
  K : X.K = C.K
  calm : X.calm = true
  nd : X.N.Nodup
  room : Room k X.A
  tk : Takes X C.W
  bl : ∀ x ∈ blts, X.mg x = none
/-- an expression of ours does what Python's does -/
def SE (X : Cx) (C : Cz) (io : Io) (cf : Caller) (e : E) (ex : Expr) : Prop := ∀ g σ H Gz F, FsOk F g σ H → C.Rl g σ H Gz → Res C σ F (repV C.K C.Hz σ) g H Gz (ev io cf e g) fun Q => wE X ex σ H Q
/-- where the new things among values stand -/
def newAt : List Vl → List V → List Addr
  | .o _ :: xs, .ref a :: vs => a :: newAt xs vs
  | _ :: xs, _ :: vs => newAt xs vs
  | _, _ => []
def repVs (K : PySem.W.Frag) (Hz : Hp) (σ : L2.St) : Rep (List Vl) (List V) := ⟨fun xs vs g F H Gz => Paired (fun x v => VRep K Hz σ x v g F H Gz) xs vs ∧ (newAt xs vs).Nodup, fun h al => ⟨Paired.mapP h.1 fun _ _ z => VRep.mono z al, h.2⟩⟩
theorem newAt_F {K : PySem.W.Frag} {Hz : Hp} {σ : L2.St} {g : G} {F : Addr → Prop} {H Gz : Hp} : ∀ {xs : List Vl} {vs : List V}, Paired (fun x v => VRep K Hz σ x v g F H Gz) xs vs → ∀ a ∈ newAt xs vs, F a
  | _, _, .nil, a, h => nomatch h
  | .f d :: xs, v :: vs, .cons p r, a, h => newAt_F r a (by cases v <;> exact h)
  | .r i :: xs, v :: vs, .cons p r, a, h => newAt_F r a (by cases v <;> exact h)
  | .o d :: xs, v :: vs, .cons p r, a, h => by
    obtain ⟨b, rfl, _, _, _, _, hF⟩ := p
    rcases List.mem_cons.mp h with rfl | h
    · exact hF
    · exact newAt_F r a h
def SA (X : Cx) (C : Cz) (io : Io) (cf : Caller) (a : A) (es : List Expr) : Prop := ∀ g σ H Gz F, FsOk F g σ H → C.Rl g σ H Gz → Res C σ F (repVs C.K C.Hz σ) g H Gz (evA io cf a g) fun Q => wA X es σ H Q
def SD (X : Cx) (C : Cz) (io : Io) (cf : Caller) (a : A) (es : List Expr) : Prop := ∀ g σ H Gz F, FsOk F g σ H → C.Rl g σ H Gz → Res C σ F (repDs C.K) g H Gz (evD io cf a g) fun Q => wA X es σ H Q
/-- as a test -/
def STst (X : Cx) (C : Cz) (io : Io) (cf : Caller) (e : E) (ex : Expr) : Prop := ∀ g σ H Gz F, FsOk F g σ H → C.Rl g σ H Gz → Res C σ F repB g H Gz (tst io cf e g) fun Q => wT X ex σ H Q

section
variable {X : Cx} {C : Cz} {io : Io} {cf : Caller}
/-! ### names and constants -/
theorem isC_rp {K : PySem.W.Frag} {H : Hp} {d : D} {c : Const} {j : Nat} {pos : Pos} (h : isC d c = true) : ∃ v, PE X (.Constant c j pos) (tC v) ∧ Rp K H v d := by
  cases d <;> cases c <;> first | (cases h; done) | skip
  · exact ⟨_, pe_non, .non⟩
  · rename_i b b'
    have e : b = b' := by simpa [isC] using h
    subst e
    exact ⟨_, pe_bl, .bl b⟩
  · rename_i i j
    have e : i = j := by simpa [isC] using h
    subst e
    exact ⟨_, pe_int, .int i⟩
  · rename_i x y
    have e : x = y := by simpa [isC] using h
    subst e
    exact ⟨_, pe_str, .str x⟩
theorem se_cst {d : D} {c : Const} {j : Nat} {pos : Pos} (h : isC d c = true) : SE X C io cf (.cst d) (.Constant c j pos) := fun g σ H Gz F hF rl Q hQ => by
  obtain ⟨v, pe, rp⟩ := isC_rp (X := X) (K := C.K) (H := Gz) (j := j) (pos := pos) h
  exact wE.of pe (hQ v H Gz rl .refl rp)
theorem vis_of {sc : Scope} {x : Str} (h : visB sc x = true) : Vis sc x := by
  unfold visB at h
  unfold Vis
  split at h <;> simp_all
theorem isN_ok {N : List Str} {sc : Scope} {i : Nat} {x : Str} (h : isN N sc i x = true) : N[i]? = some x ∧ Vis sc x ∧ (x == ("__debug__" : Str)) = false ∧ (x == ("__classdict__" : Str)) = false := by
  unfold isN okName at h
  simp only [Bool.and_eq_true, decide_eq_true_eq, Bool.not_eq_true'] at h
  exact ⟨h.1.1, vis_of h.1.2, h.2.1, h.2.2⟩
theorem w_var {i : Nat} {x : Str} {pos : Pos} {σ : L2.St} {H : Hp} {Q : VK} {v : V} (h : isN X.N X.env.scope i x = true) (hv : σ[i]? = some (some v)) (q : Q v H) : wE X (.Name x pos) σ H Q := by
  obtain ⟨h1, h2, h3, h4⟩ := isN_ok h
  exact wE.of (pe_var h1 h2 h3 h4) ⟨v, hv, q⟩
theorem getElem?_lt {α : Type} {l : List α} {i : Nat} {a : α} (h : l[i]? = some a) : i < l.length := by
  obtain ⟨h1, _⟩ := List.getElem?_eq_some_iff.mp h
  exact h1
theorem ownSlot_set {g : G} {i j : Nat} {b : Option B} (h : OwnSlot (g.set i b) j) (hb : ∀ d, b ≠ some (.own d) ∧ b ≠ some (.io d)) : OwnSlot g j ∧ j ≠ i := by
  by_cases e : i = j
  · subst e
    exfalso
    rcases h with ⟨d, h⟩ | ⟨d, h⟩
    · have hl := getElem?_lt h
      rw [List.length_set] at hl
      rw [List.getElem?_set_self hl] at h
      exact (hb d).1 (Option.some.inj h)
    · have hl := getElem?_lt h
      rw [List.length_set] at hl
      rw [List.getElem?_set_self hl] at h
      exact (hb d).2 (Option.some.inj h)
  · refine ⟨?_, fun z => e z.symm⟩
    unfold OwnSlot at h ⊢
    rw [List.getElem?_set_ne e] at h
    exact h
theorem owned_set {g : G} {i : Nat} {b : Option B} {σ : L2.St} {a : Addr} (h : Owned (g.set i b) σ a) (hb : ∀ d, b ≠ some (.own d) ∧ b ≠ some (.io d)) : Owned g σ a :=
  let ⟨j, h1, h2⟩ := h
  ⟨j, (ownSlot_set h1 hb).1, h2⟩
/-- a slot's own thing is shared from now on, or given away -/
theorem Rel.unown {g : G} {σ : L2.St} {H Gz : Hp} (rl : C.Rl g σ H Gz) {i : Nat} {d : D} (hi : g[i]? = some (some (.own d))) : C.Rl (g.set i none) σ H Gz := by
  have nb : ∀ d : D, (none : Option B) ≠ some (.own d) ∧ (none : Option B) ≠ some (.io d) := fun d => ⟨fun z => (nomatch z), fun z => (nomatch z)⟩
  have hs : ∀ (j : Nat) (b : B), (g.set i none)[j]? = some (some b) → g[j]? = some (some b) := fun j b h => by
    by_cases e : i = j
    · subst e
      have hl := getElem?_lt h
      rw [List.length_set] at hl
      rw [List.getElem?_set_self hl] at h
      exact nomatch Option.some.inj h
    · rw [List.getElem?_set_ne e] at h
      exact h
  exact ⟨by rw [List.length_set]; exact rl.len, rl.sub, fun j d h => rl.frz j d (hs j _ h), fun j d h => rl.own j d (hs j _ h), fun j d h => rl.io j d (hs j _ h), fun j k a ne h1 h2 => rl.sep j k a ne (ownSlot_set h1 nb).1 (ownSlot_set h2 nb).1, rl.keep, rl.gz0, rl.gr0, rl.al0⟩
theorem Rel.frzAt {g : G} {σ : L2.St} {H Gz : Hp} (rl : C.Rl g σ H Gz) {i : Nat} {d : D} {v : V} (hi : σ[i]? = some (some v)) (rp : Rp C.K Gz v d) : C.Rl (g.set i (some (.frz d))) σ H Gz := by
  have nb : ∀ e : D, (some (.frz d) : Option B) ≠ some (.own e) ∧ (some (.frz d) : Option B) ≠ some (.io e) := fun e => ⟨fun z => (nomatch Option.some.inj z), fun z => (nomatch Option.some.inj z)⟩
  have hs : ∀ (j : Nat) (b : B), (g.set i (some (.frz d)))[j]? = some (some b) → (i = j ∧ b = .frz d) ∨ g[j]? = some (some b) := fun j b h => by
    by_cases e : i = j
    · subst e
      have hl := getElem?_lt h
      rw [List.length_set] at hl
      rw [List.getElem?_set_self hl] at h
      exact .inl ⟨rfl, (Option.some.inj (Option.some.inj h)).symm⟩
    · rw [List.getElem?_set_ne e] at h
      exact .inr h
  refine ⟨by rw [List.length_set]; exact rl.len, rl.sub, fun j e h => ?_, fun j e h => ?_, fun j e h => ?_, fun j k a ne h1 h2 => rl.sep j k a ne (ownSlot_set h1 nb).1 (ownSlot_set h2 nb).1, rl.keep, rl.gz0, rl.gr0, rl.al0⟩
  · rcases hs j _ h with ⟨rfl, z⟩ | z
    · cases z
      exact ⟨v, hi, rp⟩
    · exact rl.frz j e z
  · rcases hs j _ h with ⟨rfl, z⟩ | z
    · cases z
    · exact rl.own j e z
  · rcases hs j _ h with ⟨rfl, z⟩ | z
    · cases z
    · exact rl.io j e z
theorem se_var {i : Nat} {x : Str} {pos : Pos} (h : isN X.N X.env.scope i x = true) : SE X C io cf (.var i) (.Name x pos) := fun g σ H Gz F hF rl => by
  show Res C σ F _ g H Gz (rdv g i) _
  unfold rdv
  split
  · rename_i d hd
    obtain ⟨v, hv, rp⟩ := rl.frz i d hd
    exact fun Q hQ => w_var h hv (hQ v H Gz rl .refl rp)
  · rename_i d hd
    obtain ⟨a, hv, gn, oa, hz⟩ := rl.own i d hd
    by_cases f : frzOk d = true
    · rw [if_pos f]
      refine fun Q hQ => w_var h hv ?_
      obtain ⟨o, ho, rp⟩ := OwnAt.rp oa f gn
      have nb : ∀ e : D, (some (.frz d) : Option B) ≠ some (.own e) ∧ (some (.frz d) : Option B) ≠ some (.io e) := fun e => ⟨fun z => (nomatch Option.some.inj z), fun z => (nomatch Option.some.inj z)⟩
      have r1 := rl.unown hd
      have no : ¬ Owned (g.set i none) σ a := fun ⟨j, h1, h2⟩ => by
        obtain ⟨h3, h4⟩ := ownSlot_set h1 fun d => ⟨fun z => (nomatch z), fun z => (nomatch z)⟩
        exact rl.sep j i a h4 h3 (.inl ⟨d, hd⟩) h2 hv
      have r2 := (r1.share ho no hz gn).frzAt (i := i) hv rp
      rw [List.set_set] at r2
      refine hQ (.ref a) H (upd Gz a o) r2 ⟨same_upd gn, fun b u h _ => h, fun b hb gb nb => ?_, fun b hb => owned_set hb nb, fun _ h => h⟩ rp
      have ne : b ≠ a := fun z => nb ⟨i, .inl ⟨d, hd⟩, by rw [z]; exact hv⟩
      rw [upd_ne ne]
      exact gb
    · rw [if_neg f]
      exact trivial
  · exact trivial
theorem pkv_ok {g : G} {i : Nat} {d : D} (h : pkv g i = .ok d) : ∃ b, g[i]? = some (some b) ∧ b.dat = d := by
  unfold pkv at h
  split at h
  · rename_i b hb
    cases h
    exact ⟨b, hb, rfl⟩
  · cases h
theorem pkv_exc {g : G} {i : Nat} {c : Str} : pkv g i ≠ .exc c := by
  unfold pkv
  split <;> exact fun h => nomatch h
/-- a slot that holds something -/
theorem Rel.val {g : G} {σ : L2.St} {H Gz : Hp} (rl : C.Rl g σ H Gz) {i : Nat} {b : B} (h : g[i]? = some (some b)) : ∃ v, σ[i]? = some (some v) := by
  cases b with
  | frz d => obtain ⟨v, hv, _⟩ := rl.frz i d h; exact ⟨v, hv⟩
  | own d => obtain ⟨a, hv, _⟩ := rl.own i d h; exact ⟨_, hv⟩
  | io d => obtain ⟨a, _, hv, _⟩ := rl.io i d h; exact ⟨_, hv⟩
theorem se_pv {i : Nat} {x : Str} {pos : Pos} (h : isN X.N X.env.scope i x = true) : SE X C io cf (.pv i) (.Name x pos) := fun g σ H Gz F hF rl => by
  show Res C σ F _ g H Gz (R.bind (pkv g i) fun _ => .ok (Vl.r i, g)) _
  refine Res.data (fun _ => pkv_exc) fun d hd => ?_
  obtain ⟨b, hb, _⟩ := pkv_ok hd
  obtain ⟨v, hv⟩ := rl.val hb
  exact fun Q hQ => w_var h hv (hQ v H Gz rl .refl hv)
theorem se_mv {i : Nat} {x : Str} {pos : Pos} (h : isN X.N X.env.scope i x = true) : SE X C io cf (.mv i) (.Name x pos) := fun g σ H Gz F hF rl => by
  show Res C σ F _ g H Gz (mvv g i) _
  unfold mvv
  split
  · rename_i d hd
    obtain ⟨v, hv, rp⟩ := rl.frz i d hd
    exact fun Q hQ => w_var h hv (hQ v H Gz rl .refl rp)
  · rename_i d hd
    obtain ⟨a, hv, gn, oa, hz⟩ := rl.own i d hd
    have nb : ∀ e : D, (none : Option B) ≠ some (.own e) ∧ (none : Option B) ≠ some (.io e) := fun e => ⟨fun z => (nomatch z), fun z => (nomatch z)⟩
    refine fun Q hQ => w_var h hv (hQ (.ref a) H Gz (rl.unown hd) ⟨Same.refl _, fun _ _ h _ => h, fun _ _ h _ => h, fun b hb => owned_set hb nb, fun _ h => h⟩ ⟨a, rfl, gn, oa, hz, fun ⟨j, h1, h2⟩ => ?_, hF a (.inr ⟨i, .inl ⟨d, hd⟩, hv⟩)⟩)
    obtain ⟨h3, h4⟩ := ownSlot_set h1 nb
    exact rl.sep j i a h4 h3 (.inl ⟨d, hd⟩) h2 hv
  · exact trivial
end
end Dat

/-! Dat, part Bt: tuples whose object is known (so that their methods can be asked for). -/
namespace Dat
open PySem PySem.Spec PyProof.Rows L2
open PySem.W
/-- a new tuple, its object told -/
def NewT (H : Hp) (vs : List V) (Q : VK) : Prop := ∀ (p : Addr) (o : Obj), H p = none → o.dict = none → Q (.ref p) (upd H p (.frz o (.tup vs)))
section
variable {X : Cx} {pins : List (Addr × Obj)} {σ : L2.St} {H : Hp} {s : Shared}
theorem lay_tup {Q : VK} {vs : List V} {its : List Value} {tk : Nat} {h' : Heap} (I : Inv X pins σ H { s with heap := h' }) (rv : Vals vs its) (hz : vs.length ≤ sizeLine) (q : NewT H vs Q) :
    EP X pins σ Q (.ref h'.objs.size) { s with heap := h'.push { cls := .type "tuple", data := .seq its.toArray }, toks := tk } := by
  have g : (h'.push { cls := .type "tuple", data := .seq its.toArray }).get? h'.objs.size = some { cls := .type "tuple", data := .seq its.toArray } := Heap.get?_push_size _ rfl
  have fr : H h'.objs.size = none := I.hok.fresh (Nat.le_refl _)
  refine ⟨.ref h'.objs.size, upd H h'.objs.size (.frz { cls := .type "tuple", data := .seq its.toArray } (.tup vs)), ?_, rfl, q h'.objs.size { cls := .type "tuple", data := .seq its.toArray } fr rfl⟩
  exact I.laid (t' := tk) (fun b u e => Heap.get?_push_of_some _ e) (Nat.le_refl _) ⟨g, hz, its, rv, _, g, rfl, _, rfl⟩
/-- a display -/
theorem pe_tupN {es : List Expr} {t : TA} {k : Nat} {pos : Pos} (h : PA X es t) : PE X (.Tuple es k pos) (fun σ H Q => t σ H fun vs H1 => vs.length ≤ sizeLine ∧ NewT H1 vs Q) := by
  refine ⟨fun pins s σ H Q I hw => ?_⟩
  refine Tuple_ (thn (h.run _ pins s σ H _ I hw) fun us s1 hh => ?_)
  obtain ⟨vs, H1, I1, r1, hz, q⟩ := hh
  have hu : us.toArray.size ≤ sizeLine := by
    rw [List.size_toArray, ← r1.length]
    exact hz
  exact wpAny_newObj_type (lay_tup (s := s1) (tk := s1.toks) I1 r1 hz q) hu
/-- tuple(x), x a list or a tuple -/
def rTupN (K : PySem.W.Frag) : List V → Hp → VK → Prop := fun xs H Q => ∃ p ys, xs = [.ref p] ∧ ((SqL K H p ys ∧ NewT H ys Q) ∨ (SqT K H p ys ∧ Q (.ref p) H))
theorem cr_tupN : CallR X (.type "tuple") (rTupN X.K) := by
  intro pins s σ H xs us Q I r h
  obtain ⟨p, ys, rfl, ⟨hq, q⟩ | h2⟩ := h
  · obtain ⟨u, rfl, rx⟩ := r.one
    cases rx
    obtain ⟨its, rv, pl, hz⟩ := I.list hq
    refine call_tuple_list pl.isList (fun h' kp => ?_) (by rw [List.size_toArray, ← rv.length]; exact hz)
    exact lay_tup (s := s) (tk := s.toks) (I.kept (t' := s.toks) kp) rv hz q
  · exact call_tuple_of pins s σ H _ us Q I r ⟨p, ys, rfl, .inr h2⟩
/-- t + u -/
def rCatN (K : PySem.W.Frag) : R2 := fun x y H Q => ∃ a b xs ys, x = .ref a ∧ y = .ref b ∧ SqT K H a xs ∧ SqT K H b ys ∧ xs.length + ys.length ≤ sizeLine ∧
  (xs = [] → Q (.ref b) H) ∧ (xs ≠ [] → ys = [] → Q (.ref a) H) ∧ (xs ≠ [] → ys ≠ [] → NewT H (xs ++ ys) Q)
theorem op_catN : OpR X (binaryOp .Add) (rCatN X.K) := by
  intro pins s σ H x y v u Q I rx ry h
  obtain ⟨a, b, xs, ys, rfl, rfl, ha, hb, hz, q0, q1, q2⟩ := h
  by_cases hx : xs = []
  · exact op_catA pins s σ H _ _ v u Q I rx ry ⟨a, b, xs, ys, rfl, rfl, ha, hb, hz, q0, q1, fun z => absurd hx z⟩
  · cases rx
    cases ry
    obtain ⟨is1, r1, p1, _⟩ := I.tuple ha
    obtain ⟨is2, r2, p2, _⟩ := I.tuple hb
    refine HT.cat_tup p1 p2 (fun z => hx (r1.nil_iff.mp z)) (fun z => ⟨.ref a, H, I, rfl, q1 hx (r2.nil_iff.mp z)⟩) (fun z => ?_) ?_
    · have hw : (xs ++ ys).length ≤ sizeLine := by
        rw [List.length_append]
        exact hz
      exact lay_tup (s := s) (tk := s.toks) I (r1.append r2) hw (q2 hx fun e => z (r2.nil_iff.mpr e))
    · rw [← r1.length, ← r2.length]
      exact hz
/-- t * k -/
def rRepN (K : PySem.W.Frag) : R2 := fun x y H Q => ∃ l k xs, x = .ref l ∧ y = .int k ∧ SqT K H l xs ∧ xs ≠ [] ∧ 2 ≤ k ∧ k ≤ 1000 ∧ xs.length ≤ 1000 ∧ NewT H (List.replicate k.toNat xs).flatten Q
theorem op_repN : OpR X (binaryOp .Mult) (rRepN X.K) := by
  intro pins s σ H x y v u Q I rx ry h
  obtain ⟨l, k, xs, rfl, rfl, hT, hne, k2, k1000, hz, q⟩ := h
  cases rx
  obtain ⟨t, rfl⟩ := ry
  obtain ⟨its, r, ⟨⟨cls, dd, data, sl⟩, ho, hc, n, hd⟩, hs⟩ := I.tuple hT
  simp only at hc hd
  subst hc hd
  have le : its.length = xs.length := r.length.symm
  have ie : its.toArray.isEmpty = false := by
    cases its with
    | nil =>
      cases r
      exact absurd rfl hne
    | cons a b => rfl
  have sz : its.toArray.size = xs.length := le
  have bound : k.toNat * xs.length ≤ 1000 * 1000 := Nat.mul_le_mul (by omega) hz
  have small : ((its.toArray.size : Nat) : Int) * k ≤ 1000000 := by
    rw [sz]
    have := Int.mul_le_mul_of_nonneg_right (a := ((xs.length : Nat) : Int)) (b := 1000) (c := k) (by omega) (by omega)
    omega
  have fl : (List.replicate k.toNat xs).flatten.length ≤ sizeLine := by
    rw [PyProof.Rows.lm_len_rep_flat, sizeLine_eq]
    omega
  have fl2 : (List.replicate k.toNat its).flatten.length ≤ sizeLine := by
    rw [PyProof.Rows.lm_len_rep_flat, sizeLine_eq, le]
    omega
  have d0 : (decide (k < -(2 ^ 63)) || decide (k ≥ 2 ^ 63)) = false := by
    rw [Bool.or_eq_false_iff]
    exact ⟨decide_eq_false (by omega), decide_eq_false (by omega)⟩
  have d1 : (its.toArray.isEmpty || k == 1) = false := by
    rw [Bool.or_eq_false_iff]
    exact ⟨ie, beq_eq_false_iff_ne.mpr (by omega)⟩
  have d2 : (decide (k ≤ 0) || its.toArray.isEmpty) = false := by
    rw [Bool.or_eq_false_iff]
    exact ⟨decide_eq_false (by omega), ie⟩
  have d4 : Builtin.Tuple.tupleTooMany (((its.toArray.size : Nat) : Int) * k) = false := by
    unfold Builtin.Tuple.tupleTooMany
    rw [sizeLine_eq]
    exact decide_eq_false (by omega)
  have mul : wpAny (model X.prog X.w) X.A (call (.builtin "tuple.__mul__") [.ref l, .int k t]) (EP X pins σ Q) X.xe s := by
    refine call_meets F.slot_tuple_mul ⟨_, ho, rfl⟩ F.entry_tuple_mul (F.args_tuple_mul_2 _ _) (tuple_mulW l its.toArray n dd sl k t d0 d1 d2 (by omega) d4 ?_) ⟨ho, ?_⟩
    · rw [size_rep, List.size_toArray]
      exact fl2
    · rw [size_rep]
      exact lay_tup (s := s) (tk := s.toks) I (r.rep k.toNat) fl q
  have rm := int_rmul_tuple k t l its.toArray n dd sl
  exact wpAny_binaryOp_repeat_ref (T := "tuple") (U := "int") (by decide) ⟨_, ho, rfl⟩ (fun s' => typeIs_int s' k t) noFill_tuple_mul F.fills_int_mul F.slot_int_rmul repeat_tuple F.slot_int_index.lookup
    (call_meets F.slot_int_rmul (typeIs_int s k t) F.entry_int_rmul (F.args_int_rmul_2 _ _) rm ⟨ho, rfl, ⟨_, ho, rfl⟩, mul⟩)
/-- t[lo:hi] -/
def rSlN (K : PySem.W.Frag) : V → Option Int → Option Int → Hp → VK → Prop := fun x lo hi H Q => ∃ a xs, x = .ref a ∧ SqT K H a xs ∧
  (HT.sIx xs.length 0 lo = 0 ∧ HT.sIx xs.length xs.length hi = xs.length → Q (.ref a) H) ∧ (¬ (HT.sIx xs.length 0 lo = 0 ∧ HT.sIx xs.length xs.length hi = xs.length) → NewT H (cutV xs lo hi) Q)
theorem sl_tupN : SlR X (rSlN X.K) := by
  intro pins s σ H x v vl vu lo hi sl Q I rx hs pl pu h
  obtain ⟨a, xs, rfl, hx, q1, q2⟩ := h
  by_cases hw : HT.sIx xs.length 0 lo = 0 ∧ HT.sIx xs.length xs.length hi = xs.length
  · exact sl_tupA pins s σ H _ v vl vu lo hi sl Q I rx hs pl pu ⟨a, xs, rfl, hx, q1, fun z => absurd hw z⟩
  · cases rx
    obtain ⟨its, r, ht, hz⟩ := I.tuple hx
    have le : its.toArray.size = xs.length := r.length.symm
    refine ⟨"tuple", _, PyProof.Rows.slot_tuple_getitem.lookup, ht.typeIs, HT.getItem_tuple_cut ht hs pl pu (by rw [le]; exact hw) ?_ (by rw [le]; exact hz)⟩
    rw [le]
    have cl : (cutV xs lo hi).length ≤ sizeLine := Nat.le_trans (cutV_length xs lo hi) hz
    exact lay_tup (s := s) (tk := s.toks) I ((r.drop (HT.sIx xs.length 0 lo)).take (HT.sIx xs.length xs.length hi - HT.sIx xs.length 0 lo)) cl (q2 hw)
/-- tuple(range(..)) -/
theorem pe_tupRgN {e : Expr} {te : L2.St → Hp → (Int → Int → Hp → Prop) → Prop} {p pos : Pos} (hc : X.calm = true) (hg : Gl X "tuple") (hm : X.mg "tuple" = none) (he : PRg X e te) (na : starEach [e] X.env = (false, eval e X.env) :: starEach [] X.env) :
    PE X (.Call (.Name "tuple" p) [e] [] pos) (fun σ H Q => te σ H fun a b H1 => RgOk a b ∧ NewT H1 (rgV a b) Q) := by
  refine ⟨fun pins s σ H Q I h => ?_⟩
  refine Call_ (ld_blt I hg hm boot_tuple (PyProof.Rows.callWith_type1 (args_cons (thn (he pins s σ H _ I h) fun x s1 hh => args_nil ?_) na) na))
  obtain ⟨r, a, b, t, u, v, H1, rfl, hr, I1, ⟨b1, b2, b3, b4, b5⟩, q⟩ := hh
  refine call_tuple_range (n := (b - a).toNat) (I1.ok.hd hc) hr (small_one b1 b2 b3 b4) (rangeSize_nat a b) b5 fun h' tk acc hk hi => ?_
  have le : (rgV a b).length ≤ sizeLine := by
    rw [rgV_length, sizeLine_eq]
    omega
  have fin := lay_tup (s := { s1 with toks := tk }) (tk := tk) (its := acc.toList) (h' := h') (Q := Q) (I1.kept hk) (vals_rg hi) le q
  rw [Array.toArray_toList] at fin
  exact fin
end
/-! ### enumerate -/
set_option maxHeartbeats 1000000 in
theorem meets_enum1 {v : Value} {o : Obj} {P : Heap → Prop} (B : Begins v o P) :
    Meets (Builtin.«enumerate.__new__» ⟨[.type "enumerate", v], []⟩) (fun _ R s => P s.heap ∧
      R (.ok (.ret (.ref (s.heap.push o).objs.size))) { s with heap := (s.heap.push o).push { cls := .type "enumerate", data := .fields #[.none, .bool false, .ref s.heap.objs.size, rawInt 0, .none, .none] } }) :=
  .of_wp fun prog w A R s h => by
    obtain ⟨hp, g, d, tk, os⟩ := s; obtain ⟨h1, h⟩ := h
    have hsub := sub_enumerate
    have q1 : ∀ {A' : Around} {E : Value → Shared → Prop} {Q : Value → Shared → Prop}, Q (.ref hp.objs.size) ⟨hp.push o, g, d, tk, os⟩ → wpAny (model prog w) A' (pyIter v) Q E ⟨hp, g, d, tk, os⟩ :=
      fun q => B.iter prog w _ _ ⟨hp, g, d, tk, os⟩ _ h1 q
    wp_walk using q1
    refine wpAny_stack_any fun st => wpAny_pure ?_
    split
    · rename_i c _ _ _ _ _
      cases (c == Value.type "enumerate")
      · wp_walk using q1
        exact ⟨_, rfl, h⟩
      · wp_walk using q1
        exact ⟨_, rfl, h⟩
    · wp_walk using q1
      exact ⟨_, rfl, h⟩
section
variable {prog : Program} {w : World} {A : Around} {E : Value → Shared → Prop} {s : Shared}
/-- enumerate(v): its two new cells -/
theorem enum1 {v : Value} {o : Obj} {P : Heap → Prop} {Q : Value → Shared → Prop} (B : Begins v o P) (h1 : P s.heap)
    (h : ∀ h', IsEnum h' (s.heap.objs.size + 1) s.heap.objs.size 0 .none → h'.get? s.heap.objs.size = some o → h'.objs.size = s.heap.objs.size + 2 →
      (∀ b o, s.heap.get? b = some o → h'.get? b = some o) → Q (.ref (s.heap.objs.size + 1)) { s with heap := h' }) :
    wpAny (model prog w) A (call (.type "enumerate") [v]) Q E s := by
  refine callType_new F.called_enumerate (by decide) (F.typeCall_enumerate_1 _) (F.newCall_enumerate_1 _) (fun obj => F.args_object_init_2 obj _) F.entry_enumerate_new (meets_enum1 B) ⟨h1, ?_⟩
  have hz : (s.heap.push o).objs.size = s.heap.objs.size + 1 := Heap.size_push ..
  show _ ∧ _
  rw [hz]
  have he : IsEnum ((s.heap.push o).push { cls := .type "enumerate", data := .fields #[.none, .bool false, .ref s.heap.objs.size, rawInt 0, .none, .none] }) (s.heap.objs.size + 1) s.heap.objs.size 0 .none := by
    have := Heap.get?_push_size (s.heap.push o) (o := { cls := .type "enumerate", data := .fields #[.none, .bool false, .ref s.heap.objs.size, rawInt 0, .none, .none] }) rfl
    rw [hz] at this; exact this
  exact ⟨⟨_, he, rfl⟩, h _ he (Heap.get?_push_of_some _ (Heap.get?_push_size _ B.free)) (by rw [Heap.size_push, hz]) fun b o x => Heap.get?_push_of_some _ (Heap.get?_push_of_some _ x)⟩
end
theorem begins_tup (a : Addr) (items : Array Value) : Begins (.ref a) { cls := .type "tuple_iterator", data := .fields #[.ref a, .int 0 0] } fun h => h.IsTuple a items where
  iter := fun prog w A E s Q hl h => wpAny_pyIter_tuple hl h
  keeps := fun h h' x hk => x.at fun o e => hk a o e
  free := rfl
/-- a list's or a tuple's items, as they stand -/
def SqB (tu : Bool) (K : PySem.W.Frag) (H : Hp) (a : Addr) (xs : List V) : Prop := if tu = true then SqT K H a xs else SqL K H a xs
def ItB (tu : Bool) (h : Heap) (it a : Addr) (i : Nat) : Prop := if tu = true then h.IsTupleIter it a i else h.IsListIter it a i
/-- .. each in a new pair, its object told -/
def Iteb (tu : Bool) (K : PySem.W.Frag) (a : Addr) : It :=
  ⟨fun i H => ∃ (xs : List V) (x : V), SqB tu K H a xs ∧ xs[i]? = some x, fun i H v H' => ∃ (T : Addr) (o : Obj) (x : V), v = .ref T ∧ H T = none ∧ o.dict = none ∧ H' = upd H T (.frz o (.tup [.int (i : Nat), x])) ∧ ∀ xs, SqB tu K H a xs → xs[i]? = some x, fun i H => ∃ xs : List V, SqB tu K H a xs ∧ xs.length ≤ i⟩
theorem itb_at {tu : Bool} {h h' : Heap} {it a : Addr} {i : Nat} (x : ItB tu h it a i) (k : ∀ o, h.get? it = some o → h'.get? it = some o) : ItB tu h' it a i := by
  cases tu with
  | true => exact Heap.IsTupleIter.at (show h.IsTupleIter it a i from x) k
  | false => exact Heap.IsListIter.at (show h.IsListIter it a i from x) k
theorem itb_obj {tu : Bool} {h : Heap} {it a : Addr} {i : Nat} (x : ItB tu h it a i) : ∃ o vs, h.get? it = some o ∧ o.data = .fields vs ∧ (o.cls = .type "tuple_iterator" ∨ o.cls = .type "list_iterator") := by
  cases tu with
  | true =>
    obtain ⟨o, ho, hc, hd⟩ := (show h.IsTupleIter it a i from x)
    exact ⟨o, _, ho, hd, .inl hc⟩
  | false =>
    obtain ⟨o, ho, hc, hd⟩ := (show h.IsListIter it a i from x)
    exact ⟨o, _, ho, hd, .inr hc⟩
def SeqIs (tu : Bool) (h : Heap) (a : Addr) (items : Array Value) : Prop := if tu = true then h.IsTuple a items else h.IsList a items
theorem seqIs_obj {tu : Bool} {h : Heap} {a : Addr} {items : Array Value} (x : SeqIs tu h a items) : ∃ o, h.get? a = some o ∧ (o.cls = .type "tuple" ∨ o.cls = .type "list") := by
  cases tu with
  | true =>
    obtain ⟨o, ho, hc, _⟩ := (show h.IsTuple a items from x)
    exact ⟨o, ho, .inl hc⟩
  | false =>
    obtain ⟨o, ho, hc, _⟩ := (show h.IsList a items from x)
    exact ⟨o, ho, .inr hc⟩
theorem seqIs_of {X : Cx} {pins : List (Addr × Obj)} {σ : L2.St} {H : Hp} {s : Shared} {tu : Bool} {a : Addr} {xs : List V} (I : Inv X pins σ H s) (h : SqB tu X.K H a xs) : ∃ its, Vals xs its ∧ SeqIs tu s.heap a its.toArray ∧ xs.length ≤ sizeLine := by
  cases tu with
  | true =>
    obtain ⟨its, rv, p, hz⟩ := I.tuple (show SqT X.K H a xs from h)
    exact ⟨its, rv, p, hz⟩
  | false =>
    obtain ⟨its, rv, p, hz⟩ := I.list (show SqL X.K H a xs from h)
    exact ⟨its, rv, p.isList, hz⟩
theorem sqB_inj {X : Cx} {pins : List (Addr × Obj)} {σ : L2.St} {H : Hp} {s : Shared} {tu : Bool} {a : Addr} {xs ys : List V} (I : Inv X pins σ H s) (h : SqB tu X.K H a xs) (h' : SqB tu X.K H a ys) : xs = ys := by
  cases tu with
  | true => exact I.tuple_inj h h'
  | false => exact I.list_inj h h'
theorem drawsB {prog : Program} {w : World} {A : Around} (hh : A.handled = none) (tu : Bool) (it a : Addr) (hne : a ≠ it) (items : Array Value) : Draws prog w A it [it, a] items.size (fun i v => items[i]? = some v) (fun i h => ItB tu h it a i ∧ SeqIs tu h a items) := by
  cases tu with
  | true => exact Draws.tuple hh it a hne items
  | false => exact Draws.list hh it a hne items
theorem turn_enumB {P : Program} {w : World} {K : PySem.W.Frag} {elts : List Expr} {kk : Nat} {tpos : Pos} (tu : Bool) (a e it : Addr) :
    Turn P w K (.Tuple elts kk tpos) (Iteb tu K a) [e, it] e (fun i h => (∃ old, IsEnum h e it ((i : Nat) : Int) old) ∧ ItB tu h it a i ∧ e ≠ it) where
  mem := by simp
  obj := fun i h st b hb => by
    obtain ⟨⟨old, he⟩, hx, _⟩ := st
    obtain ⟨o, vs, ho, hd, _⟩ := itb_obj hx
    rcases (show b = e ∨ b = it by simpa using hb) with z | z
    · rw [z]; exact ⟨_, he, fun v q => nomatch q⟩
    · rw [z]; exact ⟨o, ho, fun v q => by rw [hd] at q; cases q⟩
  keep := fun i h h' st k => by
    obtain ⟨⟨old, he⟩, hi, hne⟩ := st
    exact ⟨⟨old, k e (by simp) _ he⟩, itb_at hi fun o q => k it (by simp) o q, hne⟩
  item := by
    intro X hP hw hK hc i pins s σ H E I hf st hg
    subst hP hw hK
    obtain ⟨⟨old, he⟩, hit, hne⟩ := st
    obtain ⟨xs, x, hq, hx⟩ := hg
    obtain ⟨its, rv, htp, hz⟩ := seqIs_of I hq
    obtain ⟨u, hu, ru⟩ := rv.get hx
    have hel : e < s.heap.objs.size := Heap.lt_size he
    obtain ⟨oi, vi, hoi, _, hci⟩ := itb_obj hit
    have hil : it < s.heap.objs.size := Heap.lt_size hoi
    obtain ⟨oa, hoa, hca⟩ := seqIs_obj htp
    have hai : a ≠ it := fun z => by
      rw [z, hoi] at hoa
      cases hoa
      rcases hca with c | c <;> rcases hci with d | d <;> (rw [d] at c; exact absurd (Value.type.inj c) (by decide))
    have hae : e ≠ a := fun z => by
      have he' : s.heap.get? e = some _ := he
      rw [← z, he'] at hoa
      cases hoa
      rcases hca with c | c <;> exact absurd (Value.type.inj c) (by decide)
    have hlt : i < its.toArray.size := by
      rw [List.size_toArray]
      exact getElem?_lt hu
    refine wpAny_pyNext_enum_itemD (drawsB (A := X.A.in1) (I.ok.hd hc) tu it a hai its.toArray) he ⟨hit, htp⟩ hlt hne (by simp [hne, hae]) fun y h' tk hy ho st' hT hsz hk => ?_
    have ey : y = u := by
      have : its.toArray[i]? = some y := hy
      rw [show its.toArray[i]? = its[i]? from by simp, hu] at this
      exact (Option.some.inj this).symm
    subst ey
    refine ⟨_, rfl, wpAny_letOwnedTupleGo_enum (s := { s with heap := h', toks := tk + 1 }) ho fun h'' he' sb => ?_⟩
    have hT2 : h''.get? s.heap.objs.size = some { cls := .type "tuple", data := .seq #[.int i tk, y] } := (sb.2 _ (Nat.ne_of_gt hel)).trans hT
    have new : ObjOk X.prog X.w (upd H s.heap.objs.size (.frz { cls := .type "tuple", data := .seq #[.int i tk, y] } (.tup [.int (i : Nat), x]))) h'' s.heap.objs.size (.frz { cls := .type "tuple", data := .seq #[.int i tk, y] } (.tup [.int (i : Nat), x])) :=
      ⟨hT2, by show 2 ≤ sizeLine; decide, [.int i tk, y], .cons ⟨_, rfl⟩ (.cons ru .nil), ⟨_, hT2, rfl, _, rfl⟩⟩
    have I1 : Inv X pins σ (upd H s.heap.objs.size (.frz { cls := .type "tuple", data := .seq #[.int i tk, y] } (.tup [.int (i : Nat), x]))) { s with heap := h'', toks := tk + 1 } :=
      I.turnedNew (ch := [e, it]) (fun b ob hb q => (sb.2 b (fun z => hb (by simp [z]))).trans (hk b ob (fun z => hb (by simp [z])) (fun z => hb (by simp [z])) q)) hf (Nat.le_refl _) new
    refine ⟨.ref s.heap.objs.size, _, I1, rfl, ⟨_, _, x, rfl, I.hok.fresh (Nat.le_refl _), rfl, rfl, fun ys hy => by rw [sqB_inj I hy hq]; exact hx⟩, ⟨⟨y, ?_⟩, itb_at st'.1 fun o q => (sb.2 it (Ne.symm hne)).trans q, hne⟩, fun b hb => ?_⟩
    · have e1 : ((i + 1 : Nat) : Int) = (i : Int) + 1 := by omega
      rw [e1]; exact he'
    · have hb' : b < s.heap.objs.size := by
        rcases (show b = e ∨ b = it by simpa using hb) with z | z
        · rw [z]; exact hel
        · rw [z]; exact hil
      rw [upd_ne (Nat.ne_of_lt hb')]
      exact (hf b hb).1
  done := by
    intro X hP hw hK hc i pins s σ H E I hf st hg
    subst hP hw hK
    obtain ⟨⟨old, he⟩, hit, hne⟩ := st
    obtain ⟨xs, hq, hx⟩ := hg
    obtain ⟨its, rv, htp, hz⟩ := seqIs_of I hq
    obtain ⟨f0, f1, f2, f3, f4, f5⟩ := hf it (by simp)
    have hl := rv.length
    have hh : X.A.in1.handled = none := I.ok.hd hc
    have hn : its.toArray[i]? = none := by simp; omega
    have D : Draws X.prog X.w X.A.in1 it [it, a] i (fun _ _ => False) (fun j h => j = i ∧ ItB tu h it a i ∧ SeqIs tu h a its.toArray) := by
      refine ⟨fun _ _ st => let ⟨o, _, ho, _⟩ := itb_obj st.2.1; ⟨o, ho⟩, fun _ _ _ st hk => ⟨st.1, itb_at st.2.1 fun o e => hk it (by simp) o e, ?_⟩, fun j s Q E hj st _ => absurd st.1 (Nat.ne_of_lt hj), fun s Q E st hE => ?_⟩
      · cases tu with
        | true => exact Heap.IsTuple.at (show Heap.IsTuple _ a its.toArray from st.2.2) fun o e => hk a (by simp) o e
        | false => exact Heap.IsList.at (show Heap.IsList _ a its.toArray from st.2.2) fun o e => hk a (by simp) o e
      · cases tu with
        | true => exact wpAny_nextOf_tuple_end hh st.2.1 st.2.2 hn hE
        | false => exact wpAny_nextOf_list_end hh st.2.1 st.2.2 hn hE
    exact wpAny_pyNext_enum_endD D he ⟨rfl, hit, htp⟩ fun h' eb => ⟨rfl, I.turned (t' := s.toks) (fun b o hb q => eb b o hb q) f0 f1 f3 f4 f5⟩
  self := fun A i s Q E st h => let ⟨⟨_, he⟩, _⟩ := st; wpAny_pyIter_enum he h
end Dat

/-! Dat, part B3: arguments, displays, tests, and, or, not. -/
namespace Dat
open PySem PySem.Spec PyProof.Rows L2
section
variable {X : Cx} {C : Cz} {io : Io} {cf : Caller}
theorem fs_refl {g : G} {σ : L2.St} {H : Hp} : FsOk (Fs g σ H) g σ H := fun _ h => h
/-- evaluated and shared -/
def evF (io : Io) (cf : Caller) (e : E) (g : G) : R (D × G) := R.bind (ev io cf e g) fun x => R.bind x.1.fz fun d => .ok (d, x.2)
theorem SE.fz {e : E} {ex : Expr} (h : SE X C io cf e ex) {g : G} {σ : L2.St} {H Gz : Hp} {F : Addr → Prop} (rl : C.Rl g σ H Gz) : Res C σ F (repD C.K) g H Gz (evF io cf e g) fun Q => wE X ex σ H Q := Res.fz (h g σ H Gz _ fs_refl rl)
theorem bind_fz {α : Type} {e : E} {g : G} (k : D → G → R α) : (R.bind (ev io cf e g) fun x => R.bind x.1.fz fun d => k d x.2) = R.bind (evF io cf e g) fun y => k y.1 y.2 := by
  unfold evF
  rw [bind_assoc]
  congr
  funext x
  rw [bind_assoc]

/-! ### arguments -/
theorem starEach_no {x : Expr} {xs : List Expr} (h : noStar x = true) (env : Env) : starEach (x :: xs) env = (false, eval x env) :: starEach xs env := by
  cases x <;> first | rfl | cases h
theorem w_nil {σ : L2.St} {H : Hp} {Q : List V → Hp → Prop} (q : Q [] H) : wA X [] σ H Q := wA.of pa_nil q
theorem w_cons {x : Expr} {xs : List Expr} {σ : L2.St} {H : Hp} {Q : List V → Hp → Prop} (h : noStar x = true) (q : wE X x σ H fun v H1 => wA X xs σ H1 fun vs H2 => Q (v :: vs) H2) : wA X (x :: xs) σ H Q := wA.of (pa_cons PE.w PA.w (starEach_no h _)) q
theorem Res.weak {α β : Type} {σ : L2.St} {F F' : Addr → Prop} {rep rep' : Rep α β} {g : G} {H Gz : Hp} {r : R (α × G)} {wp : (β → Hp → Prop) → Prop} (h : Res C σ F' rep g H Gz r wp) (i : ∀ a b g' H' Gz', Stp g g' σ H H' Gz Gz' → rep.r a b g' F' H' Gz' → rep'.r a b g' F H' Gz') : Res C σ F rep' g H Gz r wp := by
  cases r with
  | bad => exact trivial
  | exc c => exact h
  | ok x => exact fun Q hQ => h Q fun b H' Gz' rl st rp => hQ b H' Gz' rl st (i _ _ _ _ _ st rp)
theorem sa_nil : SA X C io cf .nil [] := fun g σ H Gz F hF rl Q hQ => w_nil (hQ [] H Gz rl .refl ⟨.nil, .nil⟩)
theorem sa_cons {e : E} {a : A} {x : Expr} {xs : List Expr} (hs : noStar x = true) (he : SE X C io cf e x) (ha : SA X C io cf a xs) : SA X C io cf (.cons e a) (x :: xs) := fun g σ H Gz F hF rl => by
  refine Res.imp (Res.bind hF (he g σ H Gz F hF rl) fun v b g1 H1 Gz1 e1 hF1 rl1 st1 rp1 => ?_) fun Q q => w_cons hs q
  have hA := Res.weak (F := F) (rep' := (⟨fun xs vs g F H Gz => Paired (fun x v => VRep C.K C.Hz σ x v g F H Gz) xs vs ∧ (newAt xs vs).Nodup ∧ ∀ a ∈ newAt xs vs, Fs g1 σ H1 a, fun h al => ⟨Paired.mapP h.1 fun _ _ z => VRep.mono z al, h.2⟩⟩ : Rep (List Vl) (List V))) (ha g1 σ H1 Gz1 (Fs g1 σ H1) fs_refl rl1) fun xs vs g' H' Gz' st rp => ⟨Paired.mapP rp.1 fun _ _ z => VRep.mono z hF1, rp.2, newAt_F rp.1⟩
  refine Res.bind (wpb := fun (vs : List V) H2 (Q : List V → Hp → Prop) => Q (b :: vs) H2) (rep' := repVs C.K C.Hz σ) hF1 hA fun vs bs g2 H2 Gz2 e2 hF2 rl2 st2 rp2 => ?_
  refine fun Q hQ => hQ _ H2 Gz2 rl2 .refl ⟨.cons (VRep.step rp1 st2) rp2.1, ?_⟩
  cases v with
  | f d =>
    have : newAt (Vl.f d :: vs) (b :: bs) = newAt vs bs := by cases b <;> rfl
    show (newAt (Vl.f d :: vs) (b :: bs)).Nodup
    rw [this]
    exact rp2.2.1
  | r i =>
    have : newAt (Vl.r i :: vs) (b :: bs) = newAt vs bs := by cases b <;> rfl
    show (newAt (Vl.r i :: vs) (b :: bs)).Nodup
    rw [this]
    exact rp2.2.1
  | o d =>
    obtain ⟨a, rfl, gn, oa, hz, no, _⟩ := rp1
    show (a :: newAt vs bs).Nodup
    refine List.nodup_cons.mpr ⟨fun z => ?_, rp2.2.1⟩
    obtain ⟨o, ho⟩ := OwnAt.there oa
    rcases rp2.2.2 a z with q | q
    · rw [ho] at q; cases q
    · exact no q
theorem sd_nil : SD X C io cf .nil [] := fun g σ H Gz F hF rl Q hQ => w_nil (hQ [] H Gz rl .refl .nil)
theorem sd_cons {e : E} {a : A} {x : Expr} {xs : List Expr} (hs : noStar x = true) (he : SE X C io cf e x) (ha : SD X C io cf a xs) : SD X C io cf (.cons e a) (x :: xs) := fun g σ H Gz F hF rl => by
  show Res C σ F _ g H Gz (R.bind (ev io cf e g) fun x => R.bind x.1.fz fun d => R.bind (evD io cf a x.2) fun y => .ok (d :: y.1, y.2)) _
  rw [bind_fz (fun d g => R.bind (evD io cf a g) fun y => .ok (d :: y.1, y.2))]
  refine Res.imp (Res.bind hF (he.fz rl) fun v b g1 H1 Gz1 e1 hF1 rl1 st1 rp1 => Res.bind (wpb := fun (vs : List V) H2 (Q : List V → Hp → Prop) => Q (b :: vs) H2) (rep' := repDs C.K) hF1 (ha g1 σ H1 Gz1 F hF1 rl1) fun vs bs g2 H2 Gz2 e2 hF2 rl2 st2 rp2 => ?_) fun Q q => w_cons hs q
  exact fun Q hQ => hQ _ H2 Gz2 rl2 .refl (.cons (Rp.mono st2.gz rp1) rp2)
theorem R.bind_ok {α β : Type} {r : R α} {k : α → R β} {b : β} (h : R.bind r k = .ok b) : ∃ a, r = .ok a ∧ k a = .ok b := by
  cases r with
  | ok a => exact ⟨a, rfl, h⟩
  | exc c => cases h
  | bad => cases h
theorem evD_len : ∀ {a : A} {g g' : G} {ds : List D}, evD io cf a g = .ok (ds, g') → ds.length = a.len
  | .nil, g, g', ds, h => by
    cases h
    rfl
  | .cons e a, g, g', ds, h => by
    have h : (R.bind (ev io cf e g) fun x => R.bind x.1.fz fun d => R.bind (evD io cf a x.2) fun y => .ok (d :: y.1, y.2)) = .ok (ds, g') := h
    obtain ⟨x, _, h⟩ := R.bind_ok h
    obtain ⟨d, _, h⟩ := R.bind_ok h
    obtain ⟨y, hy, h⟩ := R.bind_ok h
    have ih := evD_len (g := x.2) (g' := y.2) (ds := y.1) hy
    cases h
    show y.1.length + 1 = a.len + 1
    rw [ih]

/-! ### displays -/
theorem sz1000 {n : Nat} (h : n ≤ 1000) : n ≤ sizeLine := Nat.le_of_lt (small1000 h)
theorem se_tup {a : A} {es : List Expr} {k : Nat} {pos : Pos} (ha : SD X C io cf a es) (hl : a.len ≤ 1000) : SE X C io cf (.tup a) (.Tuple es k pos) := fun g σ H Gz F hF rl => by
  show Res C σ F _ g H Gz (R.bind (evD io cf a g) fun x => .ok (Vl.f (.tuple x.1), x.2)) _
  refine Res.imp (Res.bind (rep' := repV C.K C.Hz σ) (wpb := fun (vs : List V) H1 (Q : VK) => vs.length ≤ sizeLine ∧ NewT H1 vs Q) hF (ha g σ H Gz F hF rl) fun ds vs g1 H1 Gz1 e1 hF1 rl1 st1 rp1 => ?_) fun Q q => wE.of (pe_tupN PA.w) q
  refine fun Q hQ => ⟨?_, fun p ob hp hd => ?_⟩
  · rw [RpAll.length rp1, evD_len e1]
    exact sz1000 hl
  · obtain ⟨r1, s1, e, sm⟩ := mkNew rl1 (o := .frz ob (.tup vs)) hp
    exact hQ _ _ _ r1 s1 (.tup (.inl ⟨ob, e, hd⟩) (RpAll.mono sm rp1))
theorem se_lst {a : A} {es : List Expr} {pos : Pos} (ha : SD X C io cf a es) (hl : a.len ≤ 1000) : SE X C io cf (.lst a) (.List es pos) := fun g σ H Gz F hF rl => by
  show Res C σ F _ g H Gz (R.bind (evD io cf a g) fun x => .ok (Vl.o (.list x.1), x.2)) _
  refine Res.imp (Res.bind (rep' := repV C.K C.Hz σ) (wpb := fun (vs : List V) H1 (Q : VK) => vs.length ≤ sizeLine ∧ ∀ p, H1 p = none → Q (.ref p) (upd H1 p (.lst vs))) hF (ha g σ H Gz F hF rl) fun ds vs g1 H1 Gz1 e1 hF1 rl1 st1 rp1 => ?_) fun Q q => wE.of (pe_lst PA.w) q
  refine fun Q hQ => ⟨?_, fun p hp => ?_⟩
  · rw [RpAll.length rp1, evD_len e1]
    exact sz1000 hl
  · obtain ⟨r1, s1, v1⟩ := mkOwn rl1 (o := .lst vs) (d := .list ds) hp fun H' h => ⟨vs, h, rp1⟩
    exact hQ _ _ _ r1 s1 (v1 F hF1)
theorem se_dct0 {pos : Pos} : SE X C io cf (.dct .nil) (.Dict [] [] pos) := fun g σ H Gz F hF rl Q hQ => by
  refine wE.of pe_dnewK fun p hp => ?_
  obtain ⟨r1, s1, v1⟩ := mkOwn rl (o := .dK []) (d := .dict []) hp fun H' h => ⟨[], h, .nil, .nil⟩
  exact hQ _ _ _ r1 s1 (v1 F hF)

/-! ### tests -/
theorem asBool_ok {d : D} {b : Bool} (h : asBool d = .ok b) : d = .bool b := by
  unfold asBool at h
  split at h
  · cases h; rfl
  · cases h
theorem asBool_exc {d : D} {c : Str} : asBool d ≠ .exc c := by
  unfold asBool
  split <;> exact fun h => nomatch h
theorem tst_eq {e : E} {g : G} : tst io cf e g = R.bind (evF io cf e g) fun y => R.bind (asBool y.1) fun b => .ok (b, y.2) := bind_fz fun d g => R.bind (asBool d) fun b => .ok (b, g)
/-- an expression whose truth is asked of its value -/
def plainT : Expr → Bool
  | .UnaryOp .Not _ _ => false
  | .BoolOp _ _ _ => false
  | .IfExp _ _ _ _ => false
  | .Compare _ _ _ _ => false
  | _ => true
theorem isTrue_plainT {ex : Expr} (h : plainT ex = true) (env : Env) (whole : Sem Value) : isTrue ex env whole = (do let v ← whole; standAt ex.pos; holding [v] (truthy v)) := by
  cases ex <;> first | rfl | (cases h; done) | skip
  rename_i op _ _
  cases op <;> first | rfl | (cases h; done)
theorem st_plain {e : E} {ex : Expr} (h : SE X C io cf e ex) (hp : plainT ex = true) : STst X C io cf e ex := fun g σ H Gz F hF rl => by
  rw [tst_eq]
  refine Res.imp (Res.bind (rep' := repB) (wpb := fun (v : V) H1 (Q : Bool → Hp → Prop) => ∃ c, v = .bl c ∧ Q c H1) hF (h.fz rl) fun d v g1 H1 Gz1 e1 hF1 rl1 st1 rp1 => ?_) fun Q q => wT.of (pt_val PE.w (isTrue_plainT hp _)) q
  refine Res.data (fun _ => asBool_exc) fun b hb => ?_
  have e := asBool_ok hb
  subst e
  cases rp1
  exact fun Q hQ => ⟨b, rfl, hQ b H1 Gz1 rl1 .refl rfl⟩
/-- a test whatever it is, as a value -/
theorem st_not {e : E} {ex : Expr} {pos : Pos} (h : STst X C io cf e ex) : STst X C io cf (.not e) (.UnaryOp .Not ex pos) := fun g σ H Gz F hF rl => by
  have e1 : tst io cf (.not e) g = R.bind (tst io cf e g) fun x => .ok (!x.1, x.2) := by
    unfold tst
    show R.bind (R.bind (ev io cf e g) fun x => R.bind x.1.fz fun d => R.bind (asBool d) fun b => .ok (Vl.f (.bool !b), x.2)) _ = _
    simp only [bind_assoc]
    first | rfl | (congr 1; done) | (congr 1; funext x; congr 1; funext d; congr 1; done) | skip
  rw [e1]
  refine Res.imp (Res.bind (rep' := repB) (wpb := fun (b : Bool) H1 (Q : Bool → Hp → Prop) => Q (!b) H1) hF (h g σ H Gz F hF rl) fun d v g1 H1 Gz1 e1 hF1 rl1 st1 rp1 => ?_) fun Q q => wT.of (pt_not PT.w) q
  have rp1 : d = v := rp1
  subst rp1
  exact fun Q hQ => hQ _ H1 Gz1 rl1 .refl rfl
/-- all of them: a conjunction -/
def SAnd (X : Cx) (C : Cz) (io : Io) (cf : Caller) (a : A) (es : List Expr) : Prop := ∀ g σ H Gz F, FsOk F g σ H → C.Rl g σ H Gz → Res C σ F repB g H Gz (evAnd io cf a g) fun Q => ∀ (pos : Pos) (wh : Sem Value) (pins : List (Addr × Obj)) (s : Shared), Inv X pins σ H s → wpAny (model X.prog X.w) X.A (isTrue (.BoolOp .And es pos) X.env wh) (TP X pins σ Q) X.xe s
def SOr (X : Cx) (C : Cz) (io : Io) (cf : Caller) (a : A) (es : List Expr) : Prop := ∀ g σ H Gz F, FsOk F g σ H → C.Rl g σ H Gz → Res C σ F repB g H Gz (evOr io cf a g) fun Q => ∀ (pos : Pos) (wh : Sem Value) (pins : List (Addr × Obj)) (s : Shared), Inv X pins σ H s → wpAny (model X.prog X.w) X.A (isTrue (.BoolOp .Or es pos) X.env wh) (TP X pins σ Q) X.xe s
theorem evAnd_cons {e : E} {a : A} {g : G} : evAnd io cf (.cons e a) g = R.bind (tst io cf e g) fun x => match x.1 with
    | true => evAnd io cf a x.2
    | false => .ok (false, x.2) := by
  show (R.bind (ev io cf e g) fun x => R.bind x.1.fz fun d => R.bind (asBool d) fun b => match b with
    | true => evAnd io cf a x.2
    | false => .ok (false, x.2)) = _
  unfold tst
  simp only [bind_assoc]
theorem evOr_cons {e : E} {a : A} {g : G} : evOr io cf (.cons e a) g = R.bind (tst io cf e g) fun x => match x.1 with
    | true => .ok (true, x.2)
    | false => evOr io cf a x.2 := by
  show (R.bind (ev io cf e g) fun x => R.bind x.1.fz fun d => R.bind (asBool d) fun b => match b with
    | true => .ok (true, x.2)
    | false => evOr io cf a x.2) = _
  unfold tst
  simp only [bind_assoc]
theorem sand_nil : SAnd X C io cf .nil [] := fun g σ H Gz F hF rl Q hQ pos wh pins s I => isTrue_and_nil ⟨H, I, hQ true H Gz rl .refl rfl⟩
theorem sor_nil : SOr X C io cf .nil [] := fun g σ H Gz F hF rl Q hQ pos wh pins s I => isTrue_or_nil ⟨H, I, hQ false H Gz rl .refl rfl⟩
theorem sand_cons {e : E} {a : A} {x : Expr} {xs : List Expr} (he : STst X C io cf e x) (ha : SAnd X C io cf a xs) : SAnd X C io cf (.cons e a) (x :: xs) := fun g σ H Gz F hF rl => by
  rw [evAnd_cons]
  refine Res.imp (Res.bind (rep' := repB) (wpb := fun (b : Bool) H1 (Q : Bool → Hp → Prop) => match b with
    | true => ∀ (pos : Pos) (wh : Sem Value) (pins : List (Addr × Obj)) (s : Shared), Inv X pins σ H1 s → wpAny (model X.prog X.w) X.A (isTrue (.BoolOp .And xs pos) X.env wh) (TP X pins σ Q) X.xe s
    | false => Q false H1) hF (he g σ H Gz F hF rl) fun d v g1 H1 Gz1 e1 hF1 rl1 st1 rp1 => ?_) fun Q q pos wh pins s I => ?_
  · have rp1 : d = v := rp1
    subst rp1
    cases d with
    | true => exact ha g1 σ H1 Gz1 F hF1 rl1
    | false => exact fun Q hQ => hQ false H1 Gz1 rl1 .refl rfl
  · refine isTrue_and (thn (q pins s I) fun c s1 ⟨H1, I1, q1⟩ => ?_)
    cases c with
    | true => exact q1 pos wh pins s1 I1
    | false => exact ⟨H1, I1, q1⟩
theorem sor_cons {e : E} {a : A} {x : Expr} {xs : List Expr} (he : STst X C io cf e x) (ha : SOr X C io cf a xs) : SOr X C io cf (.cons e a) (x :: xs) := fun g σ H Gz F hF rl => by
  rw [evOr_cons]
  refine Res.imp (Res.bind (rep' := repB) (wpb := fun (b : Bool) H1 (Q : Bool → Hp → Prop) => match b with
    | true => Q true H1
    | false => ∀ (pos : Pos) (wh : Sem Value) (pins : List (Addr × Obj)) (s : Shared), Inv X pins σ H1 s → wpAny (model X.prog X.w) X.A (isTrue (.BoolOp .Or xs pos) X.env wh) (TP X pins σ Q) X.xe s) hF (he g σ H Gz F hF rl) fun d v g1 H1 Gz1 e1 hF1 rl1 st1 rp1 => ?_) fun Q q pos wh pins s I => ?_
  · have rp1 : d = v := rp1
    subst rp1
    cases d with
    | false => exact ha g1 σ H1 Gz1 F hF1 rl1
    | true => exact fun Q hQ => hQ true H1 Gz1 rl1 .refl rfl
  · refine isTrue_or (thn (q pins s I) fun c s1 ⟨H1, I1, q1⟩ => ?_)
    cases c with
    | false => exact q1 pos wh pins s1 I1
    | true => exact ⟨H1, I1, q1⟩
theorem tst_and {a : A} {g : G} : tst io cf (.and a) g = evAnd io cf a g := by
  unfold tst
  show R.bind (R.bind (evAnd io cf a g) fun x => .ok (Vl.f (.bool x.1), x.2)) _ = _
  rw [bind_assoc]
  show (R.bind (evAnd io cf a g) fun x => .ok (x.1, x.2)) = _
  cases evAnd io cf a g <;> rfl
theorem tst_or {a : A} {g : G} : tst io cf (.or a) g = evOr io cf a g := by
  unfold tst
  show R.bind (R.bind (evOr io cf a g) fun x => .ok (Vl.f (.bool x.1), x.2)) _ = _
  rw [bind_assoc]
  show (R.bind (evOr io cf a g) fun x => .ok (x.1, x.2)) = _
  cases evOr io cf a g <;> rfl
theorem st_and {a : A} {es : List Expr} {pos : Pos} (h : SAnd X C io cf a es) : STst X C io cf (.and a) (.BoolOp .And es pos) := fun g σ H Gz F hF rl => by
  rw [tst_and]
  exact Res.imp (h g σ H Gz F hF rl) fun Q q pins s I => q pos _ pins s I
theorem st_or {a : A} {es : List Expr} {pos : Pos} (h : SOr X C io cf a es) : STst X C io cf (.or a) (.BoolOp .Or es pos) := fun g σ H Gz F hF rl => by
  rw [tst_or]
  exact Res.imp (h g σ H Gz F hF rl) fun Q q pins s I => q pos _ pins s I
/-! ### not, and, or as values -/
/-- a truth as a value -/
def repT (K : PySem.W.Frag) : Rep Bool V := ⟨fun b v _ _ _ _ => v = .bl b, fun h _ => h⟩
theorem SE.tstV {e : E} {ex : Expr} (h : SE X C io cf e ex) {g : G} {σ : L2.St} {H Gz : Hp} {F : Addr → Prop} (hF : FsOk F g σ H) (rl : C.Rl g σ H Gz) : Res C σ F (repT C.K) g H Gz (tst io cf e g) fun Q => wE X ex σ H Q := by
  rw [tst_eq]
  refine Res.imp (Res.bind (rep' := repT C.K) (wpb := fun (v : V) H1 (Q : VK) => Q v H1) hF (h.fz rl) fun d v g1 H1 Gz1 e1 hF1 rl1 st1 rp1 => ?_) fun Q q => q
  refine Res.data (fun _ => asBool_exc) fun b hb => ?_
  have e := asBool_ok hb
  subst e
  cases rp1
  exact fun Q hQ => hQ _ H1 Gz1 rl1 .refl rfl
theorem se_not {e : E} {ex : Expr} {pos : Pos} (h : SE X C io cf e ex) : SE X C io cf (.not e) (.UnaryOp .Not ex pos) := fun g σ H Gz F hF rl => by
  have e1 : ev io cf (.not e) g = R.bind (tst io cf e g) fun x => .ok (Vl.f (.bool !x.1), x.2) := by
    unfold tst
    show (R.bind (ev io cf e g) fun x => R.bind x.1.fz fun d => R.bind (asBool d) fun b => .ok (Vl.f (.bool !b), x.2)) = _
    simp only [bind_assoc]
  rw [e1]
  refine Res.imp (Res.bind (rep' := repV C.K C.Hz σ) (wpb := fun (v : V) H1 (Q : VK) => ∃ c, v = .bl c ∧ Q (.bl (!c)) H1) hF (h.tstV hF rl) fun d v g1 H1 Gz1 e1 hF1 rl1 st1 rp1 => ?_) fun Q q => wE.of (pe_not PE.w) q
  exact fun Q hQ => ⟨d, rp1, hQ _ H1 Gz1 rl1 .refl (.bl _)⟩
def SAndV (X : Cx) (C : Cz) (io : Io) (cf : Caller) (a : A) (es : List Expr) : Prop := ∀ g σ H Gz F, FsOk F g σ H → C.Rl g σ H Gz → Res C σ F (repT C.K) g H Gz (evAnd io cf a g) fun Q => ∀ pos, wE X (.BoolOp .And es pos) σ H Q
def SOrV (X : Cx) (C : Cz) (io : Io) (cf : Caller) (a : A) (es : List Expr) : Prop := ∀ g σ H Gz F, FsOk F g σ H → C.Rl g σ H Gz → Res C σ F (repT C.K) g H Gz (evOr io cf a g) fun Q => ∀ pos, wE X (.BoolOp .Or es pos) σ H Q
theorem sandV_one {e : E} {x : Expr} (he : SE X C io cf e x) : SAndV X C io cf (.cons e .nil) [x] := fun g σ H Gz F hF rl => by
  have e1 : evAnd io cf (.cons e .nil) g = tst io cf e g := by
    rw [evAnd_cons]
    cases tst io cf e g with
    | ok x =>
      obtain ⟨b, g1⟩ := x
      cases b <;> rfl
    | exc c => rfl
    | bad => rfl
  rw [e1]
  exact Res.imp (he.tstV hF rl) fun Q q pos => wE.of (pe_one PE.w) q
theorem sorV_one {e : E} {x : Expr} (he : SE X C io cf e x) : SOrV X C io cf (.cons e .nil) [x] := fun g σ H Gz F hF rl => by
  have e1 : evOr io cf (.cons e .nil) g = tst io cf e g := by
    rw [evOr_cons]
    cases tst io cf e g with
    | ok x =>
      obtain ⟨b, g1⟩ := x
      cases b <;> rfl
    | exc c => rfl
    | bad => rfl
  rw [e1]
  exact Res.imp (he.tstV hF rl) fun Q q pos => wE.of (pe_one PE.w) q
theorem sandV_cons {e : E} {a : A} {x y : Expr} {xs : List Expr} (he : SE X C io cf e x) (ha : SAndV X C io cf a (y :: xs)) : SAndV X C io cf (.cons e a) (x :: y :: xs) := fun g σ H Gz F hF rl => by
  rw [evAnd_cons]
  refine Res.imp (Res.bind (rep' := repT C.K) (wpb := fun (v : V) H1 (Q : VK) => ∃ c, v = .bl c ∧ if c = true then ∀ pos, wE X (.BoolOp .And (y :: xs) pos) σ H1 Q else Q (.bl false) H1) hF (he.tstV hF rl) fun d v g1 H1 Gz1 e1 hF1 rl1 st1 rp1 => ?_) fun Q q pos => wE.of (pe_and PE.w PE.w) (wE.mono q fun v H1 ⟨c, e, z⟩ => ⟨c, e, ?_⟩)
  · cases d with
    | true => exact Res.imp (ha g1 σ H1 Gz1 F hF1 rl1) fun Q q => ⟨true, rp1, by rw [if_pos rfl]; exact q⟩
    | false => exact fun Q hQ => ⟨false, rp1, by rw [if_neg Bool.false_ne_true]; exact hQ _ H1 Gz1 rl1 .refl rfl⟩
  · cases c with
    | true => rw [if_pos rfl] at z ⊢; exact z pos
    | false => rw [if_neg Bool.false_ne_true] at z ⊢; exact z
theorem sorV_cons {e : E} {a : A} {x y : Expr} {xs : List Expr} (he : SE X C io cf e x) (ha : SOrV X C io cf a (y :: xs)) : SOrV X C io cf (.cons e a) (x :: y :: xs) := fun g σ H Gz F hF rl => by
  rw [evOr_cons]
  refine Res.imp (Res.bind (rep' := repT C.K) (wpb := fun (v : V) H1 (Q : VK) => ∃ c, v = .bl c ∧ if c = true then Q (.bl true) H1 else ∀ pos, wE X (.BoolOp .Or (y :: xs) pos) σ H1 Q) hF (he.tstV hF rl) fun d v g1 H1 Gz1 e1 hF1 rl1 st1 rp1 => ?_) fun Q q pos => wE.of (pe_or PE.w PE.w) (wE.mono q fun v H1 ⟨c, e, z⟩ => ⟨c, e, ?_⟩)
  · cases d with
    | false => exact Res.imp (ha g1 σ H1 Gz1 F hF1 rl1) fun Q q => ⟨false, rp1, by rw [if_neg Bool.false_ne_true]; exact q⟩
    | true => exact fun Q hQ => ⟨true, rp1, by rw [if_pos rfl]; exact hQ _ H1 Gz1 rl1 .refl rfl⟩
  · cases c with
    | true => rw [if_pos rfl] at z ⊢; exact z
    | false => rw [if_neg Bool.false_ne_true] at z ⊢; exact z pos
theorem se_and {a : A} {es : List Expr} {pos : Pos} (h : SAndV X C io cf a es) : SE X C io cf (.and a) (.BoolOp .And es pos) := fun g σ H Gz F hF rl => by
  show Res C σ F _ g H Gz (R.bind (evAnd io cf a g) fun x => .ok (Vl.f (.bool x.1), x.2)) _
  refine Res.imp (Res.bind (rep' := repV C.K C.Hz σ) (wpb := fun (v : V) H1 (Q : VK) => Q v H1) hF (Res.imp (h g σ H Gz F hF rl) fun Q q => q pos) fun d v g1 H1 Gz1 e1 hF1 rl1 st1 rp1 => ?_) fun Q q => q
  have rp1 : v = .bl d := rp1
  subst rp1
  exact fun Q hQ => hQ _ H1 Gz1 rl1 .refl (.bl d)
theorem se_or {a : A} {es : List Expr} {pos : Pos} (h : SOrV X C io cf a es) : SE X C io cf (.or a) (.BoolOp .Or es pos) := fun g σ H Gz F hF rl => by
  show Res C σ F _ g H Gz (R.bind (evOr io cf a g) fun x => .ok (Vl.f (.bool x.1), x.2)) _
  refine Res.imp (Res.bind (rep' := repV C.K C.Hz σ) (wpb := fun (v : V) H1 (Q : VK) => Q v H1) hF (Res.imp (h g σ H Gz F hF rl) fun Q q => q pos) fun d v g1 H1 Gz1 e1 hF1 rl1 st1 rp1 => ?_) fun Q q => q
  have rp1 : v = .bl d := rp1
  subst rp1
  exact fun Q hQ => hQ _ H1 Gz1 rl1 .refl (.bl d)
theorem se_ife {c a b : E} {t x y : Expr} {pos : Pos} (hc : STst X C io cf c t) (ha : SE X C io cf a x) (hb : SE X C io cf b y) : SE X C io cf (.ife c a b) (.IfExp t x y pos) := fun g σ H Gz F hF rl => by
  have e1 : ev io cf (.ife c a b) g = R.bind (tst io cf c g) fun z => match z.1 with
      | true => ev io cf a z.2
      | false => ev io cf b z.2 := by
    unfold tst
    show (R.bind (ev io cf c g) fun x => R.bind x.1.fz fun d => R.bind (asBool d) fun t => match t with
      | true => ev io cf a x.2
      | false => ev io cf b x.2) = _
    simp only [bind_assoc]
  rw [e1]
  refine Res.imp (Res.bind (rep' := repV C.K C.Hz σ) (wpb := fun (v : Bool) H1 (Q : VK) => if v = true then wE X x σ H1 Q else wE X y σ H1 Q) hF (hc g σ H Gz F hF rl) fun d v g1 H1 Gz1 e1 hF1 rl1 st1 rp1 => ?_) fun Q q => wE.of (pe_ifExp PT.w PE.w PE.w) q
  have rp1 : d = v := rp1
  subst rp1
  cases d with
  | true => exact Res.imp (ha g1 σ H1 Gz1 F hF1 rl1) fun Q q => by rw [if_pos rfl]; exact q
  | false => exact Res.imp (hb g1 σ H1 Gz1 F hF1 rl1) fun Q q => by rw [if_neg Bool.false_ne_true]; exact q

/-! ### two operands -/
/-- both are evaluated; then something is done with what they stand for -/
theorem two {a b : E} {x y : Expr} (ha : SE X C io cf a x) (hb : SE X C io cf b y) {g : G} {σ : L2.St} {H Gz : Hp} {F : Addr → Prop} (hF : FsOk F g σ H) (rl : C.Rl g σ H Gz) {γ δ : Type} {rep' : Rep γ δ} {k : D → D → G → R (γ × G)} {wp : V → V → Hp → (δ → Hp → Prop) → Prop}
    (h : ∀ d e v u g2 H2 Gz2, FsOk F g2 σ H2 → C.Rl g2 σ H2 Gz2 → Vw C.K v d H2 Gz2 → Vw C.K u e H2 Gz2 → Res C σ F rep' g2 H2 Gz2 (k d e g2) (wp v u H2)) :
    Res C σ F rep' g H Gz (R.bind (ev io cf a g) fun x => R.bind (ev io cf b x.2) fun y => R.bind (x.1.res y.2) fun d => R.bind (y.1.res y.2) fun e => k d e y.2) fun Q => wE X x σ H fun v H1 => wE X y σ H1 fun u H2 => wp v u H2 Q := by
  refine Res.bind hF (ha g σ H Gz F hF rl) fun v1 b1 g1 H1 Gz1 e1 hF1 rl1 st1 rp1 => Res.bind hF1 (hb g1 σ H1 Gz1 F hF1 rl1) fun v2 b2 g2 H2 Gz2 e2 hF2 rl2 st2 rp2 => ?_
  have nx : ∀ (v : Vl) c, v.res g2 ≠ .exc c := fun v c => by
    cases v with
    | f d => exact fun h => nomatch h
    | o d => exact fun h => nomatch h
    | r i => exact pkv_exc
  refine Res.data (nx _) fun d hd => Res.data (nx _) fun e he => ?_
  exact h d e b1 b2 g2 H2 Gz2 hF2 rl2 ((VRep.step rp1 st2).vw rl2 hd) (VRep.vw rp2 rl2 he)
theorem one {a : E} {x : Expr} (ha : SE X C io cf a x) {g : G} {σ : L2.St} {H Gz : Hp} {F : Addr → Prop} (hF : FsOk F g σ H) (rl : C.Rl g σ H Gz) {γ δ : Type} {rep' : Rep γ δ} {k : D → G → R (γ × G)} {wp : V → Hp → (δ → Hp → Prop) → Prop}
    (h : ∀ d v g2 H2 Gz2, FsOk F g2 σ H2 → C.Rl g2 σ H2 Gz2 → Vw C.K v d H2 Gz2 → Res C σ F rep' g2 H2 Gz2 (k d g2) (wp v H2)) :
    Res C σ F rep' g H Gz (R.bind (ev io cf a g) fun x => R.bind (x.1.res x.2) fun d => k d x.2) fun Q => wE X x σ H fun v H1 => wp v H1 Q := by
  refine Res.bind hF (ha g σ H Gz F hF rl) fun v1 b1 g1 H1 Gz1 e1 hF1 rl1 st1 rp1 => ?_
  have nx : ∀ (v : Vl) c, v.res g1 ≠ .exc c := fun v c => by
    cases v with
    | f d => exact fun h => nomatch h
    | o d => exact fun h => nomatch h
    | r i => exact pkv_exc
  exact Res.data (nx _) fun d hd => h d b1 g1 H1 Gz1 hF1 rl1 (VRep.vw rp1 rl1 hd)
end
end Dat

/-! Dat, part B4: operators. -/
namespace Dat
open PySem PySem.Spec PyProof.Rows L2
section
variable {K : PySem.W.Frag} {H Gz : Hp} {v u : V}
/-! ### what a view tells -/
theorem Vw.int {i : Int} (h : Vw K v (.int i) H Gz) : v = .int i := by
  rcases h with h | ⟨a, _, h⟩
  · cases h; rfl
  · exact False.elim h
theorem Vw.str {x : Str} (h : Vw K v (.str x) H Gz) : v = .str x := by
  rcases h with h | ⟨a, _, h⟩
  · cases h; rfl
  · exact False.elim h
theorem Vw.bl {b : Bool} (h : Vw K v (.bool b) H Gz) : v = .bl b := by
  rcases h with h | ⟨a, _, h⟩
  · cases h; rfl
  · exact False.elim h
theorem Vw.non (h : Vw K v .none H Gz) : v = .non := by
  rcases h with h | ⟨a, _, h⟩
  · cases h; rfl
  · exact False.elim h
theorem Vw.list {ds : List D} (sm : Same Gz H) (h : Vw K v (.list ds) H Gz) : ∃ a vs, v = .ref a ∧ H a = some (.lst vs) ∧ RpAll K Gz vs ds := by
  rcases h with h | ⟨a, rfl, vs, e, r⟩
  · cases h with
    | lst h r => exact ⟨_, _, rfl, sm _ _ h, r⟩
  · exact ⟨a, vs, rfl, e, r⟩
theorem DicR.noScr {ds : List D} {kvs : List (L2.Key × V)} (h : DicR K Gz kvs [(.none, .list ds)]) : False := by
  cases h with
  | cons p t =>
    have q := p.1
    rename_i k _
    obtain ⟨k1, k2⟩ := k
    cases k1 <;> cases q
/-- the script -/
theorem Vw.scr {ds : List D} (sm : Same Gz H) (h : Vw K v (.dict [(.none, .list ds)]) H Gz) : ∃ a vs, v = .ref a ∧ SqL K H a vs ∧ RpAll K Gz vs ds := by
  rcases h with h | ⟨a, rfl, kvs, e, r, _⟩
  · cases h with
    | scr h r => exact ⟨_, _, rfl, SqL.mono sm h, r⟩
  · exact r.noScr.elim
theorem Vw.tuple {ds : List D} (sm : Same Gz H) (h : Vw K v (.tuple ds) H Gz) : ∃ a vs, v = .ref a ∧ SqT K H a vs ∧ RpAll K Gz vs ds ∧ Rp K Gz v (.tuple ds) := by
  rcases h with h | ⟨a, rfl, h⟩
  · cases h with
    | tup h r => exact ⟨_, _, rfl, SqT.mono sm h.sq, r, .tup h r⟩
  · exact False.elim h
theorem Vw.dict {r : List (D × D)} (ns : ∀ ds, r ≠ [(.none, .list ds)]) (sm : Same Gz H) (h : Vw K v (.dict r) H Gz) : ∃ a kvs, v = .ref a ∧ H a = some (.dK kvs) ∧ DicR K Gz kvs r ∧ (kvs.map (·.1)).Nodup := by
  rcases h with h | ⟨a, rfl, kvs, e, r, nd⟩
  · cases h with
    | dct h => exact ⟨_, [], rfl, sm _ _ h, .nil, .nil⟩
    | scr h r => exact absurd rfl (ns _)
  · exact ⟨a, kvs, rfl, e, r, nd⟩
end

section
variable {X : Cx}
/-- a tuple once is itself -/
theorem tuple_mul1 (l : Addr) (items : Array Value) (n : Nat) (dd : Option Addr) (sl : Array (Option Value)) (x : Int) (u : Tok) (c0 : (decide (x < -(2 ^ 63)) || decide (x ≥ 2 ^ 63)) = false) (c1 : (items.isEmpty || x == 1) = true) :
    Meets (Builtin.«tuple.__mul__» ⟨[.ref l, .int x u], []⟩) (fun _ R s => s.heap.get? l = some { cls := .type "tuple", dict := dd, data := .seq items n, slots := sl } ∧ R (.ok (.ret (Value.ref l))) s) :=
  .of_wp fun prog w A R s h => by
    obtain ⟨hp, g, d, tk, os⟩ := s
    obtain ⟨hl, h⟩ := h
    have f1 := AutoSeq1.idx_int
    wp_walk using AutoSeq1.wpAny_loadPart' hl
    repeat (first
      | (refine wpAny_ite_false (decide_eq_false (by rw [c0]; exact Bool.false_ne_true)) ?_; wp_walk using AutoSeq1.wpAny_loadPart' hl)
      | (refine wpAny_ite_true (decide_eq_true (by rw [c1])) ?_; wp_walk using AutoSeq1.wpAny_loadPart' hl))
    all_goals first | exact ⟨_, rfl, h⟩ | skip
def rRepT1 (K : PySem.W.Frag) : R2 := fun x y H Q => ∃ l xs, x = .ref l ∧ y = .int 1 ∧ SqT K H l xs ∧ Q (.ref l) H
theorem op_repT1 : OpR X (binaryOp .Mult) (rRepT1 X.K) := by
  intro pins s σ H x y v u Q I rx ry h
  obtain ⟨l, xs, rfl, rfl, hT, q⟩ := h
  cases rx
  obtain ⟨t, rfl⟩ := ry
  obtain ⟨its, r, ⟨⟨cls, dd, data, sl⟩, ho, hc, n, hd⟩, hs⟩ := I.tuple hT
  simp only at hc hd
  subst hc hd
  refine wpAny_binaryOp_repeat_ref (T := "tuple") (U := "int") (by decide) ⟨_, ho, rfl⟩ (fun s' => typeIs_int s' 1 t) noFill_tuple_mul F.fills_int_mul F.slot_int_rmul repeat_tuple F.slot_int_index.lookup
    (call_meets F.slot_int_rmul (typeIs_int s 1 t) F.entry_int_rmul (F.args_int_rmul_2 _ _) (int_rmul_tuple 1 t l its.toArray n dd sl)
      ⟨ho, rfl, ⟨_, ho, rfl⟩, call_meets F.slot_tuple_mul ⟨_, ho, rfl⟩ F.entry_tuple_mul (F.args_tuple_mul_2 _ _) (tuple_mul1 l its.toArray n dd sl 1 t (by decide) (by simp)) ⟨ho, ?_⟩⟩)
  exact ⟨.ref l, H, I, rfl, q⟩
end
theorem repL_eq {α : Type} (xs : List α) : ∀ n : Nat, repL xs n = (List.replicate n xs).flatten
  | 0 => rfl
  | n + 1 => by
    show xs ++ repL xs n = _
    rw [repL_eq xs n, List.replicate_succ, List.flatten_cons]
theorem rpAll_rep {K : PySem.W.Frag} {Gz : Hp} {vs : List V} {ds : List D} (h : RpAll K Gz vs ds) : ∀ n : Nat, RpAll K Gz (List.replicate n vs).flatten (repL ds n)
  | 0 => .nil
  | n + 1 => by
    rw [List.replicate_succ, List.flatten_cons]
    exact h.append (rpAll_rep h n)
theorem lim_le : LIM ≤ sizeLine := by
  rw [sizeLine_eq]
  decide
/-- what a step of one operator does: it hands on a value that stands for r -/
def Gives (C : Cz) (σ : L2.St) (F : Addr → Prop) (g : G) (H Gz : Hp) (r : Vl) (wp : VK → Prop) : Prop := ∀ Q : VK, (∀ b H' Gz', C.Rl g σ H' Gz' → Stp g g σ H H' Gz Gz' → VRep C.K C.Hz σ r b g F H' Gz' → Q b H') → wp Q
section
variable {X : Cx} {C : Cz} {σ : L2.St} {F : Addr → Prop} {g : G} {H Gz : Hp} {v u : V}
theorem gives_f {d : D} {wp : VK → Prop} (rl : C.Rl g σ H Gz) {b : V} (rp : Rp C.K Gz b d) (h : ∀ Q : VK, Q b H → wp Q) : Gives C σ F g H Gz (.f d) wp := fun Q hQ => h Q (hQ b H Gz rl .refl rp)
theorem gives_tup {ds : List D} {vs : List V} {wp : VK → Prop} (rl : C.Rl g σ H Gz) (rp : RpAll C.K Gz vs ds) (h : ∀ Q : VK, NewT H vs Q → wp Q) : Gives C σ F g H Gz (.f (.tuple ds)) wp := fun Q hQ => h Q fun p ob hp hd => by
  obtain ⟨r1, s1, e, sm⟩ := mkNew rl (o := .frz ob (.tup vs)) hp
  exact hQ _ _ _ r1 s1 (.tup (.inl ⟨ob, e, hd⟩) (RpAll.mono sm rp))
theorem gives_lst {ds : List D} {vs : List V} {wp : VK → Prop} (hF : FsOk F g σ H) (rl : C.Rl g σ H Gz) (rp : RpAll C.K Gz vs ds) (h : ∀ Q : VK, (∀ p, H p = none → Q (.ref p) (upd H p (.lst vs))) → wp Q) : Gives C σ F g H Gz (.o (.list ds)) wp := fun Q hQ => h Q fun p hp => by
  obtain ⟨r1, s1, v1⟩ := mkOwn rl (o := .lst vs) (d := .list ds) hp fun H' h => ⟨vs, h, rp⟩
  exact hQ _ _ _ r1 s1 (v1 F hF)
theorem str_toArray (x : Str) : (⟨x.cps.toList.toArray⟩ : Str) = x := by
  cases x
  simp
theorem str_append (a b : Str) : (⟨(a.cps.toList ++ b.cps.toList).toArray⟩ : Str) = a ++ b := by
  show _ = (⟨a.cps ++ b.cps⟩ : Str)
  simp
theorem str_len (a : Str) : a.length = a.cps.toList.length := by
  show a.cps.size = _
  simp
theorem op2_exc {o : Op} {d e : D} {c : Str} : op2 o d e ≠ .exc c := by
  unfold op2
  split <;> first | (intro h; cases h; done) | (split <;> (intro h; cases h; done))
theorem op2_ok {o : Op} {op : Operator} (ho : opIs o op = true) {d e : D} {r : Vl} (hK : X.K = C.K) (h : op2 o d e = .ok r) (hF : FsOk F g σ H) (rl : C.Rl g σ H Gz) (hd : Vw C.K v d H Gz) (he : Vw C.K u e H Gz) : Gives C σ F g H Gz r fun Q => wO X (binaryOp op) v u H Q := by
  have sm := rl.sub
  unfold op2 at h
  split at h <;> first | (cases h; done) | skip
  all_goals cases op <;> first | (cases ho; done) | skip
  · -- int + int
    cases h
    cases hd.int; cases he.int
    exact gives_f rl (.int _) fun Q q => wO.of op_add ⟨_, _, rfl, rfl, q⟩
  · split at h
    · rename_i a b hl
      cases h
      cases hd.str; cases he.str
      refine gives_f rl (.str _) fun Q q => wO.of op_add_str ⟨_, _, rfl, rfl, ?_, ?_⟩
      · rw [str_len, str_len]
        exact Nat.le_trans hl lim_le
      · rw [← str_append]; exact q
    · cases h
  · split at h
    · rename_i a b hl
      cases h
      obtain ⟨p, vs, rfl, h1, r1⟩ := hd.list sm
      obtain ⟨q, ws, rfl, h2, r2⟩ := he.list sm
      exact gives_lst hF rl (r1.append r2) fun Q q => wO.of op_cat ⟨_, _, _, _, rfl, rfl, h1, h2, by rw [r1.length, r2.length]; exact Nat.le_trans hl lim_le, q⟩
    · cases h
  · split at h
    · rename_i a b hl
      cases h
      obtain ⟨p, vs, rfl, h1, r1, f1⟩ := hd.tuple sm
      obtain ⟨q, ws, rfl, h2, r2, f2⟩ := he.tuple sm
      rw [← hK] at h1 h2
      have hz : vs.length + ws.length ≤ sizeLine := by rw [r1.length, r2.length]; exact Nat.le_trans hl lim_le
      by_cases e1 : vs = []
      · subst e1
        cases r1
        refine gives_f rl f2 fun Q q => wO.of op_catN ⟨_, _, _, _, rfl, rfl, h1, h2, hz, fun _ => q, fun z => absurd rfl z, fun z => absurd rfl z⟩
      · by_cases e2 : ws = []
        · subst e2
          cases r2
          rw [List.append_nil]
          exact gives_f rl f1 fun Q q => wO.of op_catN ⟨_, _, _, _, rfl, rfl, h1, h2, hz, fun z => absurd z e1, fun _ _ => q, fun _ z => absurd rfl z⟩
        · exact gives_tup rl (r1.append r2) fun Q q => wO.of op_catN ⟨_, _, _, _, rfl, rfl, h1, h2, hz, fun z => absurd z e1, fun _ z => absurd z e2, fun _ _ => q⟩
    · cases h
  · cases h
    cases hd.int; cases he.int
    exact gives_f rl (.int _) fun Q q => wO.of op_sub ⟨_, _, rfl, rfl, q⟩
  · split at h
    · rename_i i j hm
      cases h
      cases hd.int; cases he.int
      refine gives_f rl (.int _) fun Q q => wO.of op_mul ⟨_, _, rfl, rfl, ?_, q⟩
      unfold mulOk at hm
      simp only [Bool.or_eq_true, Bool.and_eq_true, decide_eq_true_eq] at hm
      unfold CMul
      exact hm
    · cases h
  · split at h
    · rename_i a n hl
      obtain ⟨h0, h1, h2⟩ := hl
      cases h
      obtain ⟨p, vs, rfl, h3, r1⟩ := hd.list sm
      cases he.int
      refine gives_lst hF rl (rpAll_rep r1 _) fun Q q => wO.of op_rep ⟨_, _, _, rfl, rfl, h3, by omega, by omega, ?_, q⟩
      rw [r1.length, sizeLine_eq]
      have : a.length * n.toNat ≤ 1000 * 1000 := Nat.mul_le_mul h2 (by omega)
      omega
    · cases h
  · split at h
    · rename_i a n hl
      obtain ⟨h0, h1, h2, h4⟩ := hl
      cases h
      obtain ⟨p, vs, rfl, h3, r1, f1⟩ := hd.tuple sm
      cases he.int
      rw [← hK] at h3
      by_cases e1 : n = 1
      · subst e1
        have er : repL a (1 : Int).toNat = a := by
          show a ++ [] = a
          rw [List.append_nil]
        rw [er]
        exact gives_f rl f1 fun Q q => wO.of op_repT1 ⟨_, _, rfl, rfl, h3, q⟩
      · refine gives_tup rl (rpAll_rep r1 _) fun Q q => wO.of op_repN ⟨_, _, _, rfl, rfl, h3, ?_, by omega, h1, by rw [r1.length]; exact h2, q⟩
        intro z
        rw [z] at r1
        cases r1
        exact h4 rfl
    · cases h
  · split at h
    · rename_i i j hm
      cases h
      cases hd.int; cases he.int
      exact gives_f rl (.int _) fun Q q => wO.of op_mod ⟨_, _, rfl, rfl, hm, q⟩
    · cases h
  · split at h
    · rename_i i j hm
      cases h
      cases hd.int; cases he.int
      refine gives_f rl (.int _) fun Q q => wO.of op_fdivW ⟨_, _, rfl, rfl, wide_div (b := 61) hm.1 ?_ (by decide) (by decide), q⟩
      have := hm.2
      omega
    · cases h
  · split at h
    · rename_i i j hm
      cases h
      cases hd.int; cases he.int
      refine gives_f rl (.int _) fun Q q => wO.of op_pow ⟨_, _, rfl, rfl, ⟨hm.1, by omega, ?_⟩, q⟩
      have h1 := hm.2.2.1
      have h2 := hm.2.2.2
      omega
    · cases h
/-- a op b -/
theorem se_bin {io : Io} {cf : Caller} {o : Op} {op : Operator} {a b : E} {x y : Expr} {pos : Pos} (hK : X.K = C.K) (ho : opIs o op = true) (ha : SE X C io cf a x) (hb : SE X C io cf b y) : SE X C io cf (.bin o a b) (.BinOp x op y pos) := fun g σ H Gz F hF rl => by
  refine Res.imp (two (rep' := repV C.K C.Hz σ) (wp := fun v u H2 Q => wO X (binaryOp op) v u H2 Q) ha hb hF rl (k := fun d e g => R.bind (op2 o d e) fun v => .ok (v, g)) fun d e v u g2 H2 Gz2 hF2 rl2 w1 w2 => ?_) fun Q q => wE.of (pe_op opW PE.w PE.w) q
  exact Res.data (fun _ => op2_exc) fun r hr => op2_ok ho hK hr hF2 rl2 w1 w2
end
end Dat

/-! Dat, part B5: comparisons. -/
namespace Dat
open PySem PySem.Spec PyProof.Rows L2
/-! ### our equality and the library's -/
theorem str_eq_iff (a b : Str) : decide (a.cps.toList = b.cps.toList) = (a == b) := by
  by_cases h : a = b
  · subst h; simp
  · have h2 : ¬ a.cps.toList = b.cps.toList := fun z => h (PySem.W.str_of_cps z)
    rw [decide_eq_false h2]
    exact (beq_eq_false_iff_ne.mpr h).symm
mutual
theorem eqD_eqv : ∀ a b : D, eqD a b = PyData.eqv a b
  | .none, b => by cases b <;> simp [eqD, PyData.eqv]
  | .bool x, b => by cases b <;> simp [eqD, PyData.eqv] <;> cases x <;> simp [Bool.beq_eq_decide_eq]
  | .int x, b => by cases b <;> simp [eqD, PyData.eqv, Bool.beq_eq_decide_eq]
  | .str x, b => by
    cases b with
    | str y => simp only [eqD, PyData.eqv]; exact str_eq_iff x y
    | _ => simp [eqD, PyData.eqv]
  | .list xs, b => by
    cases b with
    | list ys => simp only [eqD, PyData.eqv]; exact eqDs_eqv xs ys
    | _ => simp [eqD, PyData.eqv]
  | .tuple xs, b => by
    cases b with
    | tuple ys => simp only [eqD, PyData.eqv]; exact eqDs_eqv xs ys
    | _ => simp [eqD, PyData.eqv]
  | .dict xs, b => by cases b <;> simp [eqD, PyData.eqv]
theorem eqDs_eqv : ∀ a b : List D, eqDs a b = PyData.eqvAll a b
  | [], b => by cases b <;> simp [eqDs, PyData.eqvAll]
  | x :: xs, b => by
    cases b with
    | nil => simp [eqDs, PyData.eqvAll]
    | cons y ys => simp only [eqDs, PyData.eqvAll, eqD_eqv x y, eqDs_eqv xs ys]
end
mutual
theorem plain_lay : ∀ d : D, plain d = true → PyData.canLay0 d = true
  | .none, _ => rfl
  | .bool _, _ => rfl
  | .int _, _ => rfl
  | .str x, h => by
    simp only [PyData.canLay0, PyData.strOk]
    simp only [plain, List.all_eq_true, decide_eq_true_eq] at h
    rw [Array.all_eq_true]
    intro i hi
    have := h x.cps[i] (by simp)
    exact decide_eq_true (Nat.lt_trans this (by decide))
  | .list xs, h => by simp only [PyData.canLay0]; simp only [plain] at h; exact plains_lay xs h
  | .tuple xs, h => by simp only [PyData.canLay0]; simp only [plain] at h; exact plains_lay xs h
  | .dict _, h => by simp [plain] at h
theorem plains_lay : ∀ d : List D, plains d = true → PyData.canLayAll0 d = true
  | [], _ => rfl
  | x :: xs, h => by
    simp only [plains, Bool.and_eq_true] at h
    simp only [PyData.canLayAll0, Bool.and_eq_true]
    exact ⟨plain_lay x h.1, plains_lay xs h.2⟩
end
mutual
theorem dep_eq : ∀ d : D, plain d = true → PyData.depth d = dep d
  | .none, _ => rfl
  | .bool _, _ => rfl
  | .int _, _ => rfl
  | .str x, h => rfl
  | .list xs, h => by simp only [PyData.depth, dep]; simp only [plain] at h; rw [deps_eq xs h]
  | .tuple xs, h => by simp only [PyData.depth, dep]; simp only [plain] at h; rw [deps_eq xs h]
  | .dict _, h => by simp [plain] at h
theorem deps_eq : ∀ d : List D, plains d = true → PyData.depthAll d = deps d
  | [], _ => rfl
  | x :: xs, h => by
    simp only [plains, Bool.and_eq_true] at h
    simp only [PyData.depthAll, deps, dep_eq x h.1, deps_eq xs h.2]
end
theorem eqOk_shaped {d : D} (h : eqOk d = true) : SeqAt.shaped d = true := by
  unfold eqOk at h
  simp only [Bool.and_eq_true, decide_eq_true_eq] at h
  unfold SeqAt.shaped
  rw [plain_lay d h.1, dep_eq d h.1]
  simp only [Bool.true_and, decide_eq_true_eq]
  omega
theorem eqOk_plain {d : D} (h : eqOk d = true) : plain d = true := by
  unfold eqOk at h
  simp only [Bool.and_eq_true] at h
  exact h.1
/-! ### our data and the layer's -/
mutual
theorem Rp.dp {K : PySem.W.Frag} {H : Hp} : ∀ {v : V} {d : D}, Rp K H v d → plain d = true → Dp K H v d
  | _, _, .non, _ => .non
  | _, _, .bl b, _ => .bl b
  | _, _, .int i, _ => .int i
  | _, _, .str x, _ => .str x
  | _, _, .lst h r, p => .lst (.inl (.inl h)) (RpAll.dp r (by simpa [plain] using p))
  | _, _, .scr _ _, p => by simp [plain] at p
  | _, _, .tup h r, p => .tup h.sq (RpAll.dp r (by simpa [plain] using p))
  | _, _, .dct _, p => by simp [plain] at p
theorem RpAll.dp {K : PySem.W.Frag} {H : Hp} : ∀ {v : List V} {d : List D}, RpAll K H v d → plains d = true → DpAll K H v d
  | _, _, .nil, _ => .nil
  | _, _, .cons h r, p => by
    simp only [plains, Bool.and_eq_true] at p
    exact .cons (Rp.dp h p.1) (RpAll.dp r p.2)
end
theorem Vw.dp {K : PySem.W.Frag} {H Gz : Hp} {v : V} {d : D} (sm : Same Gz H) (h : Vw K v d H Gz) (p : plain d = true) : Dp K H v d := by
  rcases h with h | ⟨a, rfl, h⟩
  · exact (h.mono sm).dp p
  · cases d with
    | list ds =>
      obtain ⟨vs, e, r⟩ := h
      exact .lst (.inl (.inl e)) ((r.mono sm).dp (by simpa [plain] using p))
    | dict r => simp [plain] at p
    | _ => exact False.elim h
/-! ### keys -/
theorem kIs_eq {k k' : L2.Key} {d d' : D} (h : kIs k d) (h' : kIs k' d') : eqD d d' = decide (k = k') := by
  cases k <;> cases k' <;> simp only [kIs] at h h' <;> subst h <;> subst h'
  · rename_i i j
    show decide (i = j) = _
    rw [key_ll, Bool.beq_eq_decide_eq]
  · rw [key_lr]; rfl
  · rw [key_rl]; rfl
  · rename_i x y
    show decide (x.cps.toList = y.cps.toList) = _
    rw [str_eq_iff, key_rr]
    by_cases e : x = y
    · subst e; simp
    · rw [decide_eq_false e]; exact beq_eq_false_iff_ne.mpr e
theorem flat_key {d : D} (h : kFlat d = true) : ∃ k, kIs k d := by
  cases d <;> first | (cases h; done) | skip
  · exact ⟨.inl _, rfl⟩
  · exact ⟨.inr _, rfl⟩
theorem kIs_flat {k : L2.Key} {d : D} (h : kIs k d) : kFlat d = true := by
  cases k <;> cases h <;> rfl
theorem kIs_rp {K : PySem.W.Frag} {H : Hp} {k : L2.Key} {d : D} {v : V} (h : kIs k d) (r : Rp K H v d) : v = kV k := by
  cases k <;> cases h <;> cases r <;> rfl
theorem kIs_vw {K : PySem.W.Frag} {H Gz : Hp} {k : L2.Key} {d : D} {v : V} (h : kIs k d) (r : Vw K v d H Gz) : v = kV k := by
  cases k <;> cases h
  · exact r.int
  · exact r.str
theorem kIs_back {K : PySem.W.Frag} {H : Hp} {k : L2.Key} {d : D} (h : kIs k d) : Rp K H (kV k) d := by
  cases k <;> cases h
  · exact .int _
  · exact .str _
theorem dicR_look {K : PySem.W.Frag} {Gz : Hp} {k : L2.Key} {d : D} (hk : kIs k d) : ∀ {kvs : List (L2.Key × V)} {r : List (D × D)}, DicR K Gz kvs r →
    match dLook d r with
    | some e => ∃ v, valV kvs k = some v ∧ Rp K Gz v e
    | none => valV kvs k = none
  | _, _, .nil => by simp [dLook, valV]
  | _, _, .cons (a := p) (b := q) h t => by
    obtain ⟨h1, h2⟩ := h
    obtain ⟨q1, q2⟩ := q
    have e := kIs_eq h1 hk
    simp only [dLook]
    by_cases hp : p.1 = k
    · rw [e, decide_eq_true hp]
      simp only [if_true]
      exact ⟨p.2, valV_pos hp, h2⟩
    · rw [e, decide_eq_false hp]
      simp only [Bool.false_eq_true, if_false]
      have ih := dicR_look hk t
      rw [valV_neg hp]
      exact ih
/-- a dict of ours that only has tuples as keys is no dict of the layer's yet: it is empty -/
theorem dicR_flat {K : PySem.W.Frag} {Gz : Hp} : ∀ {kvs : List (L2.Key × V)} {r : List (D × D)}, DicR K Gz kvs r → (r.all fun p => kFlat p.1) = true
  | _, _, .nil => rfl
  | _, _, .cons h t => by
    simp only [List.all_cons, Bool.and_eq_true]
    exact ⟨kIs_flat h.1, dicR_flat t⟩
end Dat

/-! Dat, part B6: comparisons, go on. -/
namespace Dat
open PySem PySem.Spec PyProof.Rows L2
theorem memD_any (x : D) : ∀ ys : List D, memD x ys = ys.any fun z => PyData.eqv z x
  | [] => rfl
  | y :: ys => by
    show (eqD y x || memD x ys) = _
    rw [memD_any x ys, eqD_eqv]
    rfl
section
variable {X : Cx}
def rInTD (K : PySem.W.Frag) : R2 := fun x y H Q => ∃ d ds, Dp K H x d ∧ Dp K H y (.tuple ds) ∧ SeqAt.shaped d = true ∧ SeqAt.shaped (.tuple ds) = true ∧ Q (.bl (ds.any fun z => PyData.eqv z d)) H
def rNotInTD (K : PySem.W.Frag) : R2 := fun x y H Q => ∃ d ds, Dp K H x d ∧ Dp K H y (.tuple ds) ∧ SeqAt.shaped d = true ∧ SeqAt.shaped (.tuple ds) = true ∧ Q (.bl (!ds.any fun z => PyData.eqv z d)) H
theorem op_inTD (hu : X.A.units + 65 < cLine) : OpR X (compareOp .In) (rInTD X.K) := by
  intro pins s σ H x y v u Q I rx ry h
  obtain ⟨d, ds, hd, he, sd, se, q⟩ := h
  obtain ⟨as, r1⟩ := Dp.reads I d x v hd rx
  obtain ⟨bs, r2⟩ := Dp.reads I (.tuple ds) y u he ry
  exact SeqAt.in_tuple_reads r2 r1 (SeqAt.canLay_of_shaped se) (SeqAt.canLay_of_shaped sd) (room_in_shaped sd hu) ⟨.bl _, H, I, rfl, q⟩
theorem op_notInTD (hu : X.A.units + 65 < cLine) : OpR X (compareOp .NotIn) (rNotInTD X.K) := by
  intro pins s σ H x y v u Q I rx ry h
  obtain ⟨d, ds, hd, he, sd, se, q⟩ := h
  obtain ⟨as, r1⟩ := Dp.reads I d x v hd rx
  obtain ⟨bs, r2⟩ := Dp.reads I (.tuple ds) y u he ry
  exact SeqAt.notIn_tuple_reads r2 r1 (SeqAt.canLay_of_shaped se) (SeqAt.canLay_of_shaped sd) (room_in_shaped sd hu) ⟨.bl _, H, I, rfl, q⟩
theorem op_inDict (hu : X.A.units + 1 < cLine) : OpR X (compareOp .In) (fun y x H Q => ∃ a o, x = .ref a ∧ DGet H a y o ∧ Q (.bl o.isSome) H) := by
  intro pins s σ H y x u v Q I ry rx h
  obtain ⟨a, o, rfl, dg, q⟩ := h
  cases rx
  exact d_in hu I dg ry fun s' I' => ⟨.bl _, H, I', rfl, q⟩
theorem op_notInDict (hu : X.A.units + 1 < cLine) : OpR X (compareOp .NotIn) (fun y x H Q => ∃ a o, x = .ref a ∧ DGet H a y o ∧ Q (.bl (!o.isSome)) H) := by
  intro pins s σ H y x u v Q I ry rx h
  obtain ⟨a, o, rfl, dg, q⟩ := h
  cases rx
  exact d_notIn hu I dg ry fun s' I' => ⟨.bl _, H, I', rfl, q⟩
end
section
variable {X : Cx} {C : Cz} {k : Nat} {σ : L2.St} {F : Addr → Prop} {g : G} {H Gz : Hp} {v u : V}
theorem bl_gives {b : Bool} {wp : VK → Prop} (rl : C.Rl g σ H Gz) (h : ∀ Q : VK, Q (.bl b) H → wp Q) : Gives C σ F g H Gz (.f (.bool b)) wp := gives_f rl (.bl b) h
theorem u65 {A : Around} (r : Room k A) : A.units + 65 < cLine := by
  have := r.un
  omega
theorem isMem_exc {d e : D} {c : Str} : isMem d e ≠ .exc c := by
  unfold isMem
  split <;> first | (intro h; cases h; done) | (split <;> (intro h; cases h; done))
theorem kOk_flat {d : D} {r : List (D × D)} (h : kOk d r = true) : ∃ key, kIs key d := by
  unfold kOk at h
  simp only [Bool.and_eq_true] at h
  exact flat_key h.1
theorem flat_noScr {r : List (D × D)} (h : (r.all fun p => kFlat p.1) = true) : ∀ ds, r ≠ [(.none, .list ds)] := fun ds e => by
  subst e
  cases h
theorem kOk_noScr {d : D} {r : List (D × D)} (h : kOk d r = true) : ∀ ds, r ≠ [(.none, .list ds)] := by
  unfold kOk at h
  simp only [Bool.and_eq_true] at h
  exact flat_noScr h.2
theorem isMem_ok {X : Cx} {C : Cz} {k : Nat} {d e : D} {b : Bool} (neg : Bool) (hK : X.K = C.K) (room : Room k X.A) (h : isMem d e = .ok b) (rl : C.Rl g σ H Gz) (hd : Vw C.K v d H Gz) (he : Vw C.K u e H Gz) :
    ∀ Q : VK, Q (.bl (if neg then !b else b)) H → wO X (compareOp (if neg then .NotIn else .In)) v u H Q := by
  have sm := rl.sub
  have hu : X.A.units + 65 < cLine := u65 room
  unfold isMem at h
  split at h <;> first | (cases h; done) | skip
  · rename_i x ys
    split at h
    · rename_i ok
      cases h
      rw [memD_any]
      have d1 := hd.dp sm (eqOk_plain ok.1)
      have d2 := he.dp sm (eqOk_plain ok.2)
      rw [← hK] at d1 d2
      cases neg
      · exact fun Q q => wO.of (op_inD hu) ⟨_, _, d1, d2, eqOk_shaped ok.1, eqOk_shaped ok.2, q⟩
      · exact fun Q q => wO.of (op_notInD hu) ⟨_, _, d1, d2, eqOk_shaped ok.1, eqOk_shaped ok.2, q⟩
    · cases h
  · rename_i x ys
    split at h
    · rename_i ok
      cases h
      rw [memD_any]
      have d1 := hd.dp sm (eqOk_plain ok.1)
      have d2 := he.dp sm (eqOk_plain ok.2)
      rw [← hK] at d1 d2
      cases neg
      · exact fun Q q => wO.of (op_inTD hu) ⟨_, _, d1, d2, eqOk_shaped ok.1, eqOk_shaped ok.2, q⟩
      · exact fun Q q => wO.of (op_notInTD hu) ⟨_, _, d1, d2, eqOk_shaped ok.1, eqOk_shaped ok.2, q⟩
    · cases h
  · rename_i x r
    split at h
    · rename_i ok
      cases h
      obtain ⟨key, hk⟩ := kOk_flat ok
      obtain ⟨a, kvs, rfl, ha, dr, _⟩ := he.dict (kOk_noScr ok) sm
      have e1 := kIs_vw hk hd
      subst e1
      have lk := dicR_look hk dr
      have es : (valV kvs key).isSome = dHas d r := by
        unfold dHas
        cases hl : dLook d r with
        | none => rw [hl] at lk; rw [lk]; rfl
        | some z => rw [hl] at lk; obtain ⟨v, e, _⟩ := lk; rw [e]; rfl
      rw [← es]
      have dg : DGet H a (kV key) (valV kvs key) := DGet.k ha
      cases neg
      · exact fun Q q => wO.of (op_inDict (by omega)) ⟨a, _, rfl, dg, q⟩
      · exact fun Q q => wO.of (op_notInDict (by omega)) ⟨a, _, rfl, dg, q⟩
    · cases h
  · rename_i x y
    split at h
    · rename_i c hc
      cases h
      have e1 := hd.str
      have e2 := he.str
      subst e1 e2
      have ex : x = ⟨#[c]⟩ := by
        have := str_toArray x
        rw [hc] at this
        exact this.symm
      subst ex
      cases neg
      · exact fun Q q => wO.of op_in_sign ⟨c, y, rfl, rfl, q⟩
      · exact fun Q q => wO.of op_notIn_sign ⟨c, y, rfl, rfl, q⟩
    · cases h
theorem cmpD_exc {o : Cm} {d e : D} {c : Str} : cmpD o d e ≠ .exc c := by
  unfold cmpD
  split <;> first | (intro h; cases h; done) | exact isMem_exc | skip
  all_goals first | (split <;> (intro h; cases h; done)) | skip
  intro h
  cases hm : isMem d e with
  | ok b => rw [hm] at h; cases h
  | exc c' => exact isMem_exc hm
  | bad => rw [hm] at h; cases h
theorem non_iff {C : Cz} {d : D} (hd : Vw C.K v d H Gz) : decide (v = .non) = isNon d := by
  rcases hd with hd | ⟨a, rfl, hd⟩
  · cases hd <;> simp [isNon]
  · cases d <;> first | exact False.elim hd | simp [isNon]
theorem cmp_ok {X : Cx} {C : Cz} {k : Nat} {o : Cm} {op : CmpOp} (ho : cmIs o op = true) {d e : D} {b : Bool} (hK : X.K = C.K) (room : Room k X.A) (h : cmpD o d e = .ok b) (rl : C.Rl g σ H Gz) (hd : Vw C.K v d H Gz) (he : Vw C.K u e H Gz) :
    ∀ Q : VK, Q (.bl b) H → wO X (compareOp op) v u H Q := by
  have sm := rl.sub
  have hu : X.A.units + 65 < cLine := u65 room
  unfold cmpD at h
  split at h <;> first | (cases h; done) | skip
  all_goals cases op <;> first | (cases ho; done) | skip
  · split at h
    · rename_i ok
      cases h
      obtain ⟨p, vs, rfl, h1, r1⟩ := hd.scr sm
      have d1 : Dp C.K H (.ref p) (.list _) := .lst h1 ((r1.mono sm).dp (by have := eqOk_plain ok.1; simpa [plain] using this))
      have d2 := he.dp sm (eqOk_plain ok.2)
      rw [← hK] at d1 d2
      refine fun Q q => wO.of (op_eqD (by omega)) ⟨_, _, d1, d2, eqOk_shaped ok.1, eqOk_shaped ok.2, ?_⟩
      rw [← eqD_eqv]
      exact q
    · cases h
  · split at h
    · rename_i ok
      cases h
      have d1 := hd.dp sm (eqOk_plain ok.1)
      have d2 := he.dp sm (eqOk_plain ok.2)
      rw [← hK] at d1 d2
      exact fun Q q => wO.of (op_eqD (by omega)) ⟨_, _, d1, d2, eqOk_shaped ok.1, eqOk_shaped ok.2, by rw [← eqD_eqv]; exact q⟩
    · cases h
  · split at h
    · rename_i ok
      cases h
      have d1 := hd.dp sm (eqOk_plain ok.1)
      have d2 := he.dp sm (eqOk_plain ok.2)
      rw [← hK] at d1 d2
      exact fun Q q => wO.of (op_neD (by omega)) ⟨_, _, d1, d2, eqOk_shaped ok.1, eqOk_shaped ok.2, by rw [← eqD_eqv]; exact q⟩
    · cases h
  · cases h
    cases hd.int; cases he.int
    exact fun Q q => wO.of op_lt ⟨_, _, rfl, rfl, q⟩
  · cases h
    cases hd.int; cases he.int
    exact fun Q q => wO.of op_le ⟨_, _, rfl, rfl, q⟩
  · cases h
    cases hd.int; cases he.int
    exact fun Q q => wO.of op_gt ⟨_, _, rfl, rfl, q⟩
  · cases h
    cases hd.int; cases he.int
    exact fun Q q => wO.of op_ge ⟨_, _, rfl, rfl, q⟩
  · exact isMem_ok false hK room h rl hd he
  · obtain ⟨t, ht, h⟩ := R.bind_ok h
    cases h
    exact isMem_ok true hK room ht rl hd he
  · cases h
    cases he.non
    exact fun Q q => wO.of op_isN ⟨rfl, by rw [non_iff hd]; exact q⟩
  · cases h
    cases he.non
    refine fun Q q => wO.of op_notN ⟨rfl, ?_⟩
    rw [non_iff hd]
    exact q
  · cases h
    cases hd.bl; cases he.bl
    refine fun Q q => wO.of op_is_bl ⟨_, _, rfl, rfl, ?_⟩
    cases b <;> exact q
  · cases h
    cases hd.bl; cases he.bl
    rename_i b'
    refine fun Q q => wO.of op_isnot_bl ⟨_, _, rfl, rfl, ?_⟩
    cases b' <;> exact q
end
end Dat

/-! Dat, part B7: comparisons, subscripts, slices as expressions. -/
namespace Dat
open PySem PySem.Spec PyProof.Rows L2
theorem noSet_mark {op : CmpOp} {r : Expr} (h : noSet r = true) : behindInMarks op r = false := by
  cases r <;> first | rfl | (cases h; done)
theorem noSet_last {op op' : CmpOp} {b r : Expr} (h : noSet r = true) : lastMarks [op, op'] [b, r] = false := by
  cases r <;> first | rfl | (cases h; done)
theorem noSlice_plain {b : Expr} (h : noSlice b = true) : PlainIx b := fun o i => by
  cases b <;> first | rfl | (cases h; done)
section
variable {X : Cx} {C : Cz} {io : Io} {cf : Caller} {k : Nat}
theorem se_cmp {o : Cm} {op : CmpOp} {a b : E} {x y : Expr} {pos : Pos} (ok : Cok X C k) (ho : cmIs o op = true) (hs : noSet y = true) (ha : SE X C io cf a x) (hb : SE X C io cf b y) : SE X C io cf (.cmp o a b) (.Compare x [op] [y] pos) := fun g σ H Gz F hF rl => by
  refine Res.imp (two (rep' := repV C.K C.Hz σ) (wp := fun v u H2 Q => wO X (compareOp op) v u H2 Q) ha hb hF rl (k := fun d e g => R.bind (cmpD o d e) fun v => .ok (Vl.f (.bool v), g)) fun d e v u g2 H2 Gz2 hF2 rl2 w1 w2 => ?_) fun Q q => wE.of (pe_cmpR opW PE.w PE.w (noSet_mark hs)) q
  exact Res.data (fun _ => cmpD_exc) fun r hr => bl_gives (F := F) rl2 (cmp_ok ho ok.K ok.room hr rl2 w1 w2)
theorem st_cmp {o : Cm} {op : CmpOp} {a b : E} {x y : Expr} {pos : Pos} (ok : Cok X C k) (ho : cmIs o op = true) (hs : noSet y = true) (ha : SE X C io cf a x) (hb : SE X C io cf b y) : STst X C io cf (.cmp o a b) (.Compare x [op] [y] pos) := fun g σ H Gz F hF rl => by
  have e1 : tst io cf (.cmp o a b) g = (R.bind (ev io cf a g) fun x => R.bind (ev io cf b x.2) fun y => R.bind (x.1.res y.2) fun d => R.bind (y.1.res y.2) fun e => R.bind (cmpD o d e) fun v => .ok (v, y.2)) := by
    unfold tst
    show R.bind (R.bind (ev io cf a g) fun x => R.bind (ev io cf b x.2) fun y => R.bind (x.1.res y.2) fun d => R.bind (y.1.res y.2) fun e => R.bind (cmpD o d e) fun v => .ok (Vl.f (.bool v), y.2)) _ = _
    simp only [bind_assoc]
    rfl
  rw [e1]
  refine Res.imp (two (rep' := repB) (wp := fun v u H2 Q => wO X (compareOp op) v u H2 fun z H3 => ∃ k, z = .bl k ∧ Q k H3) ha hb hF rl (k := fun d e g => R.bind (cmpD o d e) fun v => .ok (v, g)) fun d e v u g2 H2 Gz2 hF2 rl2 w1 w2 => ?_) fun Q q => wT.of (pt_cmpR opW PE.w PE.w (noSet_mark hs)) q
  exact Res.data (fun _ => cmpD_exc) fun r hr Q hQ => cmp_ok ho ok.K ok.room hr rl2 w1 w2 _ ⟨r, rfl, hQ r H2 Gz2 rl2 .refl rfl⟩
theorem res_exc {v : Vl} {g : G} {c : Str} : v.res g ≠ .exc c := by
  cases v with
  | f d => exact fun h => nomatch h
  | o d => exact fun h => nomatch h
  | r i => exact pkv_exc
theorem wO.mono {f : Value → Value → Sem Value} {x y : V} {H : Hp} {Q Q' : VK} (h : wO X f x y H Q) (q : ∀ v H', Q v H' → Q' v H') : wO X f x y H Q' := fun pins s σ v u I rx ry => thn (h pins s σ v u I rx ry) fun _ _ ⟨v, H', I', r, z⟩ => ⟨v, H', I', r, q v H' z⟩
theorem se_chn {a b c : E} {x y z : Expr} {pos : Pos} (ok : Cok X C k) (hs : noSet z = true) (ha : SE X C io cf a x) (hb : SE X C io cf b y) (hc : SE X C io cf c z) : SE X C io cf (.chn a b c) (.Compare x [.LtE, .LtE] [y, z] pos) := fun g σ H Gz F hF rl => by
  refine Res.imp (Res.bind (rep' := repV C.K C.Hz σ) (wpb := fun v H1 (Q : VK) => wE X y σ H1 fun u H2 => wO X (compareOp .LtE) v u H2 fun t H3 => ∃ k, t = .bl k ∧ (if k = true then wE X z σ H3 fun w' H4 => wO X (compareOp .LtE) u w' H4 Q else Q (.bl false) H3)) hF (ha g σ H Gz F hF rl) fun v1 b1 g1 H1 Gz1 e1 hF1 rl1 st1 rp1 =>
    Res.bind (rep' := repV C.K C.Hz σ) (wpb := fun u H2 (Q : VK) => wO X (compareOp .LtE) b1 u H2 fun t H3 => ∃ k, t = .bl k ∧ (if k = true then wE X z σ H3 fun w' H4 => wO X (compareOp .LtE) u w' H4 Q else Q (.bl false) H3)) hF1 (hb g1 σ H1 Gz1 F hF1 rl1) fun v2 b2 g2 H2 Gz2 e2 hF2 rl2 st2 rp2 => ?_) fun Q q => wE.of (pe_chain opW opW PE.w PE.w PE.w (noSet_last hs)) q
  refine Res.data (fun _ => res_exc) fun d hd => Res.data (fun _ => res_exc) fun e he => Res.data (fun _ => cmpD_exc) fun t ht => ?_
  have w1 := (VRep.step rp1 st2).vw rl2 hd
  have w2 := VRep.vw rp2 rl2 he
  have cm := cmp_ok (op := .LtE) rfl ok.K ok.room ht rl2 w1 w2
  cases t with
  | false => exact fun Q hQ => cm _ ⟨false, rfl, by rw [if_neg Bool.false_ne_true]; exact hQ _ H2 Gz2 rl2 .refl (.bl false)⟩
  | true =>
    refine Res.imp (Res.bind (rep' := repV C.K C.Hz σ) (wpb := fun w' H4 (Q : VK) => wO X (compareOp .LtE) b2 w' H4 Q) hF2 (hc g2 σ H2 Gz2 F hF2 rl2) fun v3 b3 g3 H3 Gz3 e3 hF3 rl3 st3 rp3 => ?_) fun Q q => cm _ ⟨true, rfl, by rw [if_pos rfl]; exact q⟩
    refine Res.data (fun _ => res_exc) fun e' he' => Res.data (fun _ => res_exc) fun f hf => Res.data (fun _ => cmpD_exc) fun t ht => ?_
    exact bl_gives (F := F) rl3 (cmp_ok (op := .LtE) rfl ok.K ok.room ht rl3 ((VRep.step rp2 st3).vw rl3 he') (VRep.vw rp3 rl3 hf))
theorem st_chn {a b c : E} {x y z : Expr} {pos : Pos} (ok : Cok X C k) (hs : noSet z = true) (ha : SE X C io cf a x) (hb : SE X C io cf b y) (hc : SE X C io cf c z) : STst X C io cf (.chn a b c) (.Compare x [.LtE, .LtE] [y, z] pos) := fun g σ H Gz F hF rl => by
  have e1 : tst io cf (.chn a b c) g = (R.bind (ev io cf a g) fun x => R.bind (ev io cf b x.2) fun y => R.bind (x.1.res y.2) fun d => R.bind (y.1.res y.2) fun e => R.bind (cmpD .le d e) fun v => match v with
    | false => .ok (false, y.2)
    | true => R.bind (ev io cf c y.2) fun z => R.bind (y.1.res z.2) fun e => R.bind (z.1.res z.2) fun h => R.bind (cmpD .le e h) fun v => .ok (v, z.2)) := by
    unfold tst
    show R.bind (R.bind (ev io cf a g) fun x => R.bind (ev io cf b x.2) fun y => R.bind (x.1.res y.2) fun d => R.bind (y.1.res y.2) fun e => R.bind (cmpD .le d e) fun v => match v with
    | false => .ok (Vl.f (.bool false), y.2)
    | true => R.bind (ev io cf c y.2) fun z => R.bind (y.1.res z.2) fun e => R.bind (z.1.res z.2) fun h => R.bind (cmpD .le e h) fun v => .ok (Vl.f (.bool v), z.2)) _ = _
    simp only [bind_assoc]
    congr 1; funext x; congr 1; funext y; congr 1; funext d; congr 1; funext e; congr 1; funext v
    cases v with
    | false => rfl
    | true => simp only [bind_assoc]; rfl
  rw [e1]
  refine Res.imp (Res.bind (rep' := repB) (wpb := fun v H1 (Q : Bool → Hp → Prop) => wE X y σ H1 fun u H2 => wO X (compareOp .LtE) v u H2 fun t H3 => ∃ k, t = .bl k ∧ (if k = true then wE X z σ H3 fun w' H4 => wO X (compareOp .LtE) u w' H4 (fun r H5 => ∃ k, r = .bl k ∧ Q k H5) else ∃ k, V.bl false = .bl k ∧ Q k H3)) hF (ha g σ H Gz F hF rl) fun v1 b1 g1 H1 Gz1 e1 hF1 rl1 st1 rp1 =>
    Res.bind (rep' := repB) (wpb := fun u H2 (Q : Bool → Hp → Prop) => wO X (compareOp .LtE) b1 u H2 fun t H3 => ∃ k, t = .bl k ∧ (if k = true then wE X z σ H3 fun w' H4 => wO X (compareOp .LtE) u w' H4 (fun r H5 => ∃ k, r = .bl k ∧ Q k H5) else ∃ k, V.bl false = .bl k ∧ Q k H3)) hF1 (hb g1 σ H1 Gz1 F hF1 rl1) fun v2 b2 g2 H2 Gz2 e2 hF2 rl2 st2 rp2 => ?_) fun Q q => wT.of (pt_chain opW opW PE.w PE.w PE.w (noSet_last hs)) q
  refine Res.data (fun _ => res_exc) fun d hd => Res.data (fun _ => res_exc) fun e he => Res.data (fun _ => cmpD_exc) fun t ht => ?_
  have w1 := (VRep.step rp1 st2).vw rl2 hd
  have w2 := VRep.vw rp2 rl2 he
  have cm := cmp_ok (op := .LtE) rfl ok.K ok.room ht rl2 w1 w2
  cases t with
  | false => exact fun Q hQ => cm _ ⟨false, rfl, by rw [if_neg Bool.false_ne_true]; exact ⟨false, rfl, hQ _ H2 Gz2 rl2 .refl rfl⟩⟩
  | true =>
    refine Res.imp (Res.bind (rep' := repB) (wpb := fun w' H4 (Q : Bool → Hp → Prop) => wO X (compareOp .LtE) b2 w' H4 (fun r H5 => ∃ k, r = .bl k ∧ Q k H5)) hF2 (hc g2 σ H2 Gz2 F hF2 rl2) fun v3 b3 g3 H3 Gz3 e3 hF3 rl3 st3 rp3 => ?_) fun Q q => cm _ ⟨true, rfl, by rw [if_pos rfl]; exact q⟩
    refine Res.data (fun _ => res_exc) fun e' he' => Res.data (fun _ => res_exc) fun f hf => Res.data (fun _ => cmpD_exc) fun t ht => ?_
    exact fun Q hQ => cmp_ok (op := .LtE) rfl ok.K ok.room ht rl3 ((VRep.step rp2 st3).vw rl3 he') (VRep.vw rp3 rl3 hf) _ ⟨t, rfl, hQ _ H3 Gz3 rl3 .refl rfl⟩

/-! ### subscripts -/
theorem ixL_at {α : Type} {xs : List α} {i : Int} {v : α} (h : ixL xs i = some v) : atI xs i = some v := by
  unfold ixL at h
  unfold atI ixN
  by_cases h0 : 0 ≤ i
  · rw [if_pos h0] at h
    have hl := getElem?_lt h
    rw [if_pos h0, if_pos (by omega)]
    exact h
  · rw [if_neg h0] at h
    rw [if_neg h0]
    by_cases h1 : -(xs.length : Int) ≤ i
    · rw [if_pos h1] at h ⊢
      exact h
    · rw [if_neg h1] at h
      cases h
theorem atI_rp {K : PySem.W.Frag} {Gz : Hp} {vs : List V} {ds : List D} (r : RpAll K Gz vs ds) {i : Int} {d : D} (h : atI ds i = some d) : ∃ v, atI vs i = some v ∧ Rp K Gz v d := by
  unfold atI at h ⊢
  rw [r.length]
  cases hn : ixN ds.length i with
  | none => rw [hn] at h; cases h
  | some j =>
    rw [hn] at h
    exact r.get h
def rIxDict : R2 := fun x y H Q => ∃ a v, x = .ref a ∧ DGet H a y (some v) ∧ Q v H
theorem ix_dict (hu : X.A.units + 1 < cLine) : IxR X rIxDict := by
  intro value slice pins s σ H x y v u Q I rx ry h hs
  obtain ⟨a, w, rfl, dg, q⟩ := h
  cases rx
  have hT := dict_typeIs I dg
  unfold subscriptTail
  refine wpAny_bind ?_
  rw [getitemInPython_of_ne hT.not_modules]
  refine wpAny_bind (wpAny_specialOf hT PySem.F.slot_dict_getitem.lookup ?_)
  have fin : wpAny (model X.prog X.w) X.A (subscripted slice false (.ref a) u) (fun r s₃ => wpAny (model X.prog X.w) X.A (letTemporaryGo value (.ref a) r >>= fun _ => pure r) (EP X pins σ Q) X.xe s₃) X.xe s := by
    rw [hs]
    exact wpAny_operating (d_getItem hu I dg ry fun w' s3 I3 rw' => wpAny_bind (wpAny_letTemporaryGo (wpAny_pure ⟨w, H, I3, rw', q⟩)))
  first
    | exact wpAny_pure (wpAny_bind fin)
    | exact wpAny_bind (wpAny_pure (wpAny_bind fin))
    | exact wpAny_bind fin
def rIxAll (K : PySem.W.Frag) : R2 := fun x y H Q => rIx K x y H Q ∨ rIxDict x y H Q
theorem ixD_exc {d e : D} {c : Str} : ixD d e ≠ .exc c := by
  unfold ixD
  split
  · cases ixL _ _ <;> (intro h; cases h)
  · cases ixL _ _ <;> (intro h; cases h)
  · cases ixL _ _ <;> (intro h; cases h)
  · split
    · cases ixL _ _ <;> (intro h; cases h)
    · intro h; cases h
  · split
    · cases dLook _ _ <;> (intro h; cases h)
    · intro h; cases h
  · intro h; cases h
theorem ofO_ok {α : Type} {o : Option α} {a : α} (h : R.ofO o = .ok a) : o = some a := by
  cases o with
  | none => cases h
  | some b => cases h; rfl
theorem sz_str {z : Str} {n : Nat} (h : n < z.cps.toList.length) : True := trivial
theorem se_sub {a i : E} {x y : Expr} {pos : Pos} (ok : Cok X C k) (hs : noSlice y = true) (ha : SE X C io cf a x) (hi : SE X C io cf i y) : SE X C io cf (.sub a i) (.Subscript x y pos) := fun g σ H Gz F hF rl => by
  have hu : X.A.units + 65 < cLine := u65 ok.room
  refine Res.imp (two (rep' := repV C.K C.Hz σ) (wp := fun v u H2 Q => rIxAll X.K v u H2 Q) ha hi hF rl (k := fun d e g => R.bind (ixD d e) fun v => .ok (Vl.f v, g)) fun d e v u g2 H2 Gz2 hF2 rl2 w1 w2 => ?_) fun Q q => wE.of (pe_ix (ix_seq.or (ix_dict (by omega))) PE.w PE.w (noSlice_plain hs)) q
  refine Res.data (fun _ => ixD_exc) fun r hr => ?_
  have sm := rl2.sub
  unfold ixD at hr
  split at hr
  · obtain ⟨p, vs, rfl, h1, r1⟩ := w1.list sm
    cases w2.int
    obtain ⟨b, hb, rb⟩ := atI_rp r1 (ixL_at (ofO_ok hr))
    exact gives_f (F := F) rl2 rb fun Q q => .inl (.inl ⟨_, _, _, _, rfl, rfl, .inl (.inl h1), hb, q⟩)
  · obtain ⟨p, vs, rfl, h1, r1⟩ := w1.scr sm
    cases w2.int
    obtain ⟨b, hb, rb⟩ := atI_rp r1 (ixL_at (ofO_ok hr))
    rw [← ok.K] at h1
    exact gives_f (F := F) rl2 rb fun Q q => .inl (.inl ⟨_, _, _, _, rfl, rfl, h1, hb, q⟩)
  · obtain ⟨p, vs, rfl, h1, r1, _⟩ := w1.tuple sm
    cases w2.int
    obtain ⟨b, hb, rb⟩ := atI_rp r1 (ixL_at (ofO_ok hr))
    rw [← ok.K] at h1
    exact gives_f (F := F) rl2 rb fun Q q => .inl (.inr (.inl ⟨_, _, _, _, rfl, rfl, h1, hb, q⟩))
  · split at hr
    · rename_i hl
      obtain ⟨c, hc, e⟩ := R.bind_ok hr
      cases e
      cases w1.str; cases w2.int
      exact gives_f (F := F) rl2 (.str _) fun Q q => .inl (.inr (.inr ⟨_, _, c, rfl, rfl, by rw [str_len]; exact Nat.le_trans hl lim_le, ixL_at (ofO_ok hc), q⟩))
    · cases hr
  · split at hr
    · rename_i hk
      obtain ⟨key, hkey⟩ := kOk_flat hk
      obtain ⟨p, kvs, rfl, h1, dr, _⟩ := w1.dict (kOk_noScr hk) sm
      have e1 := kIs_vw hkey w2
      subst e1
      have lk := dicR_look hkey dr
      rw [ofO_ok hr] at lk
      obtain ⟨b, hb, rb⟩ := lk
      refine gives_f (F := F) rl2 rb fun Q q => .inr ⟨p, b, rfl, ?_, q⟩
      rw [← hb]
      exact DGet.k h1
    · cases hr
  · cases hr
end
end Dat

/-! Dat, part B8: the order of data; sorted, min, max. -/
namespace Dat
open PySem PySem.Spec PyProof.Rows L2
open PySem.W (alike alikeAll dataLt dataLe TotalLe sameRank)
mutual
theorem alk_alike : ∀ a b : D, alk a b = true → alike a b = true
  | .int _, .int _, _ => by simp [alike]
  | .str _, .str _, _ => by simp [alike]
  | .list xs, .list ys, h => by
    simp only [alk] at h
    simp only [alike]
    exact alks_alike xs ys h
  | .tuple xs, .tuple ys, h => by
    simp only [alk] at h
    simp only [alike]
    exact alks_alike xs ys h
  | .none, b, h => by cases b <;> simp [alk] at h
  | .bool _, b, h => by cases b <;> simp [alk] at h
  | .dict _, b, h => by cases b <;> simp [alk] at h
  | .int _, .none, h => by simp [alk] at h
  | .int _, .bool _, h => by simp [alk] at h
  | .int _, .str _, h => by simp [alk] at h
  | .int _, .list _, h => by simp [alk] at h
  | .int _, .tuple _, h => by simp [alk] at h
  | .int _, .dict _, h => by simp [alk] at h
  | .str _, .none, h => by simp [alk] at h
  | .str _, .bool _, h => by simp [alk] at h
  | .str _, .int _, h => by simp [alk] at h
  | .str _, .list _, h => by simp [alk] at h
  | .str _, .tuple _, h => by simp [alk] at h
  | .str _, .dict _, h => by simp [alk] at h
  | .list _, .none, h => by simp [alk] at h
  | .list _, .bool _, h => by simp [alk] at h
  | .list _, .int _, h => by simp [alk] at h
  | .list _, .str _, h => by simp [alk] at h
  | .list _, .tuple _, h => by simp [alk] at h
  | .list _, .dict _, h => by simp [alk] at h
  | .tuple _, .none, h => by simp [alk] at h
  | .tuple _, .bool _, h => by simp [alk] at h
  | .tuple _, .int _, h => by simp [alk] at h
  | .tuple _, .str _, h => by simp [alk] at h
  | .tuple _, .list _, h => by simp [alk] at h
  | .tuple _, .dict _, h => by simp [alk] at h
theorem alks_alike : ∀ a b : List D, alks a b = true → alikeAll a b = true
  | [], b, _ => by cases b <;> simp [alikeAll]
  | _ :: _, [], _ => by simp [alikeAll]
  | x :: xs, y :: ys, h => by
    simp only [alks, Bool.and_eq_true] at h
    simp only [alikeAll, Bool.and_eq_true]
    exact ⟨alk_alike x y h.1, alks_alike xs ys h.2⟩
end
theorem ltL_lt : ∀ a b : List Nat, ltL a b = decide (a < b)
  | [], [] => by simp [ltL]
  | [], _ :: _ => by simp [ltL]
  | _ :: _, [] => by simp [ltL]
  | x :: xs, y :: ys => by
    simp only [ltL]
    by_cases e : x = y
    · subst e
      rw [if_pos rfl, ltL_lt xs ys]
      congr 1
      exact propext ⟨fun h => List.cons_lt_cons_iff.mpr (.inr ⟨rfl, h⟩), fun h => by
        rcases List.cons_lt_cons_iff.mp h with z | z
        · exact absurd z (Nat.lt_irrefl _)
        · exact z.2⟩
    · rw [if_neg e]
      congr 1
      exact propext ⟨fun h => List.cons_lt_cons_iff.mpr (.inl h), fun h => by
        rcases List.cons_lt_cons_iff.mp h with z | z
        · exact z
        · exact absurd z.1 e⟩
mutual
theorem ltD_eq : ∀ a b : D, alk a b = true → ltD a b = dataLt a b
  | .int x, b, h => by
    cases b <;> first | (simp [alk] at h; done) | skip
    rw [PySem.W.dataLt_int]
    rfl
  | .str x, b, h => by
    cases b <;> first | (simp [alk] at h; done) | skip
    rw [PySem.W.dataLt_str]
    exact ltL_lt _ _
  | .list xs, b, h => by
    cases b <;> first | (simp [alk] at h; done) | skip
    rename_i ys
    simp only [alk] at h
    rw [PySem.W.dataLt_list]
    exact ltDs_eq xs ys h
  | .tuple xs, b, h => by
    cases b <;> first | (simp [alk] at h; done) | skip
    rename_i ys
    simp only [alk] at h
    rw [PySem.W.dataLt_tuple]
    exact ltDs_eq xs ys h
  | .none, b, h => by cases b <;> simp [alk] at h
  | .bool _, b, h => by cases b <;> simp [alk] at h
  | .dict _, b, h => by cases b <;> simp [alk] at h
theorem ltDs_eq : ∀ a b : List D, alks a b = true → ltDs a b = PyProof.Rows.lexLt itemOrd (PySem.W.keyToksAll a) (PySem.W.keyToksAll b)
  | [], [], _ => by
    simp only [ltDs]
    rw [← PySem.W.dataLt_tuple]
    decide +kernel
  | [], y :: ys, _ => by
    simp only [ltDs]
    rfl
  | x :: xs, [], _ => by
    simp only [ltDs]
    rfl
  | x :: xs, y :: ys, h => by
    simp only [alks, Bool.and_eq_true] at h
    rw [PySem.W.dataLt_cons (alk_alike x y h.1), ← eqD_eqv, ← ltD_eq x y h.1, ← ltDs_eq xs ys h.2]
    rfl
end
/-! ### sorting -/
section
variable {α : Type} {le : α → α → Bool}
/-- put in ahead of all that are not less -/
def insX (lt : α → α → Bool) (x : α) : List α → List α
  | [] => [x]
  | y :: ys => if lt y x = true then y :: insX lt x ys else x :: y :: ys
def sortX (lt : α → α → Bool) : List α → List α
  | [] => []
  | x :: xs => insX lt x (sortX lt xs)
theorem insX_mem {lt : α → α → Bool} {x z : α} : ∀ {l : List α}, z ∈ insX lt x l ↔ z = x ∨ z ∈ l
  | [] => by simp [insX]
  | y :: ys => by
    unfold insX
    split
    · simp only [List.mem_cons, insX_mem]
      constructor
      · rintro (h | h | h)
        · exact .inr (.inl h)
        · exact .inl h
        · exact .inr (.inr h)
      · rintro (h | h | h)
        · exact .inr (.inl h)
        · exact .inl h
        · exact .inr (.inr h)
    · simp
theorem sortX_mem {lt : α → α → Bool} {z : α} : ∀ {l : List α}, z ∈ sortX lt l ↔ z ∈ l
  | [] => by simp [sortX]
  | x :: xs => by
    unfold sortX
    rw [insX_mem, sortX_mem]
    simp
theorem insX_sorted (h : TotalLe le) (x : α) : ∀ {l : List α}, l.Pairwise (fun a b => le a b = true) → (insX (fun a b => !le b a) x l).Pairwise (fun a b => le a b = true)
  | [], _ => by simp [insX]
  | y :: ys, hp => by
    obtain ⟨h1, h2⟩ := List.pairwise_cons.mp hp
    unfold insX
    split
    · rename_i hlt
      have hyx : le y x = true := (h.total y x).elim id fun z => by
        rw [z] at hlt
        cases hlt
      refine List.pairwise_cons.mpr ⟨fun z hz => ?_, insX_sorted h x h2⟩
      rcases insX_mem.mp hz with rfl | hz
      · exact hyx
      · exact h1 z hz
    · rename_i hlt
      have hxy : le x y = true := by
        cases e : le x y with
        | true => rfl
        | false => rw [e] at hlt; exact absurd rfl hlt
      refine List.pairwise_cons.mpr ⟨fun z hz => ?_, hp⟩
      rcases List.mem_cons.mp hz with rfl | hz
      · exact hxy
      · exact h.trans _ _ _ hxy (h1 z hz)
theorem insX_filter (h : TotalLe le) (x c : α) : ∀ l : List α, (insX (fun a b => !le b a) x l).filter (sameRank le c) = (x :: l).filter (sameRank le c)
  | [] => rfl
  | y :: ys => by
    unfold insX
    split
    · rename_i hlt
      have ih := insX_filter h x c ys
      rw [List.filter_cons, ih]
      simp only [List.filter_cons]
      cases ex : sameRank le c x with
      | false => simp
      | true =>
        have ey : sameRank le c y = false := by
          cases ey : sameRank le c y with
          | false => rfl
          | true =>
            unfold sameRank at ex ey
            simp only [Bool.and_eq_true] at ex ey
            have := h.trans _ _ _ ex.2 ey.1
            rw [this] at hlt
            cases hlt
        simp [ey]
    · rfl
theorem sortX_sorted (h : TotalLe le) : ∀ l : List α, (sortX (fun a b => !le b a) l).Pairwise (fun a b => le a b = true)
  | [] => .nil
  | x :: xs => insX_sorted h x (sortX_sorted h xs)
theorem sortX_filter (h : TotalLe le) (c : α) : ∀ l : List α, (sortX (fun a b => !le b a) l).filter (sameRank le c) = l.filter (sameRank le c)
  | [] => rfl
  | x :: xs => by
    show (insX _ x (sortX _ xs)).filter _ = _
    rw [insX_filter h, List.filter_cons, sortX_filter h c xs, ← List.filter_cons]
theorem sortX_merge (h : TotalLe le) (l : List α) : sortX (fun a b => !le b a) l = l.mergeSort le := PySem.W.sort_unique h (sortX_sorted h l) fun c => sortX_filter h c l
end
theorem insX_congr {α : Type} {lt lt' : α → α → Bool} {x : α} : ∀ {l : List α}, (∀ y ∈ l, lt y x = lt' y x) → insX lt x l = insX lt' x l
  | [], _ => rfl
  | y :: ys, h => by
    unfold insX
    rw [h y List.mem_cons_self, insX_congr fun z hz => h z (List.mem_cons_of_mem _ hz)]
theorem sortX_congr {α : Type} {lt lt' : α → α → Bool} : ∀ {l : List α}, (∀ y ∈ l, ∀ x ∈ l, lt y x = lt' y x) → sortX lt l = sortX lt' l
  | [], _ => rfl
  | x :: xs, h => by
    unfold sortX
    rw [sortX_congr fun a ha b hb => h a (List.mem_cons_of_mem _ ha) b (List.mem_cons_of_mem _ hb), insX_congr fun y hy => h y (List.mem_cons_of_mem _ (sortX_mem.mp hy)) x List.mem_cons_self]
theorem insD_eq (x : D) : ∀ l : List D, insD x l = insX ltD x l
  | [] => rfl
  | y :: ys => by
    unfold insD insX
    rw [insD_eq x ys]
theorem sortD_eq : ∀ l : List D, sortD l = sortX ltD l
  | [] => rfl
  | x :: xs => by
    unfold sortD sortX
    rw [sortD_eq xs, insD_eq]
theorem alkAll_ok {xs : List D} (h : alkAll xs = true) : ∀ x ∈ xs, ∀ y ∈ xs, alk x y = true := by
  unfold alkAll at h
  simp only [List.all_eq_true] at h
  exact h
theorem sortD_merge {xs : List D} (h : alkAll xs = true) : sortD xs = xs.mergeSort (dataLe false id) := by
  have hT : TotalLe (dataLe false (id : D → D)) := PySem.W.sortLe_total _ _ _
  rw [sortD_eq, ← sortX_merge hT]
  refine sortX_congr fun y hy x hx => ?_
  rw [ltD_eq y x (alkAll_ok h y hy x hx), PySem.W.dataLe_eq]
  simp
end Dat

/-! Dat, part B9: calls of built-ins on values: sorted, min, max, set. -/
namespace Dat
open PySem PySem.Spec PyProof.Rows L2
open PySem.W (alike alikeAll dataLt dataLe TotalLe sameRank EachIs AllAlike Sortable)
open PySem.W
section
variable (X : Cx)
def wC (f : Value) (vs : List V) (H : Hp) (Q : VK) : Prop := ∀ (pins : List (Addr × Obj)) (s : Shared) (σ : L2.St) (us : List Value), Inv X pins σ H s → Vals vs us → wpAny (model X.prog X.w) X.A (call f us) (EP X pins σ Q) X.xe s
end
section
variable {X : Cx}
theorem callW {f : Value} : CallR X f (wC X f) := fun pins s σ H xs us Q I r h => h pins s σ us I r
theorem wC.of {f : Value} {r : List V → Hp → VK → Prop} {vs : List V} {H : Hp} {Q : VK} (h : CallR X f r) (q : r vs H Q) : wC X f vs H Q := fun pins s σ us I rv => h pins s σ H vs us Q I rv q
theorem each_of {pins : List (Addr × Obj)} {σ : L2.St} {H Gz : Hp} {s : Shared} (I : Inv X pins σ H s) (sm : Same Gz H) : ∀ {vs : List V} {ds : List D} {us : List Value}, RpAll X.K Gz vs ds → Vals vs us → plains ds = true →
    EachIs (fun u (b : D × V) => RelV b.2 u) us (ds.zip vs) ∧ EachIs (fun u (b : D × V) => ∃ as, Reads s.heap u b.1 as) us (ds.zip vs)
  | _, _, _, .nil, .nil, _ => ⟨.nil, .nil⟩
  | _, _, _, .cons h t, .cons r q, p => by
    simp only [plains, Bool.and_eq_true] at p
    obtain ⟨a, b⟩ := each_of I sm t q p.2
    exact ⟨.cons r a, .cons (Dp.reads I _ _ _ ((h.mono sm).dp p.1) r) b⟩
theorem rpAll_zip {K : PySem.W.Frag} {Gz : Hp} : ∀ {vs : List V} {ds : List D}, RpAll K Gz vs ds → ∀ b ∈ ds.zip vs, Rp K Gz b.2 b.1
  | _, _, .nil, b, h => by simp at h
  | _, _, .cons h t, b, hb => by
    rcases List.mem_cons.mp hb with rfl | hb
    · exact h
    · exact rpAll_zip t b hb
theorem rpAll_of_zip {K : PySem.W.Frag} {Gz : Hp} : ∀ {l : List (D × V)}, (∀ b ∈ l, Rp K Gz b.2 b.1) → RpAll K Gz (l.map (·.2)) (l.map (·.1))
  | [], _ => .nil
  | x :: xs, h => .cons (h x List.mem_cons_self) (rpAll_of_zip fun b hb => h b (List.mem_cons_of_mem _ hb))
theorem zip_fst {K : PySem.W.Frag} {Gz : Hp} : ∀ {vs : List V} {ds : List D}, RpAll K Gz vs ds → (ds.zip vs).map (·.1) = ds
  | _, _, .nil => rfl
  | _, _, .cons _ t => by
    rw [List.zip_cons_cons, List.map_cons, zip_fst t]
theorem vals_of_each : ∀ {us : List Value} {l : List (D × V)}, EachIs (fun u (b : D × V) => RelV b.2 u) us l → Vals (l.map (·.2)) us
  | _, _, .nil => .nil
  | _, _, .cons h t => .cons h (vals_of_each t)
theorem deps_mem : ∀ {xs : List D} {x : D}, x ∈ xs → dep x ≤ deps xs
  | y :: ys, x, h => by
    simp only [deps]
    rcases List.mem_cons.mp h with rfl | h
    · omega
    · have := deps_mem h
      omega
theorem plains_mem : ∀ {xs : List D} {x : D}, plains xs = true → x ∈ xs → plain x = true
  | y :: ys, x, p, h => by
    simp only [plains, Bool.and_eq_true] at p
    rcases List.mem_cons.mp h with rfl | h
    · exact p.1
    · exact plains_mem p.2 h
theorem ordOk_ok {xs : List D} (h : ordOk xs = true) : alkAll xs = true ∧ plains xs = true ∧ deps xs ≤ 30 := by
  unfold ordOk at h
  simp only [Bool.and_eq_true, decide_eq_true_eq] at h
  exact ⟨h.1.1, h.1.2, h.2⟩
theorem srtOk_sortable {xs : List D} (h : srtOk xs = true) : Sortable xs := by
  unfold srtOk at h
  simp only [Bool.and_eq_true, Bool.or_eq_true, List.all_eq_true] at h
  rcases h.2 with h | h
  · left
    intro d hd
    have := h d hd
    cases d <;> first | (cases this; done) | skip
    rename_i l
    cases l with
    | nil => cases this
    | cons x r => exact ⟨x, r, rfl⟩
  · right
    intro d hd
    have := h d hd
    cases d <;> first | (cases this; done) | skip
    all_goals exact ⟨fun z => (nomatch z), fun _ z => (nomatch z)⟩
/-- sorted(xs) of a list -/
theorem cr_sortedD {k : Nat} (room : Room k X.A) : CallR X (.builtin "sorted") (fun xs H Q => ∃ (a : Addr) (vs : List V) (ds : List D) (Gz : Hp), xs = [.ref a] ∧ Same Gz H ∧ SqL X.K H a vs ∧ RpAll X.K Gz vs ds ∧ srtOk ds = true ∧
    ∀ p ws, H p = none → RpAll X.K Gz ws (sortD ds) → Q (.ref p) (upd H p (.lst ws))) := by
  intro pins s σ H xs us Q I rv h
  obtain ⟨a, vs, ds, Gz, rfl, sm, hl, rp, ok, q⟩ := h
  obtain ⟨u, rfl, ru⟩ := rv.one
  cases ru
  obtain ⟨its, r, pl, hz⟩ := I.list hl
  have ok' : ordOk ds = true := by
    unfold srtOk at ok
    simp only [Bool.and_eq_true] at ok
    exact ok.1
  obtain ⟨o1, o2, o3⟩ := ordOk_ok ok'
  obtain ⟨e1, e2⟩ := each_of I sm rp r o2
  have hfst := zip_fst rp
  have hlen : (ds.zip vs).length = vs.length := by
    rw [List.length_zip, rp.length]
    exact Nat.min_self _
  have hu := room.un
  refine PySem.W.sorted_data (enc := (·.1)) pl.isList e1 e2 ?_ ?_ (by rw [hlen]; exact hz) ?_ fun out ho eo => ?_
  · rw [hfst]
    exact fun x hx y hy => alk_alike x y (alkAll_ok o1 x hx y hy)
  · rw [hfst]
    exact srtOk_sortable ok
  · intro b hb
    have hb1 : b.1 ∈ ds := by
      rw [← hfst]
      exact List.mem_map.mpr ⟨b, hb, rfl⟩
    rw [dep_eq b.1 (plains_mem o2 hb1)]
    have := deps_mem hb1
    omega
  · obtain ⟨n, hn⟩ := PyProof.Rows.sortedAll_at s.heap its out.toArray
    have hmap : ((ds.zip vs).mergeSort (dataLe false (·.1))).map (·.1) = sortD ds := by
      rw [PySem.W.sort_maps (r := dataLe false fun x : D × V => x.1) (s := dataLe false (id : D → D)) (fun x : D × V => x.1) fun a _ b _ => rfl, hfst, sortD_merge o1]
    have hrp : RpAll X.K Gz (((ds.zip vs).mergeSort (dataLe false (·.1))).map (·.2)) (sortD ds) := by
      rw [← hmap]
      exact rpAll_of_zip fun b hb => rpAll_zip rp b (List.mem_mergeSort.mp hb)
    refine ⟨.ref (s.heap.objs.size + 1), _, I.laid (t' := s.toks) (o := .lst (((ds.zip vs).mergeSort (dataLe false (·.1))).map (·.2))) (fun b ob e => PyProof.Rows.sortedAll_old e) (Nat.le_succ _) ⟨?_, out, n, vals_of_each eo, hn⟩, rfl, q _ _ (I.hok.fresh (Nat.le_succ _)) hrp⟩
    rw [List.length_map, List.length_mergeSort, hlen]
    exact hz
theorem minDs_eq {x : D} : ∀ {xs : List D} {a : D}, (∀ y ∈ xs, alk y a = true ∧ ∀ z ∈ xs, alk y z = true) → xs.foldl (fun a y => if ltD y a = true then y else a) a = xs.foldl (fun a y => if dataLt y a = true then y else a) a
  | [], _, _ => rfl
  | y :: ys, a, h => by
    have h0 := h y List.mem_cons_self
    rw [List.foldl_cons, List.foldl_cons, ltD_eq y a h0.1]
    refine minDs_eq (x := x) fun z hz => ?_
    have h1 := h z (List.mem_cons_of_mem _ hz)
    refine ⟨?_, fun w hw => h1.2 w (List.mem_cons_of_mem _ hw)⟩
    split
    · exact h1.2 y List.mem_cons_self
    · exact h1.1
theorem maxDs_eq {x : D} : ∀ {xs : List D} {a : D}, (∀ y ∈ xs, alk a y = true ∧ ∀ z ∈ xs, alk y z = true) → xs.foldl (fun a y => if ltD a y = true then y else a) a = xs.foldl (fun a y => if dataLt a y = true then y else a) a
  | [], _, _ => rfl
  | y :: ys, a, h => by
    have h0 := h y List.mem_cons_self
    rw [List.foldl_cons, List.foldl_cons, ltD_eq a y h0.1]
    refine maxDs_eq (x := x) fun z hz => ?_
    have h1 := h z (List.mem_cons_of_mem _ hz)
    refine ⟨?_, fun w hw => h1.2 w (List.mem_cons_of_mem _ hw)⟩
    split
    · exact h0.2 z (List.mem_cons_of_mem _ hz)
    · exact h1.1
theorem min_eq {x : D} {xs : List D} (h : ordOk (x :: xs) = true) : minDs x xs = minD x xs := by
  have o := alkAll_ok (ordOk_ok h).1
  exact minDs_eq (x := x) fun y hy => ⟨o y (List.mem_cons_of_mem _ hy) x List.mem_cons_self, fun z hz => o y (List.mem_cons_of_mem _ hy) z (List.mem_cons_of_mem _ hz)⟩
theorem max_eq {x : D} {xs : List D} (h : ordOk (x :: xs) = true) : maxDs x xs = maxD x xs := by
  have o := alkAll_ok (ordOk_ok h).1
  exact maxDs_eq (x := x) fun y hy => ⟨o x List.mem_cons_self y (List.mem_cons_of_mem _ hy), fun z hz => o y (List.mem_cons_of_mem _ hy) z (List.mem_cons_of_mem _ hz)⟩
theorem ordOk_alike {xs : List D} (h : ordOk xs = true) : AlikeAll xs := by
  have o := alkAll_ok (ordOk_ok h).1
  refine ⟨fun x hx y hy => alk_alike x y (o x hx y hy), fun x hx e => ?_⟩
  subst e
  exact absurd (o _ hx _ hx) (by simp [alk])
/-- the item that was found stands for the least -/
theorem found_rp {pins : List (Addr × Obj)} {σ : L2.St} {H Gz : Hp} {s : Shared} {h' : Heap} (I : Inv X pins σ H s) (sm : Same Gz H) {vs : List V} {ds : List D} {us : List Value} (rp : RpAll X.K Gz vs ds) (rv : Vals vs us) (hp : plains ds = true) {i : Nat} {v : Value} {m : D} {bs : List Addr}
    (hi : us[i]? = some v) (hr : Reads h' v m bs) (hk : ∀ b o, s.heap.get? b = some o → h'.get? b = some o) : ∃ y, RelV y v ∧ Rp X.K Gz y m := by
  have hlt : i < us.length := getElem?_lt hi
  have hv : i < vs.length := by rw [rv.length]; exact hlt
  obtain ⟨u, hu, ru⟩ := rv.get (List.getElem?_eq_getElem hv)
  rw [hi] at hu
  cases hu
  obtain ⟨d, hd, rd⟩ := rp.getV (List.getElem?_eq_getElem hv)
  have hpd := plains_mem hp (List.mem_of_getElem? hd)
  obtain ⟨as, r1⟩ := Dp.reads I d _ v ((rd.mono sm).dp hpd) ru
  have e : d = m := PySem.SeqAt.Reads.unique d m v as bs (plain_lay d hpd) (PyProof.Rows.Reads.keeps hk r1) hr
  subst e
  exact ⟨_, ru, rd⟩
end
end Dat

/-! Dat, part B10: min, max, len(set(..)), and the built-ins of one argument. -/
namespace Dat
open PySem PySem.Spec PyProof.Rows L2
open PySem.W
section
variable {X : Cx}
/-- min(x), max(x) of a list or tuple -/
theorem cr_mmD {k : Nat} (mx : Bool) (hc : X.calm = true) (room : Room k X.A) : CallR X (.builtin (if mx then "max" else "min")) (fun vs H Q => ∃ (a : Addr) (ws : List V) (x : D) (xs : List D) (Gz : Hp), vs = [.ref a] ∧ Same Gz H ∧ (SqL X.K H a ws ∨ SqT X.K H a ws) ∧ RpAll X.K Gz ws (x :: xs) ∧ ordOk (x :: xs) = true ∧
    ∀ y, Rp X.K Gz y (if mx then maxDs x xs else minDs x xs) → Q y H) := by
  intro pins s σ H vs us Q I rv h
  obtain ⟨a, ws, x, xs, Gz, rfl, sm, hl, rp, ok, q⟩ := h
  obtain ⟨u, rfl, ru⟩ := rv.one
  cases ru
  have hd := I.ok.hd hc
  obtain ⟨o1, o2, o3⟩ := ordOk_ok ok
  have hu := room.un
  have dz := deps_eq _ o2
  have fin : ∀ (its : List Value), Vals ws its → ∀ (i : Nat) (v : Value) (h' : Heap) (tk : Nat) (bs : List Addr) (m : D), m = (if mx then maxDs x xs else minDs x xs) → its.toArray[i]? = some v → Reads h' v m bs → (∀ b o, s.heap.get? b = some o → h'.get? b = some o) → EP X pins σ Q v { s with heap := h', toks := tk } := fun its r i v h' tk bs m em hi hr hk => by
    have hi' : its[i]? = some v := by simpa using hi
    obtain ⟨y, ry, rpy⟩ := found_rp I sm rp r o2 hi' hr hk
    rw [em] at rpy
    exact ⟨y, H, I.kept (t' := tk) hk, ry, q y rpy⟩
  rcases hl with hl | hl
  · obtain ⟨its, r, pl, hz⟩ := I.list hl
    obtain ⟨as, ra⟩ := Dp.readsAll I (x :: xs) ws its ((rp.mono sm).dp o2) r
    have hu' : X.A.units + 1 + PyData.depthAll (x :: xs) < cLine := by rw [dz]; omega
    cases mx with
    | false => exact min_list_data hd pl.isList (by simpa using ra) (ordOk_alike ok) hu' fun i v h' tk bs h1 h2 h3 => fin its r i v h' tk bs _ (min_eq ok).symm h1 h2 h3
    | true => exact max_list_data hd pl.isList (by simpa using ra) (ordOk_alike ok) hu' fun i v h' tk bs h1 h2 h3 => fin its r i v h' tk bs _ (max_eq ok).symm h1 h2 h3
  · obtain ⟨its, r, pl, hz⟩ := I.tuple hl
    obtain ⟨as, ra⟩ := Dp.readsAll I (x :: xs) ws its ((rp.mono sm).dp o2) r
    have hu' : X.A.units + 1 + PyData.depthAll (x :: xs) < cLine := by rw [dz]; omega
    cases mx with
    | false => exact min_tuple_data hd (show s.heap.IsTuple a its.toArray from pl) (by simpa using ra) (ordOk_alike ok) hu' fun i v h' tk bs h1 h2 h3 => fin its r i v h' tk bs _ (min_eq ok).symm h1 h2 h3
    | true => exact max_tuple_data hd (show s.heap.IsTuple a its.toArray from pl) (by simpa using ra) (ordOk_alike ok) hu' fun i v h' tk bs h1 h2 h3 => fin its r i v h' tk bs _ (max_eq ok).symm h1 h2 h3

/-! ### len(set(x)) -/
theorem nodup_len {α : Type} [DecidableEq α] : ∀ (l m : List α), l.Nodup → (∀ x ∈ l, x ∈ m) → l.length ≤ m.length
  | [], _, _, _ => Nat.zero_le _
  | x :: xs, m, hn, hm => by
    obtain ⟨h1, h2⟩ := List.nodup_cons.mp hn
    have hx : x ∈ m := hm x List.mem_cons_self
    have ih := nodup_len xs (m.erase x) h2 fun y hy => (List.mem_erase_of_ne fun e => h1 (by rw [← e]; exact hy)).mpr (hm y (List.mem_cons_of_mem _ hy))
    rw [List.length_erase_of_mem hx] at ih
    have : 0 < m.length := List.length_pos_of_mem hx
    rw [List.length_cons]
    omega
def dedI : List Int → List Int → List Int
  | [], acc => acc
  | x :: xs, acc => dedI xs (if acc.any (· == x) = true then acc else acc ++ [x])
theorem memD_int (x : Int) : ∀ l : List Int, memD (.int x) (l.map .int) = l.any (· == x)
  | [] => rfl
  | y :: ys => by
    show (eqD (.int y) (.int x) || memD _ _) = _
    rw [memD_int x ys, List.any_cons]
    congr 1
theorem dedupD_int : ∀ (l acc : List Int), dedupD (l.map .int) (acc.map .int) = (dedI l acc).map .int
  | [], acc => rfl
  | x :: xs, acc => by
    show dedupD (xs.map .int) (if memD (.int x) (acc.map .int) = true then acc.map .int else acc.map .int ++ [.int x]) = (dedI xs _).map .int
    rw [memD_int, ← dedupD_int xs]
    split <;> simp
theorem dedI_fold : ∀ (l acc : List Int), dedI l acc = l.foldl step_dedup acc
  | [], _ => rfl
  | x :: xs, acc => by
    rw [List.foldl_cons, ← dedI_fold xs]
    rfl
theorem dedI_mem : ∀ (l acc : List Int) (z : Int), z ∈ dedI l acc ↔ z ∈ acc ∨ z ∈ l
  | [], acc, z => by simp [dedI]
  | x :: xs, acc, z => by
    unfold dedI
    rw [dedI_mem xs]
    split
    · rename_i h
      obtain ⟨y, hy, e⟩ := List.any_eq_true.mp h
      have : y = x := by simpa using e
      subst this
      constructor
      · rintro (h | h)
        · exact .inl h
        · exact .inr (List.mem_cons_of_mem _ h)
      · rintro (h | h)
        · exact .inl h
        · rcases List.mem_cons.mp h with rfl | h
          · exact .inl hy
          · exact .inr h
    · simp only [List.mem_append, List.mem_cons, List.not_mem_nil, or_false, or_assoc]
theorem dedI_nodup : ∀ (l acc : List Int), acc.Nodup → (dedI l acc).Nodup
  | [], _, h => h
  | x :: xs, acc, h => by
    unfold dedI
    refine dedI_nodup xs _ ?_
    split
    · exact h
    · rename_i hn
      rw [List.nodup_append]
      refine ⟨h, by simp, fun a ha b hb e => ?_⟩
      have : b = x := by simpa using hb
      subst this
      subst e
      exact hn (List.any_eq_true.mpr ⟨a, ha, by simp⟩)
theorem firstMet_dedI (ns : List Int) : firstMet (fun i => ns.getD i 0) ns.length = dedI ns [] := by
  unfold firstMet
  rw [dedI_fold]
  congr 1
  refine List.ext_getElem (by simp) fun i h1 h2 => ?_
  simp only [List.getElem_map, List.getElem_range]
  rw [List.getD_eq_getElem?_getD, List.getElem?_eq_getElem h2]
  rfl
def tLenSet (K : PySem.W.Frag) (ta : TE) : TE := fun σ H Q => ta σ H fun x H1 => ∃ (l : Addr) (ns : List Int), x = .ref l ∧ (SqL K H1 l (ns.map V.int) ∨ SqT K H1 l (ns.map V.int)) ∧ ns.length ≤ 4000 ∧ Q (.int ((dedI ns []).length : Nat)) H1
theorem pe_lenset {a : Expr} {ta : TE} {p p2 q pos : Pos} (hg : Gl X "len") (hm : X.mg "len" = none) (hg2 : Gl X "set") (hm2 : X.mg "set" = none) (ha : PE X a ta) (hc : X.calm = true) (na : starEach [a] X.env = (false, eval a X.env) :: starEach [] X.env) :
    PE X (.Call (.Name "len" p) [.Call (.Name "set" p2) [a] [] q] [] pos) (tLenSet X.K ta) := by
  refine ⟨fun pins s σ H Q I h => ?_⟩
  refine Call_ (ld_blt I hg hm boot_len (callWith_builtin1 (args_cons ?_ rfl) rfl rfl))
  refine Call_ (ld_blt I hg2 hm2 boot_set (callWith_type1 (args_cons (thn (ha.run pins s σ H _ I h) fun v s1 ⟨x, H1, I1, r1, q1⟩ => args_nil ?_) na) na rfl))
  obtain ⟨l, ns, rfl, hq, hl, q1⟩ := q1
  cases r1
  rcases hq with hq | hq
  · obtain ⟨its, r, pl, hz⟩ := I1.list hq
    have hlen : its.toArray.size = ns.length := by rw [List.size_toArray, ← r.length, List.length_map]
    refine call_set_list (I1.ok.hd hc) pl.isList (by simpa using r.ints) (by rw [hlen]; unfold scanBound; omega) fun h' tk hS hk => args_nil ?_
    rw [hlen, firstMet_dedI] at hS
    obtain ⟨o, es, ep, t, ho, hex, hd, _, _, _, hf, hn⟩ := hS
    have I2 : Inv X pins σ H1 { s1 with heap := h', toks := tk } := I1.kept fun b o e => hk b o (Heap.lt_size e) e
    have hle : (dedI ns []).length ≤ 4000 := Nat.le_trans (nodup_len _ _ (dedI_nodup ns [] .nil) fun z hz => ((dedI_mem ns [] z).mp hz).elim (fun h => nomatch h) id) hl
    exact call_len_set ho hex hd hf (by rw [hn] <;> omega) ⟨.int (dedI ns []).length, H1, I2.tok _, ⟨_, by rw [hn]⟩, q1⟩
  · obtain ⟨its, r, pl, hz⟩ := I1.tuple hq
    refine call_set_tupI ns (I1.ok.hd hc) (show s1.heap.IsTuple l its.toArray from pl) (by simpa using r.ints) (by unfold scanBound; omega) fun h' tk c hS hcl hk => args_nil ?_
    obtain ⟨o, es, ep, t, ho, hex, hd, _, hnd, hmem, _, hf, hn, _⟩ := hS
    have I2 : Inv X pins σ H1 { s1 with heap := h', toks := tk } := I1.kept fun b o e => hk b o e
    have ec : es.size = (dedI ns []).length := by
      have e1 : (es.toList.map keyOf).length = es.size := by simp
      rw [← e1]
      refine Nat.le_antisymm (nodup_len _ _ hnd fun z hz => ?_) (nodup_len _ _ (dedI_nodup ns [] .nil) fun z hz => ?_)
      · exact (dedI_mem ns [] z).mpr (.inr (of_decide_eq_true ((hmem z).mpr hz)))
      · exact (hmem z).mp (decide_eq_true (((dedI_mem ns [] z).mp hz).elim (fun h => nomatch h) id))
    exact call_len_set ho hex hd hf (by omega) ⟨.int (dedI ns []).length, H1, I2.tok _, ⟨_, by rw [ec]⟩, q1⟩
end
end Dat

/-! Dat, part B11: the built-ins of one argument. -/
namespace Dat
open PySem PySem.Spec PyProof.Rows L2
open PySem.W
def f1Val : F1 → Value
  | .len => .builtin "len" | .abs => .builtin "abs" | .all => .builtin "all" | .any => .builtin "any" | .sum => .builtin "sum" | .tuple => .type "tuple" | .list => .type "list" | .sorted => .builtin "sorted"
  | .min => .builtin "min" | .max => .builtin "max" | .str => .type "str" | .int => .type "int" | .dict => .type "dict" | .lenset => .none | .sortset => .none | .neg => .none
def f1Plain : F1 → Bool
  | .neg => false | .lenset => false | .sortset => false | _ => true
theorem boot_f1 {f : F1} (h : f1Plain f = true) : bootBuiltins (f1Name f) = some (f1Val f) := by
  cases f <;> first | (cases h; done) | (decide +kernel)
theorem f1_name {f : F1} : f1Name f ≠ "__name__" ∧ (f1Name f == ("__debug__" : Str)) = false := by
  cases f <;> decide +kernel
theorem f1_blts {f : F1} (h : f1Plain f = true) : f1Name f ∈ blts := by
  cases f <;> first | (cases h; done) | (decide +kernel)
theorem rp_bools {K : PySem.W.Frag} {Gz : Hp} : ∀ {vs : List V} {ds : List D} {bs : List Bool}, RpAll K Gz vs ds → boolsOf ds = some bs → vs = bs.map V.bl
  | _, _, _, .nil, e => by cases e; rfl
  | _, _, bs, .cons h t, e => by
    cases h <;> first | (cases e; done) | skip
    rename_i vs ds b
    have e : (match boolsOf ds with | some l => some (b :: l) | none => none) = some bs := e
    cases hb : boolsOf ds with
    | none => rw [hb] at e; cases e
    | some l =>
      rw [hb] at e
      cases e
      rw [rp_bools t hb]
      rfl
theorem rp_ints {K : PySem.W.Frag} {Gz : Hp} : ∀ {vs : List V} {ds : List D} {ns : List Int}, RpAll K Gz vs ds → intsOf ds = some ns → vs = ns.map V.int ∧ ds = ns.map .int
  | _, _, _, .nil, e => by cases e; exact ⟨rfl, rfl⟩
  | _, _, bs, .cons h t, e => by
    cases h <;> first | (cases e; done) | skip
    rename_i vs ds b
    have e : (match intsOf ds with | some l => some (b :: l) | none => none) = some bs := e
    cases hb : intsOf ds with
    | none => rw [hb] at e; cases e
    | some l =>
      rw [hb] at e
      cases e
      obtain ⟨e1, e2⟩ := rp_ints t hb
      rw [e1, e2]
      exact ⟨rfl, rfl⟩
/-- the pairs of a list of pairs -/
theorem rp_pairs {K : PySem.W.Frag} {H Gz : Hp} (sm : Same Gz H) : ∀ {vs : List V} {ds : List D} {l : List (D × D)}, RpAll K Gz vs ds → pairsOf ds = some l → (l.all fun p => kFlat p.1) = true →
    ∃ (ps : List Addr) (kvs : List (L2.Key × V)), vs = ps.map V.ref ∧ Paired (fun p kv => SqT K H p [kV kv.1, kv.2]) ps kvs ∧ DicR K Gz kvs l
  | _, _, _, .nil, e, _ => by
    cases e
    exact ⟨[], [], rfl, .nil, .nil⟩
  | _, _, l, .cons (d := d) (ds := ds) h t, e, hf => by
    cases d with
    | tuple xs =>
      match xs, e with
      | [k, v], e =>
        have e : (match pairsOf ds with | some l => some ((k, v) :: l) | none => none) = some l := e
        cases hb : pairsOf ds with
        | none => rw [hb] at e; cases e
        | some l' =>
          rw [hb] at e
          cases e
          simp only [List.all_cons, Bool.and_eq_true] at hf
          obtain ⟨ps, kvs, e1, e2, e3⟩ := rp_pairs sm t hb hf.2
          cases h with
          | @tup adr _ _ hq rp =>
            cases rp with
            | cons hk rp =>
              cases rp with
              | @cons y _ _ _ hv rp =>
                cases rp
                obtain ⟨key, hkey⟩ := flat_key hf.1
                have ek := kIs_rp hkey hk
                subst ek
                exact ⟨adr :: ps, (key, y) :: kvs, by rw [e1]; rfl, .cons (SqT.mono sm hq.sq) e2, .cons ⟨hkey, hv⟩ e3⟩
    | _ => cases e
theorem dicR_put {K : PySem.W.Frag} {Gz : Hp} {key : L2.Key} {k v : D} {y : V} (hk : kIs key k) (hv : Rp K Gz y v) : ∀ {kvs : List (L2.Key × V)} {r : List (D × D)}, DicR K Gz kvs r → (kvs.map (·.1)).Nodup → DicR K Gz (putK kvs key y) (dPut k v r)
  | _, _, .nil, _ => by
    simp only [dPut]
    exact .cons ⟨hk, hv⟩ .nil
  | _, _, .cons (a := p) (b := q) (l₁ := kvs) (l₂ := r) h t, nd => by
    obtain ⟨q1, q2⟩ := q
    have e := kIs_eq h.1 hk
    obtain ⟨n1, n2⟩ := List.nodup_cons.mp nd
    have ih := dicR_put hk hv t n2
    simp only [dPut]
    by_cases hp : p.1 = key
    · rw [e, decide_eq_true hp]
      simp only [if_true]
      have ep : putK (p :: kvs) key y = (p.1, y) :: kvs := by
        unfold putK
        rw [if_pos (by simp [hp])]
        rw [List.map_cons, if_pos hp]
        congr 1
        conv => rhs; rw [← List.map_id kvs]
        refine List.map_congr_left fun z hz => ?_
        have : z.1 ≠ key := fun ez => n1 (List.mem_map.mpr ⟨z, hz, ez.trans hp.symm⟩)
        rw [if_neg this]
        rfl
      rw [ep]
      exact .cons ⟨h.1, hv⟩ t
    · rw [e, decide_eq_false hp]
      simp only [Bool.false_eq_true, if_false]
      have ep : putK (p :: kvs) key y = p :: putK kvs key y := by
        unfold putK
        rw [List.any_cons, decide_eq_false hp, Bool.false_or, List.map_cons, if_neg hp]
        split <;> rfl
      rw [ep]
      exact .cons h ih
theorem nodup_put {key : L2.Key} {y : V} {kvs : List (L2.Key × V)} (nd : (kvs.map (·.1)).Nodup) : ((putK kvs key y).map (·.1)).Nodup := by
  have hv := valV_any (key) kvs
  unfold putK
  split
  · rename_i h
    rw [List.map_map]
    have : ((fun x : L2.Key × V => x.1) ∘ fun kv => if kv.1 = key then (kv.1, y) else kv) = fun x => x.1 := by
      funext x
      simp only [Function.comp]
      split <;> rfl
    rw [this]
    exact nd
  · rename_i h
    rw [List.map_append, List.nodup_append]
    refine ⟨nd, by simp, fun a ha b hb e => h ?_⟩
    obtain ⟨p, hp, e1⟩ := List.mem_map.mp ha
    have : b = key := by simpa using hb
    exact List.any_eq_true.mpr ⟨p, hp, by simp [e1, e, this]⟩
theorem dicR_merge {K : PySem.W.Frag} {Gz : Hp} : ∀ {more : List (L2.Key × V)} {l : List (D × D)} {kvs : List (L2.Key × V)} {r : List (D × D)}, DicR K Gz more l → DicR K Gz kvs r → (kvs.map (·.1)).Nodup → DicR K Gz (mergeK kvs more) (dMerge r l) ∧ ((mergeK kvs more).map (·.1)).Nodup
  | _, _, _, _, .nil, h, nd => ⟨h, nd⟩
  | _, _, _, _, .cons (b := q) p t, h, nd => by
    obtain ⟨q1, q2⟩ := q
    have ih := dicR_merge t (dicR_put p.1 p.2 h nd) (nodup_put nd)
    exact ih

section
variable {X : Cx} {C : Cz} {io : Io} {cf : Caller} {k : Nat} {σ : L2.St} {F : Addr → Prop} {g : G} {H Gz : Hp} {v : V}
theorem ofO_exc {α : Type} {o : Option α} {c : Str} : R.ofO o ≠ .exc c := by
  cases o <;> (intro h; cases h)
theorem bind_exc {α β : Type} {r : R α} {f : α → R β} {c : Str} (h1 : ∀ c, r ≠ .exc c) (h2 : ∀ a c, f a ≠ .exc c) : R.bind r f ≠ .exc c := by
  cases r with
  | ok a => exact h2 a c
  | exc c' => exact absurd rfl (h1 c')
  | bad => intro h; cases h
theorem srt_exc {xs : List D} {c : Str} : srt xs ≠ .exc c := by
  unfold srt
  split <;> (intro h; cases h)
theorem fn1_exc {f : F1} {d : D} {c : Str} : fn1 f d ≠ .exc c := by
  unfold fn1
  split <;> first | (intro h; cases h; done) | exact srt_exc | exact bind_exc (fun _ => ofO_exc) (fun _ _ h => by cases h) | skip
  all_goals first | (split <;> (intro h; cases h; done)) | skip
  all_goals first | (refine bind_exc (fun _ => ofO_exc) fun _ _ => ?_; split <;> (intro h; cases h; done)) | skip
  all_goals (split <;> first | (intro h; cases h; done) | (split <;> (intro h; cases h; done)))
theorem digit_str {a : Int} (h : 0 ≤ a ∧ a < 10) : (toString a : String) = toString a ∧ (((toString a : String) : Str) = ⟨[48 + a.toNat].toArray⟩) := by
  refine ⟨rfl, ?_⟩
  obtain ⟨h1, h2⟩ := h
  have : a = 0 ∨ a = 1 ∨ a = 2 ∨ a = 3 ∨ a = 4 ∨ a = 5 ∨ a = 6 ∨ a = 7 ∨ a = 8 ∨ a = 9 := by omega
  rcases this with h | h | h | h | h | h | h | h | h | h <;> subst h <;> decide +kernel
theorem one_sign {x : Str} {c : Nat} (h : x.cps.toList = [c]) : x = ⟨#[c]⟩ := by
  have := str_toArray x
  rw [h] at this
  exact this.symm
theorem digit_int {c : Nat} (h : 48 ≤ c ∧ c < 58) : PySem.intText? ⟨#[c]⟩ = some ((c - 48 : Nat) : Int) := by
  obtain ⟨h1, h2⟩ := h
  have : c = 48 ∨ c = 49 ∨ c = 50 ∨ c = 51 ∨ c = 52 ∨ c = 53 ∨ c = 54 ∨ c = 55 ∨ c = 56 ∨ c = 57 := by omega
  rcases this with h | h | h | h | h | h | h | h | h | h <;> subst h <;> decide +kernel
def rLenD : List V → Hp → VK → Prop := fun xs H Q => ∃ a kvs, xs = [.ref a] ∧ Rd H a (.dK kvs) ∧ Q (.int kvs.length) H
theorem cr_lenD : CallR X (.builtin "len") rLenD := by
  intro pins s σ H xs us Q I rv h
  obtain ⟨a, kvs, rfl, hd, q⟩ := h
  obtain ⟨u, rfl, ru⟩ := rv.one
  cases ru
  exact d_len I hd fun t s' I' => ⟨.int kvs.length, H, I', ⟨t, rfl⟩, q⟩
theorem fn1_ok {f : F1} (ok : Cok X C k) (hp : f1Plain f = true) {d : D} {r : Vl} (h : fn1 f d = .ok r) (hF : FsOk F g σ H) (rl : C.Rl g σ H Gz) (hd : Vw C.K v d H Gz) : Gives C σ F g H Gz r fun Q => wC X (f1Val f) [v] H Q := by
  have sm := rl.sub
  have hK := ok.K
  unfold fn1 at h
  split at h <;> first | (cases hp; done) | (cases h; done) | skip
  · -- len
    cases h
    obtain ⟨p, vs, rfl, h1, r1⟩ := hd.list sm
    exact gives_f rl (.int _) fun Q q => wC.of call_len_seq ⟨_, _, rfl, .inl (.inl (.inl h1)), by rw [r1.length]; exact q⟩
  · cases h
    obtain ⟨p, vs, rfl, h1, r1⟩ := hd.scr sm
    rw [← hK] at h1
    exact gives_f rl (.int _) fun Q q => wC.of call_len_seq ⟨_, _, rfl, .inl h1, by rw [r1.length]; exact q⟩
  · cases h
    obtain ⟨p, vs, rfl, h1, r1, _⟩ := hd.tuple sm
    rw [← hK] at h1
    exact gives_f rl (.int _) fun Q q => wC.of call_len_seq ⟨_, _, rfl, .inr h1, by rw [r1.length]; exact q⟩
  · split at h
    · rename_i hl
      cases h
      cases hd.str
      exact gives_f rl (.int _) fun Q q => wC.of call_len_str ⟨_, rfl, by rw [str_len]; exact Nat.le_trans hl lim_le, by rw [str_len]; exact q⟩
    · cases h
  · split at h
    · rename_i hk
      cases h
      obtain ⟨p, kvs, rfl, h1, dr, _⟩ := hd.dict (flat_noScr hk) sm
      exact gives_f rl (.int _) fun Q q => wC.of cr_lenD ⟨p, kvs, rfl, .inl h1, by rw [Paired.length dr]; exact q⟩
    · cases h
  · cases h
    cases hd.int
    exact gives_f rl (.int _) fun Q q => wC.of call_abs ⟨_, rfl, q⟩
  · obtain ⟨l, hl, h⟩ := R.bind_ok h
    cases h
    obtain ⟨p, vs, rfl, h1, r1⟩ := hd.list sm
    have e := rp_bools r1 (ofO_ok hl)
    subst e
    exact gives_f rl (.bl _) fun Q q => wC.of (cr_all ok.calm) ⟨_, _, rfl, .inl (.inl h1), q⟩
  · obtain ⟨l, hl, h⟩ := R.bind_ok h
    cases h
    obtain ⟨p, vs, rfl, h1, r1⟩ := hd.list sm
    have e := rp_bools r1 (ofO_ok hl)
    subst e
    exact gives_f rl (.bl _) fun Q q => wC.of (cr_any ok.calm) ⟨_, _, rfl, .inl (.inl h1), q⟩
  · obtain ⟨l, hl, h⟩ := R.bind_ok h
    cases h
    obtain ⟨p, vs, rfl, h1, r1⟩ := hd.list sm
    have e := (rp_ints r1 (ofO_ok hl)).1
    subst e
    exact gives_f rl (.int _) fun Q q => wC.of (cr_sum ok.calm) ⟨_, _, rfl, .inl (.inl h1), q⟩
  · cases h
    obtain ⟨p, vs, rfl, h1, r1⟩ := hd.list sm
    exact gives_tup rl r1 fun Q q => wC.of cr_tupN ⟨_, _, rfl, .inl ⟨.inl (.inl h1), q⟩⟩
  · cases h
    obtain ⟨p, vs, rfl, h1, r1, f1⟩ := hd.tuple sm
    rw [← hK] at h1
    exact gives_f rl f1 fun Q q => wC.of cr_tupN ⟨_, _, rfl, .inr ⟨h1, q⟩⟩
  · cases h
    obtain ⟨p, vs, rfl, h1, r1⟩ := hd.list sm
    exact gives_lst hF rl r1 fun Q q => wC.of call_list_of ⟨_, _, rfl, .inl (.inl (.inl h1)), q⟩
  · cases h
    obtain ⟨p, vs, rfl, h1, r1⟩ := hd.scr sm
    rw [← hK] at h1
    exact gives_lst hF rl r1 fun Q q => wC.of call_list_of ⟨_, _, rfl, .inl h1, q⟩
  · cases h
    obtain ⟨p, vs, rfl, h1, r1, _⟩ := hd.tuple sm
    rw [← hK] at h1
    exact gives_lst hF rl r1 fun Q q => wC.of call_list_of ⟨_, _, rfl, .inr h1, q⟩
  · unfold srt at h
    split at h
    · rename_i hs
      cases h
      obtain ⟨p, vs, rfl, h1, r1⟩ := hd.list sm
      rw [← hK] at r1
      refine fun Q hQ => wC.of (cr_sortedD ok.room) ⟨_, _, _, Gz, rfl, sm, .inl (.inl h1), r1, hs.1, fun p ws hp rs => ?_⟩
      rw [hK] at rs
      obtain ⟨r2, s2, v2⟩ := mkOwn rl (o := .lst ws) (d := .list _) hp fun H' h => ⟨ws, h, rs⟩
      exact hQ _ _ _ r2 s2 (v2 F hF)
    · cases h
  · split at h
    · rename_i ho
      cases h
      obtain ⟨p, vs, rfl, h1, r1⟩ := hd.list sm
      rw [← hK] at r1
      refine fun Q hQ => wC.of (cr_mmD false ok.calm ok.room) ⟨_, _, _, _, Gz, rfl, sm, .inl (.inl (.inl h1)), r1, ho, fun y ry => ?_⟩
      rw [hK] at ry
      exact hQ y H Gz rl .refl ry
    · cases h
  · split at h
    · rename_i ho
      cases h
      obtain ⟨p, vs, rfl, h1, r1, _⟩ := hd.tuple sm
      rw [← hK] at r1 h1
      refine fun Q hQ => wC.of (cr_mmD false ok.calm ok.room) ⟨_, _, _, _, Gz, rfl, sm, .inr h1, r1, ho, fun y ry => ?_⟩
      rw [hK] at ry
      exact hQ y H Gz rl .refl ry
    · cases h
  · split at h
    · rename_i ho
      cases h
      obtain ⟨p, vs, rfl, h1, r1⟩ := hd.list sm
      rw [← hK] at r1
      refine fun Q hQ => wC.of (cr_mmD true ok.calm ok.room) ⟨_, _, _, _, Gz, rfl, sm, .inl (.inl (.inl h1)), r1, ho, fun y ry => ?_⟩
      rw [hK] at ry
      exact hQ y H Gz rl .refl ry
    · cases h
  · split at h
    · rename_i ho
      cases h
      obtain ⟨p, vs, rfl, h1, r1, _⟩ := hd.tuple sm
      rw [← hK] at r1 h1
      refine fun Q hQ => wC.of (cr_mmD true ok.calm ok.room) ⟨_, _, _, _, Gz, rfl, sm, .inr h1, r1, ho, fun y ry => ?_⟩
      rw [hK] at ry
      exact hQ y H Gz rl .refl ry
    · cases h
  · split at h
    · rename_i a ha
      cases h
      cases hd.int
      refine gives_f rl (.str _) fun Q q => wC.of call_str_int ⟨_, rfl, ?_, by rw [(digit_str ha).2]; exact q⟩
      have : a.natAbs < 10 := by omega
      have h2 : a.natAbs.log2 ≤ a.natAbs := Nat.log2_le_self _
      omega
    · cases h
  · split at h
    · rename_i c hc
      split at h
      · rename_i hr
        cases h
        have e := hd.str
        have ex := one_sign hc
        rw [ex] at e
        subst e
        exact gives_f rl (.int _) fun Q q => wC.of call_int_str ⟨_, _, rfl, digit_int hr, by show (1 : Nat) ≤ 640; decide, q⟩
      · cases h
    · cases h
  · cases h
    cases hd.bl
    exact gives_f rl (.int _) fun Q q => wC.of call_int1 (.inr ⟨_, rfl, q⟩)
  · obtain ⟨l, hl, h⟩ := R.bind_ok h
    split at h
    · rename_i hk
      cases h
      obtain ⟨p, vs, rfl, h1, r1⟩ := hd.list sm
      obtain ⟨ps, kvs, rfl, e2, e3⟩ := rp_pairs sm r1 (ofO_ok hl) hk.1
      rw [← hK] at e2
      refine fun Q hQ => wC.of (call_dictP ok.calm) ⟨_, ps, kvs, rfl, .inl (.inl h1), e2, fun p hp => ?_⟩
      obtain ⟨d1, d2⟩ := dicR_merge e3 (.nil : DicR C.K Gz [] []) .nil
      obtain ⟨r2, s2, v2⟩ := mkOwn rl (o := .dK (mergeK [] kvs)) (d := .dict (dMerge [] l)) hp fun H' h => ⟨_, h, d1, d2⟩
      exact hQ _ _ _ r2 s2 (v2 F hF)
    · cases h
/-- f(x) -/
theorem w_f1 {f : F1} {z : Expr} {p pos : Pos} {x : Str} {σ : L2.St} {H : Hp} {Q : VK} (ok : Cok X C k) (hp : f1Plain f = true) (hx : x = f1Name f) (hg : Gl X x) (hs : noStar z = true) (q : wE X z σ H fun v H1 => wC X (f1Val f) [v] H1 Q) : wE X (.Call (.Name x p) [z] [] pos) σ H Q := by
  subst hx
  have hm := ok.bl _ (f1_blts hp)
  have hb := boot_f1 hp
  obtain ⟨n1, n2⟩ := f1_name (f := f)
  have pa : PA X [z] (tCons (wE X z) tNil) := pa_cons PE.w pa_nil (starEach_no hs _)
  have q' : tCB (wC X (f1Val f)) (tCons (wE X z) tNil) σ H Q := q
  cases hf : f1Val f with
  | builtin id =>
    rw [hf] at hb q'
    exact wE.of (pe_callB callW hg hm hb pa n1 n2 (starEach_no hs _)) q'
  | type T =>
    rw [hf] at hb q'
    exact wE.of (pe_callTy callW hg hm hb pa n1 n2 (starEach_no hs _)) q'
  | _ => cases f <;> first | (cases hp; done) | (cases hf; done)
theorem gl_of {x : Str} (h : glB X.env.scope x = true) : Gl X x := by
  have h' : X.env.scope.names.lookup x = some .globalImplicit := by
    unfold glB at h
    exact of_decide_eq_true h
  exact h'
theorem se_b1 {f : F1} {a : E} {z : Expr} {p pos : Pos} {x : Str} (ok : Cok X C k) (hp : f1Plain f = true) (hx : x = f1Name f) (hg : glB X.env.scope x = true) (hs : noStar z = true) (ha : SE X C io cf a z) : SE X C io cf (.b1 f a) (.Call (.Name x p) [z] [] pos) := fun g σ H Gz F hF rl => by
  refine Res.imp (one (rep' := repV C.K C.Hz σ) (wp := fun v H1 Q => wC X (f1Val f) [v] H1 Q) ha hF rl (k := fun d g => R.bind (fn1 f d) fun v => .ok (v, g)) fun d v g2 H2 Gz2 hF2 rl2 w1 => ?_) fun Q q => w_f1 ok hp hx (gl_of hg) hs q
  exact Res.data (fun _ => fn1_exc) fun r hr => fn1_ok ok hp hr hF2 rl2 w1
theorem se_neg {a : E} {z : Expr} {pos : Pos} (ha : SE X C io cf a z) : SE X C io cf (.b1 .neg a) (.UnaryOp .USub z pos) := fun g σ H Gz F hF rl => by
  refine Res.imp (one (rep' := repV C.K C.Hz σ) (wp := fun v H1 Q => wU X (unaryOp .USub) v H1 Q) ha hF rl (k := fun d g => R.bind (fn1 .neg d) fun v => .ok (v, g)) fun d v g2 H2 Gz2 hF2 rl2 w1 => ?_) fun Q q => wE.of (pe_un unW PE.w) q
  refine Res.data (fun _ => fn1_exc) fun r hr => ?_
  cases d <;> first | (cases hr; done) | skip
  cases hr
  cases w1.int
  exact gives_f (F := F) rl2 (.int _) fun Q q => wU.of un_neg ⟨_, rfl, q⟩
theorem se_lenset {a : E} {z : Expr} {p p2 pos q : Pos} (ok : Cok X C k) (hg : glB X.env.scope "len" = true) (hg2 : glB X.env.scope "set" = true) (hs : noStar z = true) (ha : SE X C io cf a z) : SE X C io cf (.b1 .lenset a) (.Call (.Name "len" p) [.Call (.Name "set" p2) [z] [] q] [] pos) := fun g σ H Gz F hF rl => by
  refine Res.imp (one (rep' := repV C.K C.Hz σ) (wp := fun v H1 (Q : VK) => ∃ (l : Addr) (ns : List Int), v = .ref l ∧ (SqL X.K H1 l (ns.map V.int) ∨ SqT X.K H1 l (ns.map V.int)) ∧ ns.length ≤ 4000 ∧ Q (.int ((dedI ns []).length : Nat)) H1) ha hF rl (k := fun d g => R.bind (fn1 .lenset d) fun v => .ok (v, g)) fun d v g2 H2 Gz2 hF2 rl2 w1 => ?_) fun Q q => wE.of (pe_lenset (gl_of hg) (ok.bl _ (by decide +kernel)) (gl_of hg2) (ok.bl _ (by decide +kernel)) PE.w ok.calm (starEach_no hs _)) q
  have sm := rl2.sub
  refine Res.data (fun _ => fn1_exc) fun r hr => ?_
  cases d <;> first | (cases hr; done) | skip
  · obtain ⟨l, hl, hr⟩ := R.bind_ok hr
    split at hr
    · rename_i hlen
      cases hr
      obtain ⟨p, vs, rfl, h1, r1⟩ := w1.list sm
      obtain ⟨e1, e2⟩ := rp_ints r1 (ofO_ok hl)
      subst e1 e2
      refine gives_f (F := F) rl2 (.int _) fun Q q => ⟨p, l, rfl, .inl (.inl (.inl h1)), hlen, ?_⟩
      have := dedupD_int l []
      rw [show (([] : List Int).map PyData.int) = [] from rfl] at this
      rw [this, List.length_map] at q
      exact q
    · cases hr
  · obtain ⟨l, hl, hr⟩ := R.bind_ok hr
    split at hr
    · rename_i hlen
      cases hr
      obtain ⟨p, vs, rfl, h1, r1, _⟩ := w1.tuple sm
      obtain ⟨e1, e2⟩ := rp_ints r1 (ofO_ok hl)
      subst e1 e2
      rw [← ok.K] at h1
      refine gives_f (F := F) rl2 (.int _) fun Q q => ⟨p, l, rfl, .inr h1, hlen, ?_⟩
      have := dedupD_int l []
      rw [show (([] : List Int).map PyData.int) = [] from rfl] at this
      rw [this, List.length_map] at q
      exact q
    · cases hr
end
end Dat

/-! Dat, part B12: isinstance, methods, range, slices, pop. -/
namespace Dat
open PySem PySem.Spec PyProof.Rows L2
open PySem.W
/-! ### a slot's own container changed -/
def B.put : B → D → B
  | .frz _, e => .frz e
  | .own _, e => .own e
  | .io _, e => .io e
def B.mine : B → Bool
  | .frz _ => false
  | _ => true
section
variable {C : Cz} {g : G} {σ : L2.St} {H Gz : Hp}
theorem chg_ok {i : Nat} {h : D → R D} {g' : G} (e : chg g i h = .ok g') : ∃ b z, g[i]? = some (some b) ∧ b.mine = true ∧ h b.dat = .ok z ∧ g' = g.set i (some (b.put z)) := by
  unfold chg at e
  split at e
  · rename_i d hd
    obtain ⟨z, hz, e⟩ := R.bind_ok e
    cases e
    exact ⟨_, z, hd, rfl, hz, rfl⟩
  · rename_i d hd
    obtain ⟨z, hz, e⟩ := R.bind_ok e
    cases e
    exact ⟨_, z, hd, rfl, hz, rfl⟩
  · cases e
theorem chg_exc {i : Nat} {h : D → R D} {c : Str} (hx : ∀ d c, h d ≠ .exc c) : chg g i h ≠ .exc c := by
  unfold chg
  split
  · exact bind_exc (hx _) fun _ _ z => nomatch z
  · exact bind_exc (hx _) fun _ _ z => nomatch z
  · exact fun z => nomatch z
theorem ownSlot_of {i : Nat} {b : B} (h : g[i]? = some (some b)) (m : b.mine = true) : OwnSlot g i := by
  cases b with
  | frz d => cases m
  | own d => exact .inl ⟨d, h⟩
  | io d => exact .inr ⟨d, h⟩
theorem set_get {i j : Nat} {b : Option B} {c : B} (h : (g.set i b)[j]? = some (some c)) : (i = j ∧ b = some c) ∨ (i ≠ j ∧ g[j]? = some (some c)) := by
  by_cases e : i = j
  · subst e
    have hl := getElem?_lt h
    rw [List.length_set] at hl
    rw [List.getElem?_set_self hl] at h
    exact .inl ⟨rfl, Option.some.inj h⟩
  · rw [List.getElem?_set_ne e] at h
    exact .inr ⟨e, h⟩
theorem Rel.chgAt (rl : C.Rl g σ H Gz) {i : Nat} {b : B} (hb : g[i]? = some (some b)) (m : b.mine = true) : ∃ a, σ[i]? = some (some (.ref a)) ∧ OwnAt C.K Gz H a b.dat ∧ Gz a = none ∧
    ∀ (o : HO) (z : D), (∀ H' : Hp, H' a = some o → OwnAt C.K Gz H' a z) → C.Rl (g.set i (some (b.put z))) σ (upd H a o) Gz ∧ Stp g (g.set i (some (b.put z))) σ H (upd H a o) Gz Gz := by
  have hos := ownSlot_of hb m
  have hx : ∃ a, σ[i]? = some (some (.ref a)) ∧ OwnAt C.K Gz H a b.dat ∧ Gz a = none ∧ ((b = .own b.dat ∧ C.Hz a = none) ∨ (b = .io b.dat ∧ C.ia i = some a)) := by
    cases b with
    | frz d => cases m
    | own d =>
      obtain ⟨a, h1, h2, h3, h4⟩ := rl.own i d hb
      exact ⟨a, h1, h3, h2, .inl ⟨rfl, h4⟩⟩
    | io d =>
      obtain ⟨a, h0, h1, h2, h3⟩ := rl.io i d hb
      exact ⟨a, h1, h3, h2, .inr ⟨rfl, h0⟩⟩
  obtain ⟨a, ha, oa, gn, hk⟩ := hx
  refine ⟨a, ha, oa, gn, fun o z hz => ?_⟩
  have own : Owned g σ a := ⟨i, hos, ha⟩
  have os2 : ∀ j, OwnSlot (g.set i (some (b.put z))) j → OwnSlot g j := fun j h => by
    rcases h with ⟨d, h⟩ | ⟨d, h⟩
    · rcases set_get h with ⟨rfl, _⟩ | ⟨_, h⟩
      · exact hos
      · exact .inl ⟨d, h⟩
    · rcases set_get h with ⟨rfl, _⟩ | ⟨_, h⟩
      · exact hos
      · exact .inr ⟨d, h⟩
  have ne : ∀ j c, i ≠ j → OwnSlot g j → σ[j]? = some (some (.ref c)) → c ≠ a := fun j c n h1 h2 h3 => rl.sep i j a n hos h1 ha (by rw [← h3]; exact h2)
  refine ⟨⟨by rw [List.length_set]; exact rl.len, fun c u e => ?_, fun j d h => ?_, fun j d h => ?_, fun j d h => ?_, fun j k c n h1 h2 => rl.sep j k c n (os2 j h1) (os2 k h2), fun c u h1 h2 => ?_, rl.gz0, rl.gr0, fun c h => ?_⟩, ⟨Same.refl _, fun c u h n => ?_, fun _ _ h _ => h, fun c ⟨j, h1, h2⟩ => ⟨j, os2 j h1, h2⟩, fun c h => ?_⟩⟩
  · rw [upd_ne (ne_of_none e gn)]
    exact rl.sub c u e
  · rcases set_get h with ⟨rfl, e⟩ | ⟨_, h⟩
    · cases b <;> first | (cases m; done) | (cases e; done)
    · exact rl.frz j d h
  · rcases set_get h with ⟨rfl, e⟩ | ⟨n, h⟩
    · rcases hk with ⟨eb, hk⟩ | ⟨eb, hk⟩
      · rw [eb] at e
        cases e
        exact ⟨a, ha, gn, hz _ upd_same, hk⟩
      · rw [eb] at e
        cases e
    · obtain ⟨c, h1, h2, h3, h4⟩ := rl.own j d h
      exact ⟨c, h1, h2, h3.mono (Same.refl _) fun u hu => by rw [upd_ne (ne j c n (.inl ⟨d, h⟩) h1)]; exact hu, h4⟩
  · rcases set_get h with ⟨rfl, e⟩ | ⟨n, h⟩
    · rcases hk with ⟨eb, hk⟩ | ⟨eb, hk⟩
      · rw [eb] at e
        cases e
      · rw [eb] at e
        cases e
        exact ⟨a, hk, ha, gn, hz _ upd_same⟩
    · obtain ⟨c, h0, h1, h2, h3⟩ := rl.io j d h
      exact ⟨c, h0, h1, h2, h3.mono (Same.refl _) fun u hu => by rw [upd_ne (ne j c n (.inr ⟨d, h⟩) h1)]; exact hu⟩
  · have : c ≠ a := fun e => by
      subst e
      rcases hk with ⟨_, hk⟩ | ⟨_, hk⟩
      · rw [h1] at hk
        cases hk
      · exact h2 i hk
    rw [upd_ne this]
    exact rl.keep c u h1 h2
  · by_cases e : c = a
    · subst e
      rw [upd_same] at h
      cases h
    · rw [upd_ne e] at h
      exact rl.al0 c h
  · have : c ≠ a := fun e => n (by rw [e]; exact own)
    rw [upd_ne this]
    exact h
  · by_cases e : c = a
    · subst e
      rw [upd_same] at h
      cases h
    · rw [upd_ne e] at h
      exact h
end
section
variable {X : Cx} {C : Cz} {io : Io} {cf : Caller} {k : Nat}
/-! ### isinstance -/
def dTy : D → String
  | .none => "NoneType"
  | .bool _ => "bool"
  | .int _ => "int"
  | .str _ => "str"
  | .list _ => "list"
  | .tuple _ => "tuple"
  | .dict [(.none, .list _)] => "list"
  | .dict _ => "dict"
theorem tyX_tup {K : PySem.W.Frag} {H : Hp} {a : Addr} {xs : List V} (h : SqT K H a xs) : TyX K H (.ref a) (.type "tuple") := by
  rcases h with (h | ⟨o, h⟩) | ⟨o, its, n, h1, h2, _⟩
  · exact .base (.tup h)
  · exact .fTuple h
  · exact .kTuple h1 h2
theorem tyX_lst {K : PySem.W.Frag} {H : Hp} {a : Addr} {xs : List V} (h : SqL K H a xs) : TyX K H (.ref a) (.type "list") := by
  rcases h with (h | ⟨o, h⟩) | ⟨o, its, n, h1, h2, _⟩
  · exact .base (.lst h)
  · exact .base (.frz h)
  · exact .kList h1 h2
theorem Vw.ty {K : PySem.W.Frag} {v : V} {d : D} {H Gz : Hp} (sm : Same Gz H) (h : Vw K v d H Gz) : ∃ n, TyX K H v (.type n) ∧ ∀ t, kitB n (tyId t) = some (isTy t d) := by
  cases d with
  | none => cases h.non; exact ⟨_, .base .non, fun t => by cases t <;> (simp only [isTy, tyId]; decide +kernel)⟩
  | bool b => cases h.bl; exact ⟨_, .base (.bl b), fun t => by cases t <;> (simp only [isTy, tyId]; decide +kernel)⟩
  | int i => cases h.int; exact ⟨_, .base (.int i), fun t => by cases t <;> (simp only [isTy, tyId]; decide +kernel)⟩
  | str i => cases h.str; exact ⟨_, .base (.str i), fun t => by cases t <;> (simp only [isTy, tyId]; decide +kernel)⟩
  | list ds =>
    obtain ⟨a, vs, rfl, h1, _⟩ := h.list sm
    exact ⟨_, .base (.lst h1), fun t => by cases t <;> (simp only [isTy, tyId]; decide +kernel)⟩
  | tuple ds =>
    obtain ⟨a, vs, rfl, h1, _⟩ := h.tuple sm
    exact ⟨_, tyX_tup h1, fun t => by cases t <;> (simp only [isTy, tyId]; decide +kernel)⟩
  | dict r =>
    rcases h with h | ⟨a, rfl, kvs, e, _⟩
    · cases h with
      | scr h _ => exact ⟨_, tyX_lst (SqL.mono sm h), fun t => by cases t <;> (simp only [isTy, tyId]; decide +kernel)⟩
      | dct h => exact ⟨_, .base (.dK (sm _ _ h)), fun t => by cases t <;> (simp only [isTy, tyId]; decide +kernel)⟩
    · exact ⟨_, .base (.dK e), fun t => by cases t <;> (simp only [isTy, tyId]; decide +kernel)⟩
theorem boot_isi : bootBuiltins "isinstance" = some (.builtin "isinstance") := by decide +kernel
theorem boot_ty {t : Ty} : bootBuiltins (tyName t) = some (.type (tyId t)) := by cases t <;> decide +kernel
theorem ty_name {t : Ty} : tyName t ≠ "__name__" ∧ (tyName t == ("__debug__" : Str)) = false ∧ tyName t ∈ blts := by cases t <;> decide +kernel
theorem se_isi {a : E} {t : Ty} {z : Expr} {p p2 pos : Pos} (ok : Cok X C k) (hg : glB X.env.scope "isinstance" = true) (hg2 : glB X.env.scope (tyName t) = true) (hs : noStar z = true) (ha : SE X C io cf a z) : SE X C io cf (.isi a t) (.Call (.Name "isinstance" p) [z, .Name (tyName t) p2] [] pos) := fun g σ H Gz F hF rl => by
  refine Res.imp (one (rep' := repV C.K C.Hz σ) (wp := fun v H1 (Q : VK) => wC X (.builtin "isinstance") [v, .ty (tyId t)] H1 Q) ha hF rl (k := fun d g => .ok (Vl.f (.bool (isTy t d)), g)) fun d v g2 H2 Gz2 hF2 rl2 w1 => ?_) fun Q q => ?_
  · obtain ⟨n, h1, h2⟩ := w1.ty rl2.sub
    rw [← ok.K] at h1
    exact gives_f (F := F) rl2 (.bl _) fun Q q => wC.of call_isi ⟨_, _, _, _, _, rfl, .ty _, h1, kit_ty (h2 t), q⟩
  · obtain ⟨n1, n2, n3⟩ := ty_name (t := t)
    have pb := pe_bltn (X := X) (pos := p2) (v := .ty (tyId t)) (gl_of hg2) (ok.bl _ n3) boot_ty rfl n1 n2
    have pa : PA X [z, .Name (tyName t) p2] (tCons (wE X z) (tCons (tC (.ty (tyId t))) tNil)) := pa_cons PE.w (pa_cons pb pa_nil) (starEach_no hs _)
    exact wE.of (pe_callB callW (gl_of hg) (ok.bl _ (by decide +kernel)) boot_isi pa (by decide +kernel) (by decide +kernel) (starEach_no hs _)) q
/-! ### methods -/
theorem recv_ok {x : Expr} (h : okRecv x = true) (y : Str) (env : Env) (w : Sem Value) : attributeBase x y env w = w := by
  unfold attributeBase
  split
  · cases h
  · rfl
theorem eqv_idx {x : D} : ∀ {a : List D} {n m : Nat}, idxD x a n = some m → n ≤ m ∧ ∃ z, a[m - n]? = some z ∧ PyData.eqv z x = true ∧ ∀ j z', j < m - n → a[j]? = some z' → PyData.eqv z' x = false
  | [], n, m, h => by cases h
  | y :: ys, n, m, h => by
    unfold idxD at h
    split at h
    · rename_i hy
      cases h
      exact ⟨Nat.le_refl _, y, by simp, by rw [← eqD_eqv]; exact hy, fun j z' hj => by omega⟩
    · rename_i hy
      obtain ⟨h1, z, h2, h3, h4⟩ := eqv_idx h
      refine ⟨by omega, z, ?_, h3, fun j z' hj hz => ?_⟩
      · rw [show m - n = (m - (n + 1)) + 1 by omega]
        simpa using h2
      · cases j with
        | zero =>
          have : y = z' := by simpa using hz
          subst this
          rw [← eqD_eqv]
          simpa using hy
        | succ j => exact h4 j z' (by omega) (by simpa using hz)
theorem rp_strs {K : PySem.W.Frag} {Gz : Hp} : ∀ {vs : List V} {ds : List D} {l : List (List Nat)}, RpAll K Gz vs ds → strsOf ds = some l → vs = (l.map fun z => V.str ⟨z.toArray⟩)
  | _, _, _, .nil, h => by cases h; rfl
  | _, _, _, .cons (d := d) r t, h => by
    cases d <;> first | (cases h; done) | skip
    rename_i x
    unfold strsOf at h
    split at h
    · rename_i l' hl
      cases h
      have ih := rp_strs t hl
      cases r
      rw [ih, List.map_cons, str_toArray]
    · cases h
theorem glued_join (s : Str) : ∀ l : List (List Nat), Txt.join s (l.map fun z => (⟨z.toArray⟩ : Str)) = ⟨(joinL s.cps.toList l).toArray⟩ := by
  have key : ∀ (l : List (List Nat)) (acc : Array Nat), (l.map fun z => (⟨z.toArray⟩ : Str)).foldl (fun acc p => acc ++ s.cps ++ p.cps) acc = acc ++ (l.flatMap fun z => s.cps.toList ++ z).toArray := by
    intro l
    induction l with
    | nil => intro acc; simp
    | cons z r ih =>
      intro acc
      rw [List.map_cons, List.foldl_cons, ih]
      apply Array.toList_inj.mp
      simp [List.flatMap_cons]
  have jl : ∀ (l : List (List Nat)) (x : List Nat), joinL s.cps.toList (x :: l) = x ++ l.flatMap fun z => s.cps.toList ++ z := by
    intro l
    induction l with
    | nil => intro x; simp [joinL]
    | cons y r ih =>
      intro x
      show x ++ s.cps.toList ++ joinL s.cps.toList (y :: r) = _
      rw [ih]
      simp [List.flatMap_cons]
  intro l
  cases l with
  | nil => rfl
  | cons x r =>
    show (⟨_⟩ : Str) = _
    congr 1
    rw [jl]
    show ((r.map fun z => (⟨z.toArray⟩ : Str))).foldl (fun acc p => acc ++ s.cps ++ p.cps) x.toArray = _
    rw [key]
    simp
theorem meth_exc {m : M2} {d e : D} {c : Str} : meth m d e ≠ .exc c := by
  unfold meth
  split
  · split
    · exact bind_exc (fun _ => ofO_exc) fun _ _ h => nomatch h
    · exact fun h => nomatch h
  · split
    · exact bind_exc (fun _ => ofO_exc) fun _ _ h => nomatch h
    · exact fun h => nomatch h
  · refine bind_exc (fun _ => ofO_exc) fun _ _ => ?_
    split <;> exact fun h => nomatch h
  · exact fun h => nomatch h
/-- a tuple that may be asked for its methods -/
def tyT (K : PySem.W.Frag) (x : V) (H : Hp) : Prop := ∃ a xs, x = .ref a ∧ TupN K H a xs
theorem tyT_is {pins : List (Addr × Obj)} {σ : L2.St} {H : Hp} {s : Shared} {x : V} {v : Value} (I : Inv X pins σ H s) (r : RelV x v) (ty : tyT X.K x H) :
    s.TypeIs v "tuple" ∧ ∀ a, v = .ref a → ∃ ob, s.heap.get? a = some ob ∧ ob.dict = none := by
  obtain ⟨a, xs, rfl, h⟩ := ty
  cases r
  rcases h with ⟨o, h, hd⟩ | ⟨o, its, n, hk, hd, hc, _⟩
  · obtain ⟨h1, hz, its, rv, o', h2, hc, _⟩ := I.hok a _ h
    rw [h1] at h2
    cases h2
    exact ⟨⟨o, h1, hc⟩, fun b e => by cases e; exact ⟨o, h1, hd⟩⟩
  · exact ⟨⟨o, I.kIn a o hk, hc⟩, fun b e => by cases e; exact ⟨o, I.kIn a o hk, hd⟩⟩
/-- t.index(x): the first place of an equal one -/
def rIndexT (K : PySem.W.Frag) : V → List V → Hp → VK → Prop := fun x xs H Q => ∃ (a : Addr) (y : V) (d : PyData) (ds : List PyData) (j : Nat) (z : PyData), x = V.ref a ∧ xs = [y] ∧ Dp K H (V.ref a) (.tuple ds) ∧ Dp K H y d ∧
  SeqAt.shaped (.tuple ds) = true ∧ SeqAt.shaped d = true ∧ ds[j]? = some z ∧ PyData.eqv z d = true ∧ (∀ (m : Nat) (z' : PyData), m < j → ds[m]? = some z' → PyData.eqv z' d = false) ∧ Q (.int (j : Nat)) H
theorem mt_indexT (hu : X.A.units + 65 < cLine) : MtR X "tuple.index" (rIndexT X.K) := by
  intro pins s σ H x xs v us Q I rx rxs h
  obtain ⟨a, y, d, ds, j, z, rfl, rfl, hl, hy, sl, sd, hz, hzj, hno, q⟩ := h
  cases rx
  cases rxs with
  | cons ry rt =>
    rename_i uy ut
    cases rt
    obtain ⟨bs, r1⟩ := Dp.reads I d y uy hy ry
    have hxs : PyData.canLayAll0 ds = true := SeqAt.canLay_of_shaped (d := .tuple ds) sl
    have hroom : X.A.units + 1 + min (PyData.depthAll ds) d.depth < cLine := room_in_shaped sd hu
    cases hl with
    | tup hs ha =>
      obtain ⟨its, rv, pl, hlen⟩ := I.tuple hs
      obtain ⟨⟨cls, dd, data, sls⟩, ho, hc, n, hdt⟩ := pl
      simp only at hc hdt
      subst hc hdt
      obtain ⟨as, h4⟩ := Dp.readsAll I ds _ its ha rv
      have hn : its.length = ds.length := SeqAt.ReadsAll.length ds its as h4
      have hmap : its.map (SeqAt.readOf s.heap) = ds := SeqAt.readsAll_map ds its as hxs h4
      have hvl := rv.length
      have hsl := sizeLine_eq
      obtain ⟨hjd, _⟩ := List.getElem?_eq_some_iff.mp hz
      have hjl : j < its.length := by omega
      have hj : j < its.toArray.size := by simpa using hjl
      have at_ : ∀ (m : Nat) (hm : m < its.toArray.size) (z' : PyData), ds[m]? = some z' → SeqAt.readOf s.heap its.toArray[m] = z' := by
        intro m hm z' hz'
        have hml : m < its.length := by simpa using hm
        rw [← hmap, List.getElem?_map, List.getElem?_eq_getElem hml] at hz'
        have e1 : SeqAt.readOf s.heap its[m] = z' := Option.some.inj (show some (SeqAt.readOf s.heap its[m]) = some z' from hz')
        simpa using e1
      refine call_meets PySem.F.slot_tuple_index ⟨_, ho, rfl⟩ PySem.F.entry_tuple_index (PySem.F.args_tuple_index_2 _ _)
        (_root_.TI.tuple_indexAt a its.toArray n dd sls uy (fun u => PyData.eqv (SeqAt.readOf s.heap u) d) j hj ?_ ?_) ⟨ho, SeqAt.items_eqAt (vs := its.toArray) (show ReadsAll s.heap its.toArray.toList ds as from h4) r1 hxs (SeqAt.canLay_of_shaped sd) hroom, ?_⟩
      · show PyData.eqv (SeqAt.readOf s.heap its.toArray[j]) d = true
        rw [at_ j hj z hz]
        exact hzj
      · intro m hm hmj
        have hmd : m < ds.length := by omega
        have hz' : ds[m]? = some ds[m] := List.getElem?_eq_getElem hmd
        show PyData.eqv (SeqAt.readOf s.heap its.toArray[m]) d = false
        rw [at_ m hm _ hz']
        exact hno m _ hmj hz'
      · exact ⟨.int (j : Nat), H, I.tok _, ⟨_, rfl⟩, q⟩
theorem pe_ix {o e : Expr} {to : TE} {t : TA} {apos cpos : Pos} (hu : X.A.units + 65 < cLine) (ho : PE X o to) (ha : PA X [e] t)
    (hbase : attributeBase o "index" X.env (eval o X.env) = eval o X.env)
    (hfew : ((PySem.backTo cpos (starEach [e] X.env)).all (fun x => !x.1) && (backToKw cpos (keywordEach [] X.env)).all (fun x => x.1.isSome)
      && decide (([e] : List Expr).length + ([] : List Keyword).length + (if ([] : List Keyword).isEmpty then 0 else 1) < 30)) = true)
    (hline : (apos.endLine == cpos.line) = true) (hs : starEach [e] X.env = (false, eval e X.env) :: starEach [] X.env) :
    PE X (.Call (.Attribute o "index" apos) [e] [] cpos) (fun σ H Q => to σ H fun x H1 => (tyV X.K "list" x H1 ∧ t σ H1 fun xs H2 => rIndexD X.K x xs H2 Q) ∨ (tyT X.K x H1 ∧ t σ H1 fun xs H2 => rIndexT X.K x xs H2 Q)) := by
  refine ⟨fun pins s σ H Q I h => ?_⟩
  refine wpAny_Call_method_late hbase hfew hline rfl (thn (ho.run pins s σ H _ I h) fun v s1 ⟨x, H1, I1, r1, q1⟩ => ?_)
  rcases q1 with ⟨ty, q1⟩ | ⟨ty, q1⟩
  · obtain ⟨h1, h2⟩ := tyV_is I1 r1 ty
    refine ⟨"list", "list.index", PySem.F.plainAttrs_list, PySem.F.slot_list_index, PySem.F.type_list_index, h1, h2, ?_⟩
    have hA := ha.run cpos pins s1 σ H1 _ I1 q1
    rw [hs] at hA ⊢
    refine Calls.callWith_builtin rfl (Calls.evalArgs_plain ?_)
    exact thn hA fun us s2 ⟨vs, H2, I2, r2, q2⟩ => mt_indexD hu pins s2 σ H2 x vs v us Q I2 r1 r2 q2
  · obtain ⟨h1, h2⟩ := tyT_is I1 r1 ty
    refine ⟨"tuple", "tuple.index", PySem.F.plainAttrs_tuple, PySem.F.slot_tuple_index, PySem.F.type_tuple_index, h1, h2, ?_⟩
    have hA := ha.run cpos pins s1 σ H1 _ I1 q1
    rw [hs] at hA ⊢
    refine Calls.callWith_builtin rfl (Calls.evalArgs_plain ?_)
    exact thn hA fun us s2 ⟨vs, H2, I2, r2, q2⟩ => mt_indexT hu pins s2 σ H2 x vs v us Q I2 r1 r2 q2
theorem se_me {m : M2} {a b : E} {x z : Expr} {p q : Pos} {y : Str} (ok : Cok X C k) (hm : m2Ok m = true) (hy : y = m2Name m) (hs : noStar z = true) (hr : okRecv x = true) (hl : (p.endLine == q.line) = true) (ha : SE X C io cf a x) (hb : SE X C io cf b z) : SE X C io cf (.me m a b) (.Call (.Attribute x y p) [z] [] q) := fun g σ H Gz F hF rl => by
  show Res C σ F _ g H Gz (R.bind (ev io cf a g) fun x => R.bind x.1.fz fun d => if meKind m d = true then R.bind (ev io cf b x.2) fun y => R.bind y.1.fz fun e => R.bind (meth m d e) fun v => .ok (v, y.2) else .bad) _
  rw [bind_fz (fun d g => if meKind m d = true then R.bind (ev io cf b g) fun y => R.bind y.1.fz fun e => R.bind (meth m d e) fun v => .ok (v, y.2) else .bad)]
  have hst : starEach [z] X.env = [(false, eval z X.env)] := starEach_no hs _
  have pa : PA X [z] (tCons (wE X z) tNil) := pa_cons PE.w pa_nil (starEach_no hs _)
  cases m with
  | index =>
    subst hy
    refine Res.imp (Res.bind (rep' := repV C.K C.Hz σ) (wpb := fun (v : V) (H1 : Hp) (Q : VK) => (tyV X.K "list" v H1 ∧ wE X z σ H1 fun u H2 => rIndexD X.K v [u] H2 Q) ∨ (tyT X.K v H1 ∧ wE X z σ H1 fun u H2 => rIndexT X.K v [u] H2 Q)) hF (ha.fz rl) fun d v g1 H1 Gz1 e1 hF1 rl1 st1 rp1 => ?_) fun Q q => wE.of (pe_ix (u65 ok.room) PE.w pa (recv_ok hr _ _ _) (by rw [hst]; rfl) hl (starEach_no hs _)) q
    cases d <;> first | exact trivial | skip
    · rename_i ds
      have rp1 : Rp C.K Gz1 v (.list ds) := rp1
      show Res C σ F _ g1 H1 Gz1 (R.bind (ev io cf b g1) fun y => R.bind y.1.fz fun e => R.bind (meth .index (.list ds) e) fun v => .ok (v, y.2)) _
      rw [bind_fz (fun e g => R.bind (meth .index (.list ds) e) fun v => .ok (v, g))]
      have ht : tyV X.K "list" v H1 := by
        cases rp1 with
        | lst h r => exact .inl ⟨rfl, _, .inl (.inl (rl1.sub _ _ h))⟩
      refine Res.imp (Res.bind (rep' := repV C.K C.Hz σ) (wpb := fun (u : V) (H2 : Hp) (Q : VK) => rIndexD X.K v [u] H2 Q) hF1 (hb.fz rl1) fun e u g2 H2 Gz2 e2 hF2 rl2 st2 rp2 => ?_) fun Q q => .inl ⟨ht, q⟩
      refine Res.data (fun _ => meth_exc) fun r hr => ?_
      have hr : (if eqOk e = true ∧ eqOk (.list ds) = true then R.bind (.ofO (idxD e ds 0)) fun n => bI n else .bad) = .ok r := hr
      split at hr
      · rename_i hh
        obtain ⟨n, hn, hr⟩ := R.bind_ok hr
        cases hr
        obtain ⟨_, zz, h1, h2, h3⟩ := eqv_idx (ofO_ok hn)
        have rq := (Rp.mono st2.gz rp1)
        cases rp1 with
        | lst hx hr1 =>
          refine gives_f (F := F) rl2 (.int _) fun Q q => ⟨_, u, _, ds, n, zz, rfl, rfl, ?_, ?_, eqOk_shaped hh.2, eqOk_shaped hh.1, h1, h2, h3, q⟩
          · exact Vw.dp rl2.sub (.inl (by rw [ok.K]; exact rq)) (eqOk_plain hh.2)
          · exact Vw.dp rl2.sub (.inl (by rw [ok.K]; exact rp2)) (eqOk_plain hh.1)
      · cases hr
    · rename_i ds
      have rp1 : Rp C.K Gz1 v (.tuple ds) := rp1
      show Res C σ F _ g1 H1 Gz1 (R.bind (ev io cf b g1) fun y => R.bind y.1.fz fun e => R.bind (meth .index (.tuple ds) e) fun v => .ok (v, y.2)) _
      rw [bind_fz (fun e g => R.bind (meth .index (.tuple ds) e) fun v => .ok (v, g))]
      have ht : tyT X.K v H1 := by
        cases rp1 with
        | tup h r => exact ⟨_, _, rfl, by rw [ok.K]; exact TupN.mono rl1.sub h⟩
      refine Res.imp (Res.bind (rep' := repV C.K C.Hz σ) (wpb := fun (u : V) (H2 : Hp) (Q : VK) => rIndexT X.K v [u] H2 Q) hF1 (hb.fz rl1) fun e u g2 H2 Gz2 e2 hF2 rl2 st2 rp2 => ?_) fun Q q => .inr ⟨ht, q⟩
      refine Res.data (fun _ => meth_exc) fun r hr => ?_
      have hr : (if eqOk e = true ∧ eqOk (.tuple ds) = true then R.bind (.ofO (idxD e ds 0)) fun n => bI n else .bad) = .ok r := hr
      split at hr
      · rename_i hh
        obtain ⟨n, hn, hr⟩ := R.bind_ok hr
        cases hr
        obtain ⟨_, zz, h1, h2, h3⟩ := eqv_idx (ofO_ok hn)
        have rq := (Rp.mono st2.gz rp1)
        cases rp1 with
        | tup hx hr1 =>
          refine gives_f (F := F) rl2 (.int _) fun Q q => ⟨_, u, _, ds, n, zz, rfl, rfl, ?_, ?_, eqOk_shaped hh.2, eqOk_shaped hh.1, h1, h2, h3, q⟩
          · exact Vw.dp rl2.sub (.inl (by rw [ok.K]; exact rq)) (eqOk_plain hh.2)
          · exact Vw.dp rl2.sub (.inl (by rw [ok.K]; exact rp2)) (eqOk_plain hh.1)
      · cases hr
  | join =>
    subst hy
    refine Res.imp (Res.bind (rep' := repV C.K C.Hz σ) (wpb := fun (v : V) (H1 : Hp) (Q : VK) => (∃ a, v = .str a) ∧ wE X z σ H1 fun u H2 => ∃ a p, ∃ ys : List Str, v = .str a ∧ [u] = [.ref p] ∧ (SqL X.K H2 p (ys.map V.str) ∨ SqT X.K H2 p (ys.map V.str)) ∧ (ys.map (·.length)).sum + ys.length * a.length ≤ 16777216 ∧ Q (.str (Txt.join a ys)) H2) hF (ha.fz rl) fun d v g1 H1 Gz1 e1 hF1 rl1 st1 rp1 => ?_) fun Q q => wE.of (pe_join PE.w PE.w hst (recv_ok hr _ _ _) hl) q
    cases d <;> first | exact trivial | skip
    rename_i s
    have rp1 : Rp C.K Gz1 v (.str s) := rp1
    cases rp1
    show Res C σ F _ g1 H1 Gz1 (R.bind (ev io cf b g1) fun y => R.bind y.1.fz fun e => R.bind (meth .join (.str s) e) fun v => .ok (v, y.2)) _
    rw [bind_fz (fun e g => R.bind (meth .join (.str s) e) fun v => .ok (v, g))]
    refine Res.imp (Res.bind (rep' := repV C.K C.Hz σ) (wpb := fun (u : V) (H2 : Hp) (Q : VK) => ∃ a p, ∃ ys : List Str, (.str s : V) = .str a ∧ [u] = [.ref p] ∧ (SqL X.K H2 p (ys.map V.str) ∨ SqT X.K H2 p (ys.map V.str)) ∧ (ys.map (·.length)).sum + ys.length * a.length ≤ 16777216 ∧ Q (.str (Txt.join a ys)) H2) hF1 (hb.fz rl1) fun e u g2 H2 Gz2 e2 hF2 rl2 st2 rp2 => ?_) fun Q q => ⟨⟨s, rfl⟩, q⟩
    refine Res.data (fun _ => meth_exc) fun r hr => ?_
    cases e <;> first | (cases hr; done) | skip
    rename_i ds
    have hr : (R.bind (.ofO (strsOf ds)) fun l => if (l.map (·.length)).sum + l.length * s.cps.toList.length ≤ LIM then bS (joinL s.cps.toList l) else .bad) = .ok r := hr
    obtain ⟨l, hl2, hr⟩ := R.bind_ok hr
    split at hr
    · rename_i hlen
      cases hr
      have rp2 : Rp C.K Gz2 u (.list _) := rp2
      cases rp2 with
      | lst hx hr1 =>
        have e := rp_strs hr1 (ofO_ok hl2)
        subst e
        refine gives_f (F := F) rl2 (.str _) fun Q q => ⟨s, _, l.map (fun z => ⟨z.toArray⟩), rfl, rfl, .inl (.inl (.inl ?_)), ?_, ?_⟩
        · rw [List.map_map]
          exact rl2.sub _ _ hx
        · rw [List.map_map, List.length_map]
          have e3 : ((fun x : Str => x.length) ∘ fun z : List Nat => (⟨z.toArray⟩ : Str)) = (·.length) := rfl
          have e4 : s.length = s.cps.toList.length := (str_len s)
          rw [e3, e4]
          exact Nat.le_trans hlen (by decide)
        · rw [glued_join]
          exact q
    · cases hr
  | split => cases hm
  | count => cases hm
  | endsw => cases hm
/-! ### range -/
theorem up_rg (a b : Int) : ∀ n, n = (b - a).toNat → upFrom a n = (List.range n).map fun (i : Nat) => PyData.int (a + (i : Nat)) := by
  intro n _
  have : ∀ (n : Nat) (a : Int), upFrom a n = (List.range n).map fun (i : Nat) => PyData.int (a + (i : Nat)) := by
    intro n
    induction n with
    | zero => intro a; rfl
    | succ n ih =>
      intro a
      show PyData.int a :: upFrom (a + 1) n = _
      rw [ih, List.range_succ_eq_map, List.map_cons, List.map_map]
      congr 1
      · simp
      · refine List.map_congr_left fun i _ => ?_
        show PyData.int (a + 1 + (i : Nat)) = PyData.int (a + ((i + 1 : Nat) : Int))
        congr 1
        push_cast
        omega
  exact this n a
theorem rp_rg {K : PySem.W.Frag} {Gz : Hp} {a b : Int} {n : Nat} (h : n = (b - a).toNat) : RpAll K Gz (rgV a b) (upFrom a n) := by
  rw [up_rg a b n h, h]
  unfold rgV
  generalize List.range (b - a).toNat = l
  induction l with
  | nil => exact .nil
  | cons x r ih => exact .cons (.int _) ih
theorem rngD_exc {l : List D} {c : Str} : rngD l ≠ .exc c := by
  unfold rngD
  split <;> first | (split <;> exact fun h => nomatch h) | exact fun h => nomatch h
theorem evD_one {e : E} {g : G} : evD io cf (.cons e .nil) g = R.bind (evF io cf e g) fun y => .ok ([y.1], y.2) := by
  show (R.bind (ev io cf e g) fun x => R.bind x.1.fz fun d => R.bind (R.ok (([] : List D), x.2)) fun y => .ok (d :: y.1, y.2)) = _
  exact bind_fz fun d g => .ok ([d], g)
theorem se_rngl {tu : Bool} {e : E} {z : Expr} {p p2 q pos : Pos} {x : Str} (ok : Cok X C k) (hx : x = (if tu then "tuple" else "list" : Str)) (hg : glB X.env.scope x = true) (hg2 : glB X.env.scope "range" = true) (hs : noStar z = true) (he : SE X C io cf e z) :
    SE X C io cf (.rngl tu (.cons e .nil)) (.Call (.Name x p) [.Call (.Name "range" p2) [z] [] q] [] pos) := fun g σ H Gz F hF rl => by
  show Res C σ F _ g H Gz (R.bind (evD io cf (.cons e .nil) g) fun x => R.bind (rngD x.1) fun l => .ok (if tu then Vl.f (.tuple l) else Vl.o (.list l), x.2)) _
  rw [evD_one, bind_assoc]
  have pr : PRg X (.Call (.Name "range" p2) [z] [] q) (tRg1 (wE X z)) := prg_1 (gl_of hg2) (ok.bl _ (by decide +kernel)) PE.w (starEach_no hs _)
  have rok : ∀ n : Int, n ≤ LIM ∧ -1000000 ≤ n → RgOk 0 n := fun n h => by
    have : n ≤ 1000000 := h.1
    exact ⟨by omega, by omega, by omega, by omega, by omega⟩
  cases tu with
  | true =>
    have hx : x = "tuple" := hx
    subst hx
    refine Res.imp (Res.bind (rep' := repV C.K C.Hz σ) (wpb := fun (v : V) (H1 : Hp) (Q : VK) => ∃ n, v = .int n ∧ RgOk 0 n ∧ NewT H1 (rgV 0 n) Q) hF (he.fz rl) fun d v g1 H1 Gz1 e1 hF1 rl1 st1 rp1 => ?_) fun Q q => wE.of (pe_tupRgN ok.calm (gl_of hg) (ok.bl _ (by decide +kernel)) pr rfl) q
    show Res C σ F _ g1 H1 Gz1 (R.bind (rngD [d]) fun l => .ok (Vl.f (.tuple l), g1)) _
    refine Res.data (fun _ => rngD_exc) fun l hl => ?_
    cases d <;> first | (cases hl; done) | skip
    rename_i n
    have rp1 : Rp C.K Gz1 v (.int n) := rp1
    cases rp1
    have hl : (if n ≤ LIM ∧ -1000000 ≤ n then R.ok (upFrom 0 n.toNat) else .bad) = .ok l := hl
    split at hl
    · rename_i hn
      cases hl
      exact gives_tup (F := F) rl1 (rp_rg (a := 0) (b := n) (by simp)) fun Q q => ⟨n, rfl, rok n hn, q⟩
    · cases hl
  | false =>
    have hx : x = "list" := hx
    subst hx
    refine Res.imp (Res.bind (rep' := repV C.K C.Hz σ) (wpb := fun (v : V) (H1 : Hp) (Q : VK) => ∃ n, v = .int n ∧ RgOk 0 n ∧ ∀ q, H1 q = none → Q (.ref q) (upd H1 q (.lst (rgV 0 n)))) hF (he.fz rl) fun d v g1 H1 Gz1 e1 hF1 rl1 st1 rp1 => ?_) fun Q q => wE.of (pe_listRg ok.calm (gl_of hg) (ok.bl _ (by decide +kernel)) pr) q
    show Res C σ F _ g1 H1 Gz1 (R.bind (rngD [d]) fun l => .ok (Vl.o (.list l), g1)) _
    refine Res.data (fun _ => rngD_exc) fun l hl => ?_
    cases d <;> first | (cases hl; done) | skip
    rename_i n
    have rp1 : Rp C.K Gz1 v (.int n) := rp1
    cases rp1
    have hl : (if n ≤ LIM ∧ -1000000 ≤ n then R.ok (upFrom 0 n.toNat) else .bad) = .ok l := hl
    split at hl
    · rename_i hn
      cases hl
      exact gives_lst (F := F) hF1 rl1 (rp_rg (a := 0) (b := n) (by simp)) fun Q q => ⟨n, rfl, rok n hn, q⟩
    · cases hl
/-! ### slices -/
def SO (X : Cx) (C : Cz) (io : Io) (cf : Caller) (o : O) (ex : Option Expr) : Prop := ∀ g σ H Gz F, FsOk F g σ H → C.Rl g σ H Gz → Res C σ F repI g H Gz (evO io cf o g) fun Q => ∀ (pins : List (Addr × Obj)) (s : Shared), Inv X pins σ H s → wpAny (model X.prog X.w) X.A (evalPart ex X.env) (fun u s' => ∃ (i : Option Int) (H' : Hp), Inv X pins σ H' s' ∧ IsPart u i ∧ Q i H') X.xe s
theorem so_no : SO X C io cf .no none := fun g σ H Gz F hF rl Q hQ pins s I => by
  rw [evalPart_none]
  exact wpAny_pure ⟨none, H, I, .none, hQ none H Gz rl .refl rfl⟩
theorem asInt_exc {d : D} {c : Str} : asInt? d ≠ .exc c := by
  unfold asInt?
  split <;> exact fun h => nomatch h
theorem so_yes {e : E} {ex : Expr} (he : SE X C io cf e ex) : SO X C io cf (.yes e) (some ex) := fun g σ H Gz F hF rl => by
  show Res C σ F _ g H Gz (R.bind (ev io cf e g) fun x => R.bind x.1.fz fun d => R.bind (asInt? d) fun i => .ok (i, x.2)) _
  rw [bind_fz (fun d g => R.bind (asInt? d) fun i => .ok (i, g))]
  refine Res.imp (Res.bind (rep' := repI) (wpb := fun (v : V) (H1 : Hp) (Q : Option Int → Hp → Prop) => ∃ i, v = .int i ∧ Q (some i) H1) hF (he.fz rl) fun d v g1 H1 Gz1 e1 hF1 rl1 st1 rp1 => ?_) fun Q q pins s I => ?_
  · refine Res.data (fun _ => asInt_exc) fun i hi => ?_
    cases d <;> first | (cases hi; done) | skip
    rename_i n
    cases hi
    have rp1 : Rp C.K Gz1 v (.int n) := rp1
    cases rp1
    exact fun Q hQ => ⟨n, rfl, hQ _ H1 Gz1 rl1 .refl rfl⟩
  · rw [evalPart_some]
    refine thn (q pins s I) fun u s1 ⟨x, H1, I1, r1, q1⟩ => ?_
    obtain ⟨i, rfl, q⟩ := q1
    obtain ⟨t, rfl⟩ := r1
    exact ⟨some i, H1, I1, .int i t, q⟩
end
end Dat

/-! Dat, part B13: slices, pop. -/
namespace Dat
open PySem PySem.Spec PyProof.Rows L2
open PySem.W
section
variable {X : Cx} {C : Cz} {io : Io} {cf : Caller} {k : Nat}
theorem cutIx_eq (n d : Nat) (o : Option Int) : cutIx n d o = HT.sIx n d o := by
  cases o with
  | none => rfl
  | some v =>
    show (if v < 0 then (v + (n : Int)).toNat else if v ≤ (n : Int) then v.toNat else n) = (if v < 0 then (v + (n : Int)).toNat else min v.toNat n)
    split
    · rfl
    · split <;> omega
theorem cutL_V {K : PySem.W.Frag} {Gz : Hp} {vs : List V} {ds : List D} (r : RpAll K Gz vs ds) (lo hi : Option Int) : RpAll K Gz (cutV vs lo hi) (cutL ds lo hi) := by
  unfold cutV cutL
  rw [cutIx_eq, cutIx_eq, r.length]
  exact (r.drop _).take _
def rSlc (K : PySem.W.Frag) : V → Option Int → Option Int → Hp → VK → Prop := fun x lo hi H Q => rSlL K x lo hi H Q ∨ (rSlN K x lo hi H Q ∨ rSlS x lo hi H Q)
theorem sl_slc : SlR X (rSlc X.K) := sl_list.or (sl_tupN.or sl_str)
def wPO (X : Cx) (ex : Option Expr) (σ : L2.St) (H : Hp) (Q : Option Int → Hp → Prop) : Prop := ∀ (pins : List (Addr × Obj)) (s : Shared), Inv X pins σ H s → wpAny (model X.prog X.w) X.A (evalPart ex X.env) (fun u s' => ∃ (i : Option Int) (H' : Hp), Inv X pins σ H' s' ∧ IsPart u i ∧ Q i H') X.xe s
theorem po_w {ex : Option Expr} : PO X ex (wPO X ex) := ⟨fun pins s σ H Q I h => h pins s I⟩
theorem slcD_exc {lo hi : Option Int} {d : D} {c : Str} : slcD lo hi d ≠ .exc c := by
  unfold slcD
  split <;> first | (split <;> exact fun h => nomatch h) | exact fun h => nomatch h
theorem cutS_eq (s : Str) (lo hi : Option Int) : cutS s lo hi = ⟨(cutL s.cps.toList lo hi).toArray⟩ := by
  unfold cutS cutL
  rw [cutIx_eq, cutIx_eq, str_len]
theorem se_slc {a : E} {lo hi : O} {x : Expr} {l h : Option Expr} {p pos : Pos} (ok : Cok X C k) (ha : SE X C io cf a x) (hl : SO X C io cf lo l) (hh : SO X C io cf hi h) : SE X C io cf (.slc a lo hi) (.Subscript x (.Slice l h none p) pos) := fun g σ H Gz F hF rl => by
  refine Res.imp (Res.bind (rep' := repV C.K C.Hz σ) (wpb := fun (v : V) (H1 : Hp) (Q : VK) => wPO X l σ H1 fun i H2 => wPO X h σ H2 fun j H3 => rSlc X.K v i j H3 Q) hF (ha g σ H Gz F hF rl) fun d v g1 H1 Gz1 e1 hF1 rl1 st1 rp1 => ?_) fun Q q => wE.of (pe_slice sl_slc PE.w po_w po_w) q
  refine Res.bind (rep' := repV C.K C.Hz σ) (wpb := fun (i : Option Int) (H2 : Hp) (Q : VK) => wPO X h σ H2 fun j H3 => rSlc X.K v i j H3 Q) hF1 (hl g1 σ H1 Gz1 F hF1 rl1) fun i i' g2 H2 Gz2 e2 hF2 rl2 st2 rp2 => ?_
  have rp2 : i = i' := rp2
  subst rp2
  refine Res.bind (rep' := repV C.K C.Hz σ) (wpb := fun (j : Option Int) (H3 : Hp) (Q : VK) => rSlc X.K v i j H3 Q) hF2 (hh g2 σ H2 Gz2 F hF2 rl2) fun j j' g3 H3 Gz3 e3 hF3 rl3 st3 rp3 => ?_
  have rp3 : j = j' := rp3
  subst rp3
  refine Res.data (fun _ => res_exc) fun z hz => Res.data (fun _ => slcD_exc) fun r hr => ?_
  have w1 := VRep.vw (VRep.step (VRep.step rp1 st2) st3) rl3 hz
  have sm := rl3.sub
  have hr : slcD i j z = .ok r := hr
  cases z <;> first | (cases hr; done) | skip
  · rename_i x _
    have hr : (if x.cps.toList.length ≤ LIM then bS (cutL x.cps.toList i j) else .bad) = .ok r := hr
    split at hr
    · rename_i hlen
      cases hr
      cases w1.str
      refine gives_f (F := F) rl3 (.str _) fun Q q => .inr (.inr ⟨x, rfl, ?_, ?_⟩)
      · rw [str_len]
        exact Nat.le_trans hlen lim_le
      · rw [cutS_eq]
        exact q
    · cases hr
  · cases hr
    obtain ⟨p, vs, rfl, h1, r1⟩ := w1.list sm
    exact gives_lst (F := F) hF3 rl3 (cutL_V r1 i j) fun Q q => .inl ⟨p, vs, rfl, .inl (.inl h1), q⟩
  · rename_i ds _
    cases hr
    obtain ⟨p, vs, rfl, h1, r1, f1⟩ := w1.tuple sm
    rw [← ok.K] at h1
    by_cases hw : HT.sIx vs.length 0 i = 0 ∧ HT.sIx vs.length vs.length j = vs.length
    · refine gives_f (F := F) (b := .ref p) rl3 ?_ fun Q q => .inr (.inl ⟨p, vs, rfl, h1, fun _ => q, fun n => absurd hw n⟩)
      have e : cutL ds i j = ds := by
        unfold cutL
        rw [cutIx_eq, cutIx_eq, ← r1.length, hw.1, hw.2, r1.length]
        simp
      rw [e]
      exact f1
    · exact gives_tup (F := F) rl3 (cutL_V r1 i j) fun Q q => .inr (.inl ⟨p, vs, rfl, h1, fun n => absurd n hw, fun _ => q⟩)
/-! ### pop -/
theorem se_pop0 {i : Nat} {x : Str} {px p q : Pos} (ok : Cok X C k) (hn : isN X.N X.env.scope i x = true) (hl : (p.endLine == q.line) = true) : SE X C io cf (.pop0 i) (.Call (.Attribute (.Name x px) "pop" p) [] [] q) := fun g σ H Gz F hF rl => by
  show Res C σ F _ g H Gz (R.bind (pkv g i) fun d => match d with
    | .list a => match a.getLast? with
      | some x => R.bind (chg g i fun _ => .ok (.list a.dropLast)) fun g => .ok (Vl.f x, g)
      | none => .bad
    | _ => .bad) _
  refine Res.data (fun _ => pkv_exc) fun d hd => ?_
  cases d <;> first | exact trivial | skip
  rename_i ds
  show Res C σ F _ g H Gz (match ds.getLast? with
      | some x => R.bind (chg g i fun _ => .ok (.list ds.dropLast)) fun g => .ok (Vl.f x, g)
      | none => .bad) _
  cases hx : ds.getLast? with
  | none => exact trivial
  | some y =>
    show Res C σ F _ g H Gz (R.bind (chg g i fun _ => .ok (.list ds.dropLast)) fun g => .ok (Vl.f y, g)) _
    cases hc : chg g i fun _ => .ok (.list ds.dropLast) with
    | bad => exact trivial
    | exc c => exact absurd hc (chg_exc fun _ _ h => nomatch h)
    | ok g' =>
      obtain ⟨b, z, hb, m, hz, rfl⟩ := chg_ok hc
      cases hz
      obtain ⟨b', hb', hd'⟩ := pkv_ok hd
      rw [hb] at hb'
      cases hb'
      obtain ⟨a, ha, oa, gn, hch⟩ := rl.chgAt hb m
      rw [hd'] at oa
      obtain ⟨vs, h1, r1⟩ := oa
      have hl' : ds[ds.length - 1]? = some y := by rw [← List.getLast?_eq_getElem?]; exact hx
      obtain ⟨v, hv, rv⟩ := r1.get hl'
      obtain ⟨rl', st'⟩ := hch (.lst vs.dropLast) (.list ds.dropLast) fun H' h => ⟨_, h, r1.dropLast⟩
      refine fun Q hQ => wE.of (pe_bm0 PySem.F.plainAttrs_list PySem.F.slot_list_pop PySem.F.type_list_pop mt_pop PE.w rfl hl) (w_var hn ha ⟨.inl ⟨rfl, vs, .inl (.inl h1)⟩, a, vs, v, rfl, rfl, h1, by rw [r1.length]; exact hv, hQ v _ Gz rl' st' rv⟩)
theorem idx_nat {n : Int} {l : Nat} (h : 0 ≤ n) (hl : n.toNat < l) : seqIndex? n l = some n.toNat := by
  unfold seqIndex?
  have h1 : ¬ n < 0 := by omega
  have h2 : n < (l : Int) := by omega
  simp [h1, h, h2]
theorem popAt_ok {i : Nat} {key d : D} {g : G} {σ : L2.St} {H Gz : Hp} {F : Addr → Prop} {v : V} (rl : C.Rl g σ H Gz) (hd : pkv g i = .ok d) (rp : Rp C.K Gz v key) {wp : VK → Prop}
    (h : ∀ (a : Addr) (vs : List V) (n : Int) (y : V) (Q : VK), σ[i]? = some (some (.ref a)) → v = .int n → H a = some (.lst vs) → 0 ≤ n → n ≤ LIM → n.toNat < vs.length → vs[n.toNat]? = some y → Q y (upd H a (.lst (vs.eraseIdx n.toNat))) → wp Q) :
    Res C σ F (repV C.K C.Hz σ) g H Gz (popAt i key d g) wp := by
  cases d <;> first | exact trivial | skip
  cases key <;> first | exact trivial | skip
  rename_i ds n
  cases rp
  show Res C σ F _ g H Gz (if 0 ≤ n ∧ n ≤ LIM then match ds[n.toNat]? with
    | some y => R.bind (chg g i fun _ => .ok (.list (ds.eraseIdx n.toNat))) fun g => .ok (Vl.f y, g)
    | none => .bad else .bad) _
  split
  · rename_i hn
    cases hx : ds[n.toNat]? with
    | none => exact trivial
    | some y =>
      show Res C σ F _ g H Gz (R.bind (chg g i fun _ => .ok (.list (ds.eraseIdx n.toNat))) fun g => .ok (Vl.f y, g)) _
      cases hc : chg g i fun _ => .ok (.list (ds.eraseIdx n.toNat)) with
      | bad => exact trivial
      | exc c => exact absurd hc (chg_exc fun _ _ h => nomatch h)
      | ok g' =>
        obtain ⟨b, z, hb, m, hz, rfl⟩ := chg_ok hc
        cases hz
        obtain ⟨b', hb', hd'⟩ := pkv_ok hd
        rw [hb] at hb'
        cases hb'
        obtain ⟨a, ha, oa, gn, hch⟩ := rl.chgAt hb m
        rw [hd'] at oa
        obtain ⟨vs, h1, r1⟩ := oa
        obtain ⟨u, hu, ru⟩ := r1.get hx
        obtain ⟨rl', st'⟩ := hch (.lst (vs.eraseIdx n.toNat)) (.list (ds.eraseIdx n.toNat)) fun H' h => ⟨_, h, r1.eraseIdx _⟩
        exact fun Q hQ => h a vs n u Q ha rfl h1 hn.1 hn.2 (getElem?_lt hu) hu (hQ u _ Gz rl' st' ru)
  · exact trivial
theorem se_popi {i : Nat} {e : E} {z : Expr} {x : Str} {px p q : Pos} (ok : Cok X C k) (hn : isN X.N X.env.scope i x = true) (hs : noStar z = true) (hl : (p.endLine == q.line) = true) (he : SE X C io cf e z) : SE X C io cf (.popi i e) (.Call (.Attribute (.Name x px) "pop" p) [z] [] q) := fun g σ H Gz F hF rl => by
  show Res C σ F _ g H Gz (R.bind (pkv g i) fun d0 => match d0 with
    | .list _ => R.bind (ev io cf e g) fun x => R.bind x.1.fz fun k => R.bind (pkv x.2 i) fun d => popAt i k d x.2
    | _ => .bad) _
  refine Res.data (fun _ => pkv_exc) fun d0 hd => ?_
  cases d0 <;> first | exact trivial | skip
  rename_i ds
  show Res C σ F _ g H Gz (R.bind (ev io cf e g) fun x => R.bind x.1.fz fun k => R.bind (pkv x.2 i) fun d => popAt i k d x.2) _
  rw [bind_fz (fun k g => R.bind (pkv g i) fun d => popAt i k d g)]
  obtain ⟨b, hb, hd'⟩ := pkv_ok hd
  have hv : ∃ a vs, σ[i]? = some (some (.ref a)) ∧ H a = some (.lst vs) := by
    obtain ⟨v, hv⟩ := rl.val hb
    have w := VRep.vw (K := C.K) (Hz := C.Hz) (x := .r i) (F := F) (v := v) hv rl hd
    obtain ⟨a, vs, rfl, h1, _⟩ := w.list rl.sub
    exact ⟨a, vs, hv, h1⟩
  obtain ⟨a, vs, ha, h1⟩ := hv
  have hst : starEach [z] X.env = [(false, eval z X.env)] := starEach_no hs _
  have pa : PA X [z] (tCons (wE X z) tNil) := pa_cons PE.w pa_nil (starEach_no hs _)
  refine Res.imp (Res.bind (rep' := repV C.K C.Hz σ) (wpb := fun (v : V) (H1 : Hp) (Q : VK) => rPopAt (.ref a) [v] H1 Q) hF (he.fz rl) fun key v g1 H1 Gz1 e1 hF1 rl1 st1 rp1 => ?_) fun Q q => wE.of (pe_bm PySem.F.plainAttrs_list PySem.F.slot_list_pop PySem.F.type_list_pop mt_popAt PE.w pa rfl (by rw [hst]; rfl) hl (starEach_no hs _)) (w_var hn ha ⟨.inl ⟨rfl, vs, .inl (.inl h1)⟩, q⟩)
  refine Res.data (fun _ => pkv_exc) fun d hd => popAt_ok rl1 hd rp1 fun a' vs' n y Q ha' ev hx h0 hm hlt hy q => ?_
  rw [ha] at ha'
  cases ha'
  have hm : n ≤ 1000000 := hm
  exact ⟨a, vs', n, n.toNat, y, rfl, by rw [ev], hx, by omega, by omega, idx_nat h0 hlt, hy, q⟩
end
end Dat

/-! Dat, part B14: storing. -/
namespace Dat
open PySem PySem.Spec PyProof.Rows L2
open PySem.W
section
variable (X : Cx)
def wG (tg : Expr) (v : V) (σ : L2.St) (H : Hp) (Q : L2.St → Hp → Prop) : Prop := ∀ (pins : List (Addr × Obj)) (s : Shared) (u : Value), Inv X pins σ H s → RelV v u → wpAny (model X.prog X.w) X.A (assign tg X.env u) (fun _ s' => ∃ σ' H', Inv X pins σ' H' s' ∧ Q σ' H') X.xe s
def wGs (ts : List Expr) (vs : List V) (σ : L2.St) (H : Hp) (Q : L2.St → Hp → Prop) : Prop := ∀ (pins : List (Addr × Obj)) (s : Shared) (us : List Value), Inv X pins σ H s → Vals vs us → wpAny (model X.prog X.w) X.A (assignInOrder ((assignEach ts X.env).map (·.2)) us) (fun _ s' => ∃ σ' H', Inv X pins σ' H' s' ∧ Q σ' H') X.xe s
end
section
variable {X : Cx} {C : Cz} {g : G} {σ : L2.St} {H Gz : Hp}
theorem PG.w {tg : Expr} : PG X tg (wG X tg) := ⟨fun pins s _ _ _ u _ I r h => h pins s u I r⟩
theorem PGs.w {tg : List Expr} : PGs X tg (wGs X tg) := ⟨fun pins s _ _ _ us _ I r h => h pins s us I r⟩
theorem wG.of {tg : Expr} {t : TG} {v : V} {Q : L2.St → Hp → Prop} (h : PG X tg t) (q : t v σ H Q) : wG X tg v σ H Q := fun pins s u I r => h.run pins s σ H v u Q I r q
theorem wGs.of {tg : List Expr} {t : TGs} {v : List V} {Q : L2.St → Hp → Prop} (h : PGs X tg t) (q : t v σ H Q) : wGs X tg v σ H Q := fun pins s u I r => h.run pins s σ H v u Q I r q
/-- a slot is given shared data -/
theorem Rel.putF (rl : C.Rl g σ H Gz) {i : Nat} {d : D} {v : V} (hi : i < g.length) (rp : Rp C.K Gz v d) : C.Rl (g.set i (some (.frz d))) (σ.set i (some v)) H Gz := by
  have os : ∀ j, OwnSlot (g.set i (some (.frz d))) j → OwnSlot g j ∧ j ≠ i := fun j h => ownSlot_set h fun e => ⟨fun z => (nomatch Option.some.inj z), fun z => (nomatch Option.some.inj z)⟩
  refine ⟨by rw [List.length_set, List.length_set]; exact rl.len, rl.sub, fun j e h => ?_, fun j e h => ?_, fun j e h => ?_, fun j k a n h1 h2 s1 s2 => ?_, rl.keep, rl.gz0, rl.gr0, rl.al0⟩
  · rcases set_get h with ⟨rfl, z⟩ | ⟨n, h⟩
    · cases z
      exact ⟨v, by rw [List.getElem?_set_self (by rw [← rl.len]; exact hi)], rp⟩
    · obtain ⟨u, h1, h2⟩ := rl.frz j e h
      exact ⟨u, by rw [List.getElem?_set_ne n]; exact h1, h2⟩
  · rcases set_get h with ⟨rfl, z⟩ | ⟨n, h⟩
    · cases z
    · obtain ⟨u, h1, h2⟩ := rl.own j e h
      exact ⟨u, by rw [List.getElem?_set_ne n]; exact h1, h2⟩
  · rcases set_get h with ⟨rfl, z⟩ | ⟨n, h⟩
    · cases z
    · obtain ⟨u, h0, h1, h2⟩ := rl.io j e h
      exact ⟨u, h0, by rw [List.getElem?_set_ne n]; exact h1, h2⟩
  · obtain ⟨o1, n1⟩ := os j h1
    obtain ⟨o2, n2⟩ := os k h2
    rw [List.getElem?_set_ne (Ne.symm n1)] at s1
    rw [List.getElem?_set_ne (Ne.symm n2)] at s2
    exact rl.sep j k a n o1 o2 s1 s2
/-- a slot is given a container of its own -/
theorem Rel.putO (rl : C.Rl g σ H Gz) {i : Nat} {d : D} {a : Addr} (hi : i < g.length) (gn : Gz a = none) (oa : OwnAt C.K Gz H a d) (hz : C.Hz a = none) (no : ¬ Owned g σ a) : C.Rl (g.set i (some (.own d))) (σ.set i (some (.ref a))) H Gz := by
  have os : ∀ j, j ≠ i → OwnSlot (g.set i (some (.own d))) j → OwnSlot g j := fun j n h => by
    unfold OwnSlot at h ⊢
    rw [List.getElem?_set_ne (Ne.symm n)] at h
    exact h
  have hs : (σ.set i (some (V.ref a)))[i]? = some (some (.ref a)) := List.getElem?_set_self (by rw [← rl.len]; exact hi)
  refine ⟨by rw [List.length_set, List.length_set]; exact rl.len, rl.sub, fun j e h => ?_, fun j e h => ?_, fun j e h => ?_, fun j k b n h1 h2 s1 s2 => ?_, rl.keep, rl.gz0, rl.gr0, rl.al0⟩
  · rcases set_get h with ⟨rfl, z⟩ | ⟨n, h⟩
    · cases z
    · obtain ⟨u, h1, h2⟩ := rl.frz j e h
      exact ⟨u, by rw [List.getElem?_set_ne n]; exact h1, h2⟩
  · rcases set_get h with ⟨rfl, z⟩ | ⟨n, h⟩
    · cases z
      exact ⟨a, hs, gn, oa, hz⟩
    · obtain ⟨u, h1, h2⟩ := rl.own j e h
      exact ⟨u, by rw [List.getElem?_set_ne n]; exact h1, h2⟩
  · rcases set_get h with ⟨rfl, z⟩ | ⟨n, h⟩
    · cases z
    · obtain ⟨u, h0, h1, h2⟩ := rl.io j e h
      exact ⟨u, h0, by rw [List.getElem?_set_ne n]; exact h1, h2⟩
  · by_cases ej : j = i
    · subst ej
      have nk : k ≠ j := fun z => n z.symm
      rw [hs] at s1
      cases s1
      rw [List.getElem?_set_ne (Ne.symm nk)] at s2
      exact no ⟨k, os k nk h2, s2⟩
    · rw [List.getElem?_set_ne (Ne.symm ej)] at s1
      by_cases ek : k = i
      · subst ek
        rw [hs] at s2
        cases s2
        exact no ⟨j, os j ej h1, s1⟩
      · rw [List.getElem?_set_ne (Ne.symm ek)] at s2
        exact rl.sep j k b n (os j ej h1) (os k ek h2) s1 s2
theorem put_lt {i : Nat} {v : Vl} {g' : G} (h : put g i v = .ok g') : i < g.length := by
  unfold put at h
  split at h
  · cases h
  · cases h
  · rename_i hx
    exact getElem?_lt hx
theorem put_f {i : Nat} {d : D} {g' : G} (h : put g i (.f d) = .ok g') : g' = g.set i (some (.frz d)) := by
  unfold put at h
  split at h <;> first | (cases h; done) | (cases h; rfl)
theorem put_o {i : Nat} {d : D} {g' : G} (h : put g i (.o d) = .ok g') : g' = g.set i (some (.own d)) := by
  unfold put at h
  split at h <;> first | (cases h; done) | (cases h; rfl)
theorem put_exc {i : Nat} {v : Vl} {c : Str} : put g i v ≠ .exc c := by
  unfold put
  split <;> first | (split <;> exact fun h => nomatch h) | exact fun h => nomatch h
theorem put_r {i j : Nat} {g' : G} : put g i (.r j) ≠ .ok g' := by
  unfold put
  split <;> exact fun h => nomatch h
theorem loc_of {sc : Scope} {fc : Str → Bool} {x : Str} (h : locB sc fc x = true) : L2.Loc sc x ∧ (fc x = true ∨ sc.names.lookup x = some .local) := by
  unfold locB at h
  unfold L2.Loc
  split at h
  · rename_i e
    exact ⟨.inl e, .inr e⟩
  · rename_i e
    exact ⟨.inr e, .inl h⟩
  · cases h
theorem w_name {i : Nat} {x : Str} {pos : Pos} {fc : Str → Bool} {v : V} {Q : L2.St → Hp → Prop} (hN : X.N.Nodup) (hfc : ∀ x, fc x = true → X.fn x = true) (hi : X.N[i]? = some x) (hx : locB X.env.scope fc x = true) (q : Q (σ.set i (some v)) H) : wG X (.Name x pos) v σ H Q := by
  obtain ⟨h1, h2⟩ := loc_of hx
  exact wG.of (pg_name hN hi h1 (h2.imp (hfc x) id)) q
theorem isP_assignEach {N : List Str} {sc : Scope} {fc : Str → Bool} {p : Pat} {e : Expr} (h : isP N sc fc p e = true) (es : List Expr) (env : Env) : assignEach (e :: es) env = (false, assign e env) :: assignEach es env := by
  cases e <;> first | rfl | (cases p <;> cases h; done)
theorem isQ_assignEach {N : List Str} {sc : Scope} {fc : Str → Bool} : ∀ {p : Pat} {es : List Expr}, isQ N sc fc p es = true → ∀ env : Env, (assignEach es env).length = es.length ∧ (assignEach es env).findIdx? (·.1) = none
  | _, [], _, _ => ⟨rfl, rfl⟩
  | .tc p q, e :: es, h, env => by
    have h : (isP N sc fc p e && isQ N sc fc q es) = true := h
    rw [Bool.and_eq_true] at h
    obtain ⟨h1, h2⟩ := isQ_assignEach h.2 env
    rw [isP_assignEach h.1]
    refine ⟨by rw [List.length_cons, h1, List.length_cons], ?_⟩
    rw [List.findIdx?_cons, h2]
    rfl
  | .v i, e :: es, h, env => by cases h
  | .t0, e :: es, h, env => by cases h
/-- the slots beside l are as they were -/
def Beside (l : List Nat) (σ σ' : L2.St) : Prop := σ'.length = σ.length ∧ ∀ i, i ∉ l → σ'[i]? = σ[i]?
theorem Beside.refl {l : List Nat} : Beside l σ σ := ⟨rfl, fun _ _ => rfl⟩
theorem Beside.trans {l : List Nat} {σ1 σ2 : L2.St} (a : Beside l σ σ1) (b : Beside l σ1 σ2) : Beside l σ σ2 := ⟨b.1.trans a.1, fun i h => (b.2 i h).trans (a.2 i h)⟩
theorem Beside.mono {l l' : List Nat} {σ1 : L2.St} (a : Beside l σ σ1) (h : ∀ i ∈ l, i ∈ l') : Beside l' σ σ1 := ⟨a.1, fun i hi => a.2 i fun z => hi (h i z)⟩
mutual
theorem stP_ok {fc : Str → Bool} (hK : X.K = C.K) (hc : X.calm = true) (hN : X.N.Nodup) (hfc : ∀ x, fc x = true → X.fn x = true) : ∀ {p : Pat} {tg : Expr} {d : D} {v : V} {g : G} {σ : L2.St} {g' : G} {Q : L2.St → Hp → Prop}, isP X.N X.env.scope fc p tg = true → C.Rl g σ H Gz → Rp C.K Gz v d → stP p d g = .ok g' →
    (∀ σ', C.Rl g' σ' H Gz → Beside p.slots σ σ' → (∀ i ∈ p.slots, ∃ d, g'[i]? = some (some (.frz d))) → (∀ i, i ∉ p.slots → g'[i]? = g[i]?) → Q σ' H) → wG X tg v σ H Q
  | .v i, .Name x pos, d, v, g, σ, g', Q, hp, rl, rp, h, hQ => by
    have hp : (decide (X.N[i]? = some x) && locB X.env.scope fc x) = true := hp
    rw [Bool.and_eq_true, decide_eq_true_eq] at hp
    have h : put g i (.f d) = .ok g' := by
      unfold stP at h
      exact h
    have hl := put_lt h
    have e := put_f h
    subst e
    refine w_name hN hfc hp.1 hp.2 (hQ _ (rl.putF hl rp) ⟨by rw [List.length_set], fun j hj => ?_⟩ (fun j hj => ?_) fun j hj => ?_)
    · have hj : ¬ j ∈ [i] := hj
      rw [List.getElem?_set_ne (fun z => hj (by simp [z]))]
    · have hj : j ∈ [i] := hj
      have : j = i := by simpa using hj
      subst this
      exact ⟨d, List.getElem?_set_self hl⟩
    · have hj : ¬ j ∈ [i] := hj
      rw [List.getElem?_set_ne (fun z => hj (by simp [z]))]
  | .tc p q, .Tuple (e :: es) n pos, d, v, g, σ, g', Q, hp, rl, rp, h, hQ => by
    have hq : isQ X.N X.env.scope fc (.tc p q) (e :: es) = true := hp
    obtain ⟨l1, l2⟩ := isQ_assignEach hq X.env
    cases d <;> first | (unfold stP at h; cases h; done) | skip
    · rename_i ds
      cases ds with
      | nil => unfold stP at h; cases h
      | cons x xs =>
        have h : stQ (.tc p q) (x :: xs) g = .ok g' := by
          unfold stP at h
          unfold stQ
          exact h
        cases rp with
        | lst ha hr =>
          obtain ⟨hl, k⟩ := stQ_ok hK hc hN hfc hq rl hr h hQ
          refine wG.of (pg_unl hc PGs.w l1 l2) ⟨_, _, rfl, .inl (.inl (rl.sub _ _ ha)), hl, k⟩
    · rename_i ds
      cases ds with
      | nil => unfold stP at h; cases h
      | cons x xs =>
        have h : stQ (.tc p q) (x :: xs) g = .ok g' := by
          unfold stP at h
          unfold stQ
          exact h
        cases rp with
        | tup ha hr =>
          obtain ⟨hl, k⟩ := stQ_ok hK hc hN hfc hq rl hr h hQ
          refine wG.of (pg_tup hc PGs.w l1 l2) ⟨_, _, rfl, ?_, hl, k⟩
          rw [hK]
          exact SqT.mono rl.sub ha.sq
  | .v i, .Tuple _ _ _, _, _, _, _, _, _, hp, _, _, _, _ => by cases hp
  | .tc p q, .Tuple [] _ _, _, _, _, _, _, _, hp, _, _, _, _ => by cases hp
  | .tc p q, .Name _ _, _, _, _, _, _, _, hp, _, _, _, _ => by cases hp
  | .t0, tg, _, _, _, _, _, _, hp, _, _, _, _ => by cases tg <;> cases hp
theorem stQ_ok {fc : Str → Bool} (hK : X.K = C.K) (hc : X.calm = true) (hN : X.N.Nodup) (hfc : ∀ x, fc x = true → X.fn x = true) : ∀ {p : Pat} {es : List Expr} {ds : List D} {vs : List V} {g : G} {σ : L2.St} {g' : G} {Q : L2.St → Hp → Prop}, isQ X.N X.env.scope fc p es = true → C.Rl g σ H Gz → RpAll C.K Gz vs ds → stQ p ds g = .ok g' →
    (∀ σ', C.Rl g' σ' H Gz → Beside p.slots σ σ' → (∀ i ∈ p.slots, ∃ d, g'[i]? = some (some (.frz d))) → (∀ i, i ∉ p.slots → g'[i]? = g[i]?) → Q σ' H) → vs.length = es.length ∧ wGs X es vs σ H Q
  | .t0, [], ds, vs, g, σ, g', Q, hp, rl, rp, h, hQ => by
    cases ds with
    | cons x xs => unfold stQ at h; cases h
    | nil =>
      unfold stQ at h
      cases h
      cases rp
      exact ⟨rfl, wGs.of pgs_nil ⟨rfl, hQ σ rl .refl (fun i hi => by cases hi) fun _ _ => rfl⟩⟩
  | .tc p q, e :: es, ds, vs, g, σ, g', Q, hp, rl, rp, h, hQ => by
    have hp : (isP X.N X.env.scope fc p e && isQ X.N X.env.scope fc q es) = true := hp
    rw [Bool.and_eq_true] at hp
    cases ds with
    | nil => unfold stQ at h; cases h
    | cons x xs =>
      unfold stQ at h
      obtain ⟨g1, h1, h2⟩ := R.bind_ok h
      cases rp with
      | cons r rr =>
        rename_i v vs
        have key : vs.length = es.length := by
          -- the lengths do not hang on the state
          have : ∀ {p : Pat} {es : List Expr} {ds : List D} {g g' : G}, isQ X.N X.env.scope fc p es = true → stQ p ds g = .ok g' → ds.length = es.length := by
            intro p es
            induction es generalizing p with
            | nil =>
              intro ds g g' hp h
              cases p <;> first | (cases hp; done) | skip
              cases ds <;> first | rfl | (unfold stQ at h; cases h; done)
            | cons e es ih =>
              intro ds g g' hp h
              cases p <;> first | (cases hp; done) | skip
              rename_i p q
              have hp : (isP X.N X.env.scope fc p e && isQ X.N X.env.scope fc q es) = true := hp
              rw [Bool.and_eq_true] at hp
              cases ds with
              | nil => unfold stQ at h; cases h
              | cons x xs =>
                unfold stQ at h
                obtain ⟨g1, _, h2⟩ := R.bind_ok h
                rw [List.length_cons, List.length_cons, ih hp.2 h2]
          rw [rr.length]
          exact this hp.2 h2
        refine ⟨by rw [List.length_cons, List.length_cons, key], ?_⟩
        refine wGs.of (pgs_cons PG.w PGs.w (by rw [isP_assignEach hp.1]; rfl)) ⟨v, vs, rfl, stP_ok hK hc hN hfc hp.1 rl r h1 fun σ1 rl1 b1 f1 n1 => (stQ_ok hK hc hN hfc hp.2 rl1 rr h2 fun σ2 rl2 b2 f2 n2 => hQ σ2 rl2 ?_ ?_ ?_).2⟩
        · exact (b1.mono fun i hi => List.mem_append_left _ hi).trans (b2.mono fun i hi => List.mem_append_right _ hi)
        · intro i hi
          by_cases hq : i ∈ q.slots
          · exact f2 i hq
          · rcases List.mem_append.mp hi with z | z
            · obtain ⟨d, hd⟩ := f1 i z
              exact ⟨d, by rw [n2 i hq]; exact hd⟩
            · exact absurd z hq
        · intro i hi
          have hi : i ∉ p.slots ++ q.slots := hi
          rw [List.mem_append, not_or] at hi
          rw [n2 i hi.2, n1 i hi.1]
  | .t0, _ :: _, _, _, _, _, _, _, hp, _, _, _, _ => by cases hp
  | .tc _ _, [], _, _, _, _, _, _, hp, _, _, _, _ => by cases hp
  | .v _, es, _, _, _, _, _, _, hp, _, _, _, _ => by cases es <;> cases hp
end
end
end Dat

/-! Dat, part B15: what is walked over. -/
namespace Dat
open PySem PySem.Spec PyProof.Rows L2
open PySem.W
def wI (X : Cx) (tg iter : Expr) (σ : L2.St) (H : Hp) (R : It → Hp → Prop) : Prop := ∀ (pins : List (Addr × Obj)) (s : Shared), Inv X pins σ H s → wpAny (model X.prog X.w) X.A (eval iter X.env) (fun v s1 => wpAny (model X.prog X.w) X.A (pyIter v) (PIE X pins σ tg R) X.xe s1) X.xe s
/-- an iterator that hands out the data ds -/
def JRep (K : PySem.W.Frag) (ds : List D) (J : It) (Gz : Hp) : Prop := ∀ (i : Nat) (Hn Gzn : Hp), Same Gz Gzn → Same Gzn Hn →
  (∀ d, ds[i]? = some d → J.go i Hn ∧ ∀ x H', J.yld i Hn x H' → (H' = Hn ∧ Rp K Gzn x d) ∨ ∃ p ob, Hn p = none ∧ H' = upd Hn p ob ∧ Rp K (upd Gzn p ob) x d) ∧ (ds.length ≤ i → J.stop i Hn)
theorem JRep.mono {K : PySem.W.Frag} {ds : List D} {J : It} {Gz Gz' : Hp} (h : JRep K ds J Gz) (e : Same Gz Gz') : JRep K ds J Gz' := fun i Hn Gzn a b => h i Hn Gzn (e.trans a) b
def repJ (K : PySem.W.Frag) : Rep (List D) It := ⟨fun ds J _ _ _ Gz => JRep K ds J Gz, fun h _ => h⟩
section
variable {X : Cx} {C : Cz} {io : Io} {cf : Caller} {k : Nat}
theorem PI.w {tg iter : Expr} : PI X tg iter (wI X tg iter) := ⟨fun pins s _ _ _ I h => h pins s I⟩
theorem wI.of {tg iter : Expr} {wi : TI} {σ : L2.St} {H : Hp} {R : It → Hp → Prop} (h : PI X tg iter wi) (q : wi σ H R) : wI X tg iter σ H R := fun pins s I => h.run pins s σ H R I q
def SI (X : Cx) (C : Cz) (io : Io) (cf : Caller) (it : I) (tg iter : Expr) : Prop := ∀ g σ H Gz F, FsOk F g σ H → C.Rl g σ H Gz → Res C σ F (repJ C.K) g H Gz (evI io cf it g) fun Q => wI X tg iter σ H Q
/-- a list, a tuple or a text, once it is evaluated -/
theorem w_iter {tg l : Expr} {σ : L2.St} {H : Hp} {R : It → Hp → Prop} (h : wE X l σ H fun x H1 => (∃ a, x = .ref a ∧ (∃ xs, SqL X.K H1 a xs) ∧ R (Itl X.K a) H1) ∨ (∃ a, x = .ref a ∧ (∃ xs, SqT X.K H1 a xs) ∧ R (Itt X.K a) H1) ∨ ∃ z, x = .str z ∧ R (Its z) H1) : wI X tg l σ H R := by
  intro pins s I
  refine thn (h pins s I) fun v s1 ⟨x, H1, I1, r1, q1⟩ => ?_
  rcases q1 with ⟨a, e, ⟨xs, hq⟩, q⟩ | ⟨a, e, ⟨xs, hq⟩, q⟩ | ⟨x, ex, q⟩
  · subst e
    cases r1
    obtain ⟨its, rv, p, hz⟩ := I1.list hq
    exact wpAny_pyIter_list p.isList (pi_one (tk := s1.toks) I1 _ (turn_list a _) ⟨_, Heap.get?_push_size _ rfl, rfl, rfl⟩ q)
  · subst e
    cases r1
    obtain ⟨its, rv, p, hz⟩ := I1.tuple hq
    exact wpAny_pyIter_tuple (show s1.heap.IsTuple a its.toArray from p) (pi_one (tk := s1.toks) I1 _ (turn_tuple a _) ⟨_, Heap.get?_push_size _ rfl, rfl, rfl⟩ q)
  · subst ex
    obtain ⟨t, rfl⟩ := r1
    cases ha : x.cps.all (· < 128)
    · exact wpAny_pyIter_wide ha (pi_one (tk := s1.toks) I1 _ (turn_str _ x t "str_iterator" (.inr rfl)) ⟨_, Heap.get?_push_size _ rfl, rfl, rfl⟩ q)
    · exact wpAny_pyIter_ascii ha (pi_one (tk := s1.toks) I1 _ (turn_str _ x t "str_ascii_iterator" (.inl rfl)) ⟨_, Heap.get?_push_size _ rfl, rfl, rfl⟩ q)
theorem itemsOf_exc {d : D} {c : Str} : itemsOf d ≠ .exc c := by
  unfold itemsOf
  split <;> first | (split <;> exact fun h => nomatch h) | exact fun h => nomatch h
theorem j_list {K : PySem.W.Frag} {Gz : Hp} {a : Addr} {vs : List V} {ds : List D} (h : Gz a = some (.lst vs)) (r : RpAll K Gz vs ds) : JRep K ds (Itl K a) Gz := fun i Hn Gzn s1 s2 => by
  have e : Hn a = some (.lst vs) := s2 _ _ (s1 _ _ h)
  refine ⟨fun d hd => ?_, fun hi => ⟨vs, .inl (.inl e), by rw [r.length]; exact hi⟩⟩
  obtain ⟨v, hv, rv⟩ := r.get hd
  refine ⟨⟨vs, v, .inl (.inl e), hv⟩, fun x H' y => .inl ⟨y.1, ?_⟩⟩
  have := y.2 vs (.inl (.inl e))
  rw [hv] at this
  cases this
  exact rv.mono s1
theorem j_tup {K : PySem.W.Frag} {Gz : Hp} {a : Addr} {vs : List V} {ds : List D} (h : SqT K Gz a vs) (r : RpAll K Gz vs ds) : JRep K ds (Itt K a) Gz := fun i Hn Gzn s1 s2 => by
  have e : SqT K Hn a vs := SqT.mono s2 (SqT.mono s1 h)
  refine ⟨fun d hd => ?_, fun hi => ⟨vs, e, by rw [r.length]; exact hi⟩⟩
  obtain ⟨v, hv, rv⟩ := r.get hd
  refine ⟨⟨vs, v, e, hv⟩, fun x H' y => .inl ⟨y.1, ?_⟩⟩
  have := y.2 vs e
  rw [hv] at this
  cases this
  exact rv.mono s1
theorem j_str {K : PySem.W.Frag} {Gz : Hp} {z : Str} : JRep K (signs z) (Its z) Gz := fun i Hn Gzn s1 s2 => by
  refine ⟨fun d hd => ?_, fun hi => ?_⟩
  · unfold signs at hd
    rw [List.getElem?_map, Option.map_eq_some_iff] at hd
    obtain ⟨c, hc, rfl⟩ := hd
    rw [Array.getElem?_toList] at hc
    refine ⟨?_, fun x H' y => .inl ⟨y.1, ?_⟩⟩
    · show i < z.cps.size
      obtain ⟨h, _⟩ := Array.getElem?_eq_some_iff.mp hc
      exact h
    · obtain ⟨c', h1, rfl⟩ := y.2
      rw [hc] at h1
      cases h1
      exact .str _
  · show z.cps.size ≤ i
    unfold signs at hi
    simpa using hi
theorem j_rg {K : PySem.W.Frag} {Gz : Hp} {lo : Int} {n : Nat} : JRep K (upFrom lo n) (Itr lo n) Gz := fun i Hn Gzn s1 s2 => by
  have e : upFrom lo n = (List.range n).map fun (i : Nat) => PyData.int (lo + (i : Nat)) := up_rg lo (lo + n) n (by omega)
  rw [e]
  refine ⟨fun d hd => ?_, fun hi => by simpa [Itr] using hi⟩
  rw [List.getElem?_map, Option.map_eq_some_iff] at hd
  obtain ⟨c, hc, rfl⟩ := hd
  obtain ⟨h1, h2⟩ := List.getElem?_eq_some_iff.mp hc
  have hci : c = i := by simpa using h2.symm
  subst hci
  refine ⟨by simpa [Itr] using h1, fun x H' y => .inl ⟨y.1, ?_⟩⟩
  have := y.2
  rw [this]
  exact .int _
theorem si_e {e : E} {tg iter : Expr} (ok : Cok X C k) (he : SE X C io cf e iter) : SI X C io cf (.e e) tg iter := fun g σ H Gz F hF rl => by
  show Res C σ F _ g H Gz (R.bind (ev io cf e g) fun x => R.bind x.1.fz fun d => R.bind (itemsOf d) fun l => .ok (l, x.2)) _
  rw [bind_fz (fun d g => R.bind (itemsOf d) fun l => .ok (l, g))]
  refine Res.imp (Res.bind (rep' := repJ C.K) (wpb := fun (x : V) (H1 : Hp) (R : It → Hp → Prop) => (∃ a, x = .ref a ∧ (∃ xs, SqL X.K H1 a xs) ∧ R (Itl X.K a) H1) ∨ (∃ a, x = .ref a ∧ (∃ xs, SqT X.K H1 a xs) ∧ R (Itt X.K a) H1) ∨ ∃ z, x = .str z ∧ R (Its z) H1) hF (he.fz rl) fun d v g1 H1 Gz1 e1 hF1 rl1 st1 rp1 => ?_) fun Q q => w_iter q
  refine Res.data (fun _ => itemsOf_exc) fun l hl => ?_
  have rp1 : Rp C.K Gz1 v d := rp1
  have hl : itemsOf d = .ok l := hl
  cases d <;> first | (cases hl; done) | skip
  · rename_i z _ _
    have hl : (if z.cps.toList.length ≤ LIM then R.ok (signs z) else .bad) = .ok l := hl
    split at hl
    · cases hl
      cases rp1
      exact fun Q hQ => .inr (.inr ⟨z, rfl, hQ _ H1 Gz1 rl1 .refl j_str⟩)
    · cases hl
  · cases hl
    cases rp1 with
    | lst h r =>
      refine fun Q hQ => .inl ⟨_, rfl, ⟨_, .inl (.inl (rl1.sub _ _ h))⟩, ?_⟩
      rw [ok.K]
      exact hQ _ H1 Gz1 rl1 .refl (j_list h r)
  · cases hl
    cases rp1 with
    | tup h r =>
      rename_i av xv
      refine fun Q hQ => .inr (.inl ⟨av, rfl, ⟨xv, ?_⟩, ?_⟩)
      · rw [ok.K]
        exact SqT.mono rl1.sub h.sq
      · rw [ok.K]
        exact hQ _ H1 Gz1 rl1 .refl (j_tup h.sq r)
theorem small_b {a : Int} (h : small a = true) : -(2 ^ 62) ≤ a ∧ a < 2 ^ 62 := by
  unfold small at h
  simp only [Bool.and_eq_true, decide_eq_true_eq] at h
  omega
theorem si_rng {a : A} {es : List Expr} {tg : Expr} {p pos : Pos} (ok : Cok X C k) (hg : glB X.env.scope "range" = true) (ha : SD X C io cf a es) (hal : a.len = es.length) (hl : ∃ x, (es = [x] ∧ noStar x = true) ∨ ∃ y, es = [x, y] ∧ noStar x = true ∧ noStar y = true) : SI X C io cf (.rng a) tg (.Call (.Name "range" p) es [] pos) := fun g σ H Gz F hF rl => by
  show Res C σ F _ g H Gz (R.bind (evD io cf a g) fun x => R.bind (rngD x.1) fun l => .ok (l, x.2)) _
  have hm := ok.bl "range" (by decide +kernel)
  obtain ⟨x, ⟨rfl, hx⟩ | ⟨y, rfl, hx, hy⟩⟩ := hl
  · refine Res.imp (Res.bind (rep' := repJ C.K) (wpb := fun (vs : List V) (H1 : Hp) (R : It → Hp → Prop) => ∃ j : Int, vs = [.int j] ∧ -(2 ^ 62) ≤ j ∧ j < 2 ^ 62 ∧ R (Itr 0 j.toNat) H1) hF (ha g σ H Gz F hF rl) fun ds vs g1 H1 Gz1 e1 hF1 rl1 st1 rp1 => ?_) fun Q q => wI.of (pi_range1 (gl_of hg) hm PA.w (starEach_no hx _)) q
    refine Res.data (fun _ => rngD_exc) fun l hl => ?_
    have hlen : ds.length = 1 := (evD_len e1).trans hal
    have hl : rngD ds = .ok l := hl
    have rp1 : RpAll C.K Gz1 vs ds := rp1
    unfold rngD at hl
    split at hl
    · split at hl
      · rename_i hn
        cases hl
        cases rp1 with
        | cons r rr =>
          cases rr
          cases r
          have h1 := hn.1
          have h2 := hn.2
          unfold LIM at h1
          exact fun Q hQ => ⟨_, rfl, by omega, by omega, hQ _ H1 Gz1 rl1 .refl j_rg⟩
      · cases hl
    · cases hlen
    · cases hlen
    · cases hl
  · refine Res.imp (Res.bind (rep' := repJ C.K) (wpb := fun (vs : List V) (H1 : Hp) (R : It → Hp → Prop) => ∃ i j : Int, vs = [.int i, .int j] ∧ (-(2 ^ 62) ≤ i ∧ i < 2 ^ 62 ∧ -(2 ^ 62) ≤ j ∧ j < 2 ^ 62) ∧ R (Itr i (j - i).toNat) H1) hF (ha g σ H Gz F hF rl) fun ds vs g1 H1 Gz1 e1 hF1 rl1 st1 rp1 => ?_) fun Q q => wI.of (pi_range2 (gl_of hg) hm PA.w (by rw [starEach_no hx, starEach_no hy]; rfl) (starEach_no hy _)) q
    refine Res.data (fun _ => rngD_exc) fun l hl => ?_
    have hlen : ds.length = 2 := (evD_len e1).trans hal
    have hl : rngD ds = .ok l := hl
    have rp1 : RpAll C.K Gz1 vs ds := rp1
    unfold rngD at hl
    split at hl
    · cases hlen
    · split at hl
      · rename_i hn
        cases hl
        cases rp1 with
        | cons r rr =>
          cases rr with
          | cons r2 rr =>
            cases rr
            cases r
            cases r2
            have h1 := small_b hn.1
            have h2 := small_b hn.2.1
            exact fun Q hQ => ⟨_, _, rfl, ⟨h1.1, h1.2, h2.1, h2.2⟩, hQ _ H1 Gz1 rl1 .refl j_rg⟩
      · cases hl
    · cases hlen
    · cases hl
/-! ### a comprehension's block -/
theorem Owned.of {g : G} {σ : L2.St} {a : Addr} {i : Nat} (h : OwnSlot g i) (e : σ[i]? = some (some (.ref a))) : Owned g σ a := ⟨i, h, e⟩
theorem wipeG_len : ∀ (ws : List Nat) (g : G), (wipeG ws g).length = g.length
  | [], g => rfl
  | i :: r, g => by
    show (wipeG r (g.set i none)).length = _
    rw [wipeG_len, List.length_set]
theorem wipeG_in : ∀ {ws : List Nat} {g : G} {i : Nat} {b : B}, (wipeG ws g)[i]? = some (some b) → i ∉ ws ∧ g[i]? = some (some b)
  | [], g, i, b, h => ⟨by simp, h⟩
  | j :: r, g, i, b, h => by
    have h : (wipeG r (g.set j none))[i]? = some (some b) := h
    obtain ⟨h1, h2⟩ := wipeG_in h
    rcases set_get h2 with ⟨_, z⟩ | ⟨n, z⟩
    · cases z
    · exact ⟨by simp only [List.mem_cons, not_or]; exact ⟨fun e => n e.symm, h1⟩, z⟩
theorem wipeG_out : ∀ {ws : List Nat} {g : G} {i : Nat}, i ∉ ws → (wipeG ws g)[i]? = g[i]?
  | [], g, i, h => rfl
  | j :: r, g, i, h => by
    show (wipeG r (g.set j none))[i]? = _
    rw [List.mem_cons, not_or] at h
    rw [wipeG_out h.2, List.getElem?_set_ne (fun e => h.1 e.symm)]
theorem wipe_out' {σ : L2.St} {i : Nat} : ∀ {vs : List Nat}, i ∉ vs → (wipe σ vs)[i]? = σ[i]?
  | [], _ => rfl
  | v :: vs, h => by
    rw [List.mem_cons, not_or] at h
    show ((wipe σ vs).set v none)[i]? = _
    rw [List.getElem?_set_ne (fun e => h.1 e.symm), wipe_out' h.2]
theorem wipe_beside {σ σ2 : L2.St} {ws : List Nat} (h : Beside ws (wipe σ ws) σ2) : wipe σ2 ws = wipe σ ws := by
  have hin : ∀ (τ : L2.St) (ws : List Nat) (i : Nat), i ∈ ws → i < τ.length → (wipe τ ws)[i]? = some none := by
    intro τ ws
    induction ws with
    | nil => intro i h; cases h
    | cons v vs ih =>
      intro i hi hl
      show ((wipe τ vs).set v none)[i]? = _
      by_cases e : v = i
      · subst e
        exact List.getElem?_set_self (by rw [wipe_length]; exact hl)
      · rw [List.getElem?_set_ne e]
        rcases List.mem_cons.mp hi with z | z
        · exact absurd z.symm e
        · exact ih i z hl
  apply List.ext_getElem?
  intro i
  have hlen : σ2.length = σ.length := by rw [h.1, wipe_length]
  by_cases hi : i ∈ ws
  · by_cases hl : i < σ.length
    · rw [hin σ2 ws i hi (by rw [hlen]; exact hl), hin σ ws i hi hl]
    · rw [List.getElem?_eq_none (by rw [wipe_length, hlen]; omega), List.getElem?_eq_none (by rw [wipe_length]; omega)]
  · rw [wipe_out' hi, h.2 i hi]
theorem own_wipe {g : G} {σ : L2.St} {ws : List Nat} {a : Addr} (h : Owned (wipeG ws g) (wipe σ ws) a) : Owned g σ a := by
  obtain ⟨i, hi, e⟩ := h
  rcases hi with ⟨d, hi⟩ | ⟨d, hi⟩
  · obtain ⟨n, h1⟩ := wipeG_in hi
    exact ⟨i, .inl ⟨d, h1⟩, by rw [wipe_out' n] at e; exact e⟩
  · obtain ⟨n, h1⟩ := wipeG_in hi
    exact ⟨i, .inr ⟨d, h1⟩, by rw [wipe_out' n] at e; exact e⟩
/-- the slots of a block's own names forgotten -/
theorem Rel.wipe {g : G} {σ : L2.St} {H Gz : Hp} (rl : C.Rl g σ H Gz) (ws : List Nat) : C.Rl (wipeG ws g) (L2.wipe σ ws) H Gz := by
  refine ⟨by rw [wipeG_len, wipe_length]; exact rl.len, rl.sub, fun i d h => ?_, fun i d h => ?_, fun i d h => ?_, fun i j a n h1 h2 s1 s2 => ?_, rl.keep, rl.gz0, rl.gr0, rl.al0⟩
  · obtain ⟨n, h⟩ := wipeG_in h
    obtain ⟨v, h1, h2⟩ := rl.frz i d h
    exact ⟨v, by rw [wipe_out' n]; exact h1, h2⟩
  · obtain ⟨n, h⟩ := wipeG_in h
    obtain ⟨v, h1, h2⟩ := rl.own i d h
    exact ⟨v, by rw [wipe_out' n]; exact h1, h2⟩
  · obtain ⟨n, h⟩ := wipeG_in h
    obtain ⟨v, h0, h1, h2⟩ := rl.io i d h
    exact ⟨v, h0, by rw [wipe_out' n]; exact h1, h2⟩
  · have f : ∀ i, OwnSlot (wipeG ws g) i → i ∉ ws ∧ OwnSlot g i := fun i h => by
      rcases h with ⟨d, h⟩ | ⟨d, h⟩
      · obtain ⟨n, h⟩ := wipeG_in h
        exact ⟨n, .inl ⟨d, h⟩⟩
      · obtain ⟨n, h⟩ := wipeG_in h
        exact ⟨n, .inr ⟨d, h⟩⟩
    obtain ⟨n1, o1⟩ := f i h1
    obtain ⟨n2, o2⟩ := f j h2
    rw [wipe_out' n1] at s1
    rw [wipe_out' n2] at s2
    exact rl.sep i j a n o1 o2 s1 s2
theorem rst_len : ∀ (g0 : G) (ws : List Nat) (g : G), (rst g0 ws g).length = g.length
  | g0, [], g => rfl
  | g0, i :: r, g => by
    show (rst g0 r (g.set i _)).length = _
    rw [rst_len, List.length_set]
theorem rst_out : ∀ {g0 : G} {ws : List Nat} {g : G} {i : Nat}, i ∉ ws → (rst g0 ws g)[i]? = g[i]?
  | g0, [], g, i, h => rfl
  | g0, j :: r, g, i, h => by
    show (rst g0 r (g.set j _))[i]? = _
    rw [List.mem_cons, not_or] at h
    rw [rst_out h.2, List.getElem?_set_ne (fun e => h.1 e.symm)]
theorem rst_in : ∀ {g0 : G} {ws : List Nat} {g : G} {i : Nat} {b : B}, i ∈ ws → (rst g0 ws g)[i]? = some (some b) → g0[i]? = some (some b)
  | g0, j :: r, g, i, b, h, e => by
    have e : (rst g0 r (g.set j ((g0[j]?).getD none)))[i]? = some (some b) := e
    by_cases hr : i ∈ r
    · exact rst_in hr e
    · rcases List.mem_cons.mp h with z | z
      · subst z
        rw [rst_out hr] at e
        rcases set_get e with ⟨_, z⟩ | ⟨n, _⟩
        · cases hg : g0[i]? with
          | none => rw [hg] at z; cases z
          | some o => rw [hg] at z; exact congrArg some z
        · exact absurd rfl n
      · exact absurd z hr
/-- and taken back behind it -/
theorem Rel.back {g0 g1 : G} {σ : L2.St} {H0 H1 Gz0 Gz1 : Hp} {ws : List Nat} (rl0 : C.Rl g0 σ H0 Gz0) (rl1 : C.Rl (wipeG ws g1) (L2.wipe σ ws) H1 Gz1) (st : Stp (wipeG ws g0) (wipeG ws g1) (L2.wipe σ ws) H0 H1 Gz0 Gz1) :
    C.Rl (rst g0 ws g1) σ H1 Gz1 ∧ Stp g0 (rst g0 ws g1) σ H0 H1 Gz0 Gz1 := by
  have hlen : g1.length = g0.length := by
    have h1 := rl1.len
    have h0 := rl0.len
    rw [wipeG_len, wipe_length] at h1
    omega
  -- a slot's own thing of old, in a slot of ours
  have keepO : ∀ i a, i ∈ ws → OwnSlot g0 i → σ[i]? = some (some (.ref a)) → ¬ Owned (wipeG ws g0) (L2.wipe σ ws) a := fun i a hi ho hs ⟨j, h1, h2⟩ => by
    have f : j ∉ ws ∧ OwnSlot g0 j := by
      rcases h1 with ⟨d, h⟩ | ⟨d, h⟩
      · obtain ⟨n, h⟩ := wipeG_in h
        exact ⟨n, .inl ⟨d, h⟩⟩
      · obtain ⟨n, h⟩ := wipeG_in h
        exact ⟨n, .inr ⟨d, h⟩⟩
    rw [wipe_out' f.1] at h2
    exact rl0.sep i j a (fun e => f.1 (e ▸ hi)) ho f.2 hs h2
  have out1 : ∀ i b, i ∉ ws → (rst g0 ws g1)[i]? = some (some b) → (wipeG ws g1)[i]? = some (some b) := fun i b n h => by
    rw [rst_out n] at h
    rw [wipeG_out n]
    exact h
  have osl : ∀ i, OwnSlot (rst g0 ws g1) i → (i ∈ ws ∧ OwnSlot g0 i) ∨ (i ∉ ws ∧ OwnSlot (wipeG ws g1) i) := fun i h => by
    by_cases hi : i ∈ ws
    · refine .inl ⟨hi, ?_⟩
      rcases h with ⟨d, h⟩ | ⟨d, h⟩
      · exact .inl ⟨d, rst_in hi h⟩
      · exact .inr ⟨d, rst_in hi h⟩
    · refine .inr ⟨hi, ?_⟩
      rcases h with ⟨d, h⟩ | ⟨d, h⟩
      · exact .inl ⟨d, out1 i _ hi h⟩
      · exact .inr ⟨d, out1 i _ hi h⟩
  have ow1 : ∀ j a, j ∉ ws → OwnSlot (wipeG ws g1) j → σ[j]? = some (some (.ref a)) → Owned (wipeG ws g0) (L2.wipe σ ws) a := fun j a n h e => st.sh a ⟨j, h, by rw [wipe_out' n]; exact e⟩
  refine ⟨⟨by rw [rst_len, hlen]; exact rl0.len, rl1.sub, fun i d h => ?_, fun i d h => ?_, fun i d h => ?_, fun i j a n h1 h2 s1 s2 => ?_, rl1.keep, rl1.gz0, rl1.gr0, rl1.al0⟩, ⟨st.gz, fun a o h n => st.fr a o h fun z => n (own_wipe z), fun a h z n => st.gr a h z fun y => n (own_wipe y), fun a ⟨i, h, e⟩ => ?_, st.al⟩⟩
  · by_cases hi : i ∈ ws
    · obtain ⟨v, h1, h2⟩ := rl0.frz i d (rst_in hi h)
      exact ⟨v, h1, h2.mono st.gz⟩
    · obtain ⟨v, h1, h2⟩ := rl1.frz i d (out1 i _ hi h)
      exact ⟨v, by rw [wipe_out' hi] at h1; exact h1, h2⟩
  · by_cases hi : i ∈ ws
    · have hx := rst_in hi h
      obtain ⟨a, h1, h2, h3, h4⟩ := rl0.own i d hx
      have no := keepO i a hi (.inl ⟨d, hx⟩) h1
      obtain ⟨o, ho⟩ := h3.there
      exact ⟨a, h1, st.gr a (by rw [ho]; exact Option.some_ne_none o) h2 no, h3.mono st.gz fun o z => st.fr a o z no, h4⟩
    · obtain ⟨a, h1, h2⟩ := rl1.own i d (out1 i _ hi h)
      exact ⟨a, by rw [wipe_out' hi] at h1; exact h1, h2⟩
  · by_cases hi : i ∈ ws
    · have hx := rst_in hi h
      obtain ⟨a, h0, h1, h2, h3⟩ := rl0.io i d hx
      have no := keepO i a hi (.inr ⟨d, hx⟩) h1
      obtain ⟨o, ho⟩ := h3.there
      exact ⟨a, h0, h1, st.gr a (by rw [ho]; exact Option.some_ne_none o) h2 no, h3.mono st.gz fun o z => st.fr a o z no⟩
    · obtain ⟨a, h0, h1, h2⟩ := rl1.io i d (out1 i _ hi h)
      exact ⟨a, h0, by rw [wipe_out' hi] at h1; exact h1, h2⟩
  · rcases osl i h1 with ⟨hi, o1⟩ | ⟨hi, o1⟩
    · rcases osl j h2 with ⟨hj, o2⟩ | ⟨hj, o2⟩
      · exact rl0.sep i j a n o1 o2 s1 s2
      · exact keepO i a hi o1 s1 (ow1 j a hj o2 s2)
    · rcases osl j h2 with ⟨hj, o2⟩ | ⟨hj, o2⟩
      · exact keepO j a hj o2 s2 (ow1 i a hi o1 s1)
      · exact rl1.sep i j a n o1 o2 (by rw [wipe_out' hi]; exact s1) (by rw [wipe_out' hj]; exact s2)
  · rcases osl i h with ⟨_, o1⟩ | ⟨hi, o1⟩
    · exact ⟨i, o1, e⟩
    · exact own_wipe (ow1 i a hi o1 e)
end
end Dat

/-! Dat, part B15e: enumerate, of a list or a tuple. -/
namespace Dat
open PySem PySem.Spec PyProof.Rows L2
open PySem.W
section
variable {X : Cx} {C : Cz} {io : Io} {cf : Caller} {k : Nat}
/-- enumerate(x), x a list or a tuple -/
def iEnumA (K : PySem.W.Frag) (ta : TA) : TI := fun σ H R => ta σ H fun vs H1 => ∃ tu a xs, vs = [.ref a] ∧ SqB tu K H1 a xs ∧ R (Iteb tu K a) H1
theorem pi_enumA {e : Expr} {ta : TA} {p pos tpos : Pos} {elts : List Expr} {kk : Nat} (hg : Gl X "enumerate") (hm : X.mg "enumerate" = none) (ha : PA X [e] ta) (hs : starEach [e] X.env = [(false, eval e X.env)]) :
    PI X (.Tuple elts kk tpos) (.Call (.Name "enumerate" p) [e] [] pos) (iEnumA X.K ta) := by
  refine ⟨fun pins s σ H R I h => ?_⟩
  refine Call_ (ld_blt I hg hm boot_enumerate (PyProof.Rows.callWith_type1 (thn (ha.run pos pins s σ H _ I h) fun us s1 ⟨vs, H1, I1, r1, q1⟩ => ?_) hs rfl))
  obtain ⟨tu, a, xs, ex, hq, q⟩ := q1
  subst ex
  cases r1 with
  | cons r rr =>
    cases rr
    cases r
    obtain ⟨its, rv, p', hz⟩ := seqIs_of I1 hq
    have fin : ∀ h' : Heap, IsEnum h' (s1.heap.objs.size + 1) s1.heap.objs.size 0 .none → ItB tu h' s1.heap.objs.size a 0 → (∀ b o, s1.heap.get? b = some o → h'.get? b = some o) →
        wpAny (model X.prog X.w) X.A (pyIter (.ref (s1.heap.objs.size + 1))) (PIE X pins σ (.Tuple elts kk tpos) R) X.xe { s1 with heap := h' } := fun h' he hit hk => by
      refine wpAny_pyIter_enum he ?_
      have I2 : Inv X pins σ H1 { s1 with heap := h' } := I1.kept (t' := s1.toks) hk
      refine ⟨s1.heap.objs.size + 1, [s1.heap.objs.size + 1, s1.heap.objs.size], _, _, H1, rfl, I2, turn_enumB tu a (s1.heap.objs.size + 1) s1.heap.objs.size, ⟨⟨.none, he⟩, hit, Nat.succ_ne_self _⟩, fun b hb => ?_, q⟩
      have hle : s1.heap.objs.size ≤ b := by
        rcases (show b = s1.heap.objs.size + 1 ∨ b = s1.heap.objs.size by simpa using hb) with z | z
        · rw [z]; exact Nat.le_succ _
        · rw [z]; exact Nat.le_refl _
      exact I1.fpOk hle (I1.hok.fresh hle)
    cases tu with
    | false => exact call_enumerate_list (show s1.heap.IsList a its.toArray from p') fun h' he hit hsz hk => fin h' he hit hk
    | true => exact enum1 (begins_tup a its.toArray) (show s1.heap.IsTuple a its.toArray from p') fun h' he hit hsz hk => fin h' he ⟨_, hit, rfl, rfl⟩ hk
theorem enumD_get : ∀ (l : List D) (n : Int) (i : Nat) (d : D), (enumD l n)[i]? = some d → ∃ x, l[i]? = some x ∧ d = .tuple [.int (n + i), x]
  | [], n, i, d, h => by simp [enumD] at h
  | x :: r, n, 0, d, h => by
    have : d = .tuple [.int n, x] := by simpa [enumD] using h.symm
    exact ⟨x, rfl, by rw [this]; simp⟩
  | x :: r, n, i + 1, d, h => by
    have h : (enumD r (n + 1))[i]? = some d := by simpa [enumD] using h
    obtain ⟨y, h1, h2⟩ := enumD_get r (n + 1) i d h
    refine ⟨y, by simpa using h1, ?_⟩
    rw [h2]
    congr 3
    push_cast
    omega
theorem enumD_len : ∀ (l : List D) (n : Int), (enumD l n).length = l.length
  | [], n => rfl
  | x :: r, n => by
    show (enumD r (n + 1)).length + 1 = r.length + 1
    rw [enumD_len]
theorem si_enu {e : E} {z : Expr} {elts : List Expr} {kk : Nat} {tpos p pos : Pos} (ok : Cok X C k) (hg : glB X.env.scope "enumerate" = true) (hs : noStar z = true) (he : SE X C io cf e z) : SI X C io cf (.enu e) (.Tuple elts kk tpos) (.Call (.Name "enumerate" p) [z] [] pos) := fun g σ H Gz F hF rl => by
  show Res C σ F _ g H Gz (R.bind (ev io cf e g) fun x => R.bind x.1.fz fun d => R.bind (seqOf d) fun l => .ok (enumD l 0, x.2)) _
  rw [bind_fz (fun d g => R.bind (seqOf d) fun l => .ok (enumD l 0, g))]
  have pa : PA X [z] (tCons (wE X z) tNil) := pa_cons PE.w pa_nil (starEach_no hs _)
  refine Res.imp (Res.bind (rep' := repJ C.K) (wpb := fun (v : V) (H1 : Hp) (R : It → Hp → Prop) => ∃ tu a xs, [v] = [.ref a] ∧ SqB tu X.K H1 a xs ∧ R (Iteb tu X.K a) H1) hF (he.fz rl) fun d v g1 H1 Gz1 e1 hF1 rl1 st1 rp1 => ?_) fun Q q => wI.of (pi_enumA (gl_of hg) (ok.bl _ (by decide +kernel)) pa (starEach_no hs _)) q
  have rp1 : Rp C.K Gz1 v d := rp1
  refine Res.data (fun c h => by cases d <;> cases h) fun l hl => ?_
  have pair : ∀ (K : PySem.W.Frag) (Gzn : Hp) (T : Addr) (o : Obj) (x : V) (y : D) (i : Nat), o.dict = none → Gzn T = none → Rp K Gzn x y → Rp K (upd Gzn T (.frz o (.tup [.int (i : Nat), x]))) (.ref T) (.tuple [.int (0 + (i : Int)), y]) := fun K Gzn T o x y i hd hT r => by
    refine .tup (.inl ⟨o, upd_same, hd⟩) (.cons ?_ (.cons (r.mono (same_upd hT)) .nil))
    rw [Int.zero_add]
    exact .int _
  have hK := ok.K
  have main : ∀ (tu : Bool) (a : Addr) (vs : List V) (ds : List D), (∀ Hn, Same Gz1 Hn → SqB tu C.K Hn a vs) → RpAll C.K Gz1 vs ds → ∀ Q : It → Hp → Prop,
      (∀ b H' Gz', C.Rl g1 σ H' Gz' → Stp g1 g1 σ H1 H' Gz1 Gz' → JRep C.K (enumD ds 0) b Gz' → Q b H') → Q (Iteb tu C.K a) H1 := fun tu a vs ds hs r Q hQ => by
    refine hQ _ H1 Gz1 rl1 .refl fun i Hn Gzn s1 s2 => ?_
    have e : SqB tu C.K Hn a vs := hs Hn (s1.trans s2)
    refine ⟨fun d hd => ?_, fun hi => ⟨vs, e, by rw [r.length, ← enumD_len _ 0]; exact hi⟩⟩
    obtain ⟨y, h1, rfl⟩ := enumD_get _ 0 i d hd
    obtain ⟨v, hv, rv⟩ := r.get h1
    refine ⟨⟨vs, v, e, hv⟩, fun x H' yl => .inr ?_⟩
    obtain ⟨T, o, x', rfl, hT, hdn, rfl, hx⟩ := yl
    have := hx vs e
    rw [hv] at this
    cases this
    exact ⟨T, _, hT, rfl, pair C.K Gzn T o v y i hdn (s2.free hT) (rv.mono s1)⟩
  cases d <;> first | (cases hl; done) | skip
  · cases hl
    cases rp1 with
    | lst h r =>
      rename_i a vs
      refine fun Q hQ => ⟨false, a, vs, rfl, .inl (.inl (rl1.sub _ _ h)), ?_⟩
      rw [hK]
      exact main false a vs _ (fun Hn s => .inl (.inl (s _ _ h))) r Q hQ
  · cases hl
    cases rp1 with
    | tup h r =>
      rename_i a vs
      refine fun Q hQ => ⟨true, a, vs, rfl, by rw [hK]; exact SqT.mono rl1.sub h.sq, ?_⟩
      rw [hK]
      exact main true a vs _ (fun Hn s => SqT.mono s h.sq) r Q hQ
end
end Dat

/-! Dat, part B16: comprehensions. -/
namespace Dat
open PySem PySem.Spec PyProof.Rows L2
open PySem.W
/-- a context of the block -/
def Blk (X : Cx) (scope : Scope) (X' : Cx) : Prop := ∃ (s : Shared) (H : Hp) (c : Addr) (cl : List (Str × Addr)) (fp : List Addr), X' = X.blk s H scope (compEnvC scope cl c X.env) fp
/-- nothing may be raised -/
def Cz.calm (C : Cz) : Cz := { C with W := fun _ _ _ _ => False }
def wTs (X : Cx) (ifs : List Expr) (σ : L2.St) (H : Hp) (Q : Bool → Hp → Prop) : Prop := ∀ (pins : List (Addr × Obj)) (s : Shared), Inv X pins σ H s →
    wpAny (model X.prog X.w) X.A (forIn ifs true fun c r => if r = true then do let ok ← isTrue c X.env (eval c X.env); pure (ForInStep.yield ok) else pure (ForInStep.yield r)) (TP X pins σ Q) X.xe s
def SC (X : Cx) (C : Cz) (io : Io) (cf : Caller) (o : O) (ifs : List Expr) : Prop := ∀ g σ H Gz F, FsOk F g σ H → C.Rl g σ H Gz → Res C σ F repB g H Gz (evC io cf o g) fun Q => wTs X ifs σ H Q
section
variable {X : Cx} {C : Cz} {io : Io} {cf : Caller} {k : Nat}
theorem PTs.w {ifs : List Expr} : PTs X ifs (wTs X ifs) := ⟨fun pins s _ _ _ I h => h pins s I⟩
theorem sc_no : SC X C io cf .no [] := fun g σ H Gz F hF rl Q hQ pins s I => pts_nil.run pins s σ H Q I (hQ true H Gz rl .refl rfl)
theorem sc_yes {e : E} {ex : Expr} (h : STst X C io cf e ex) : SC X C io cf (.yes e) [ex] := fun g σ H Gz F hF rl => by
  refine Res.imp (h g σ H Gz F hF rl) fun Q q pins s I => (pts_one PT.w).run pins s σ H Q I q
theorem R.quiet_ok {α β : Type} {r : R α} {k : α → R β} {b : β} (h : R.quiet r k = .ok b) : ∃ a, r = .ok a ∧ k a = .ok b := by
  cases r with
  | ok a => exact ⟨a, rfl, h⟩
  | exc c => cases h
  | bad => cases h
theorem R.quiet_exc {α β : Type} {r : R α} {k : α → R β} {c : Str} (h : R.quiet r k = .exc c) : ∃ a, r = .ok a ∧ k a = .exc c := by
  cases r with
  | ok a => exact ⟨a, rfl, h⟩
  | exc c => cases h
  | bad => cases h
theorem lcF_exc {p : Pat} {ws : List Nat} {c : G → R (Bool × G)} {e : G → R (D × G)} {x : Str} : ∀ (ds : List D) (g : G) (acc : List D), lcF p ws c e ds g acc ≠ .exc x
  | [], g, acc => fun h => nomatch h
  | d :: r, g, acc => fun h => by
    have h : (R.quiet (stP p d (wipeG ws g)) fun g => R.quiet (c g) fun x => match x.1 with
      | false => lcF p ws c e r x.2 acc
      | true => R.quiet (e x.2) fun y => lcF p ws c e r y.2 (acc ++ [y.1])) = .exc x := h
    obtain ⟨g1, _, h⟩ := R.quiet_exc h
    obtain ⟨b, _, h⟩ := R.quiet_exc h
    obtain ⟨b, g2⟩ := b
    cases b with
    | false => exact lcF_exc r _ _ h
    | true =>
      obtain ⟨y, _, h⟩ := R.quiet_exc h
      exact lcF_exc r _ _ h
/-- a thing that is neither shared nor a slot's own changes -/
theorem Rel.updFree {g : G} {σ : L2.St} {H Gz : Hp} (rl : C.Rl g σ H Gz) {a : Addr} {o : HO} (gn : Gz a = none) (no : ¬ Owned g σ a) (hz : C.Hz a = none) : C.Rl g σ (upd H a o) Gz := by
  refine ⟨rl.len, fun b u e => ?_, rl.frz, fun i d h => ?_, fun i d h => ?_, rl.sep, fun b u h1 h2 => ?_, rl.gz0, rl.gr0, fun b h => ?_⟩
  · rw [upd_ne (ne_of_none e gn)]
    exact rl.sub b u e
  · obtain ⟨b, h1, h2, h3, h4⟩ := rl.own i d h
    have ne : b ≠ a := fun e => no ⟨i, .inl ⟨d, h⟩, by rw [← e]; exact h1⟩
    exact ⟨b, h1, h2, h3.mono (Same.refl _) fun u hu => by rw [upd_ne ne]; exact hu, h4⟩
  · obtain ⟨b, h0, h1, h2, h3⟩ := rl.io i d h
    have ne : b ≠ a := fun e => no ⟨i, .inr ⟨d, h⟩, by rw [← e]; exact h1⟩
    exact ⟨b, h0, h1, h2, h3.mono (Same.refl _) fun u hu => by rw [upd_ne ne]; exact hu⟩
  · have ne : b ≠ a := fun e => by rw [e, hz] at h1; cases h1
    rw [upd_ne ne]
    exact rl.keep b u h1 h2
  · by_cases e : b = a
    · subst e
      rw [upd_same] at h
      cases h
    · rw [upd_ne e] at h
      exact rl.al0 b h
theorem Stp.updFree {g0 g : G} {σ : L2.St} {H0 H Gz0 Gz : Hp} (s : Stp g0 g σ H0 H Gz0 Gz) {a : Addr} {o : HO} (h0 : H0 a = none) : Stp g0 g σ H0 (upd H a o) Gz0 Gz where
  gz := s.gz
  fr := fun b u h n => by
    rw [upd_ne (ne_of_none h h0)]
    exact s.fr b u h n
  gr := s.gr
  sh := s.sh
  al := fun b h => by
    by_cases e : b = a
    · subst e
      exact h0
    · rw [upd_ne e] at h
      exact s.al b h
/-- a step within the block, seen from its start -/
theorem Stp.inBlk {g2 g3 gW : G} {σ2 σW : L2.St} {H H3 Gz Gz3 : Hp} {ws : List Nat} (st : Stp g2 g3 σ2 H H3 Gz Gz3) (bs : Beside ws σW σ2) (fr : ∀ i ∈ ws, ∃ d, g2[i]? = some (some (.frz d))) (nn : ∀ i, i ∉ ws → g2[i]? = gW[i]?) : Stp gW (wipeG ws g3) σW H H3 Gz Gz3 := by
  have k1 : ∀ a, Owned g2 σ2 a → Owned gW σW a := fun a ⟨j, h, e⟩ => by
    have nj : j ∉ ws := fun hj => by
      obtain ⟨d, hd⟩ := fr j hj
      rcases h with ⟨e, h⟩ | ⟨e, h⟩ <;> (rw [hd] at h; cases h)
    refine ⟨j, ?_, by rw [← bs.2 j nj]; exact e⟩
    unfold OwnSlot at h ⊢
    rw [← nn j nj]
    exact h
  have k2 : ∀ a, Owned (wipeG ws g3) σW a → Owned g3 σ2 a := fun a ⟨j, h, e⟩ => by
    rcases h with ⟨d, h⟩ | ⟨d, h⟩
    · obtain ⟨n, h⟩ := wipeG_in h
      exact ⟨j, .inl ⟨d, h⟩, by rw [bs.2 j n]; exact e⟩
    · obtain ⟨n, h⟩ := wipeG_in h
      exact ⟨j, .inr ⟨d, h⟩, by rw [bs.2 j n]; exact e⟩
  exact ⟨st.gz, fun a o h n => st.fr a o h fun z => n (k1 a z), fun a h z n => st.gr a h z fun y => n (k1 a y), fun a h => k1 a (st.sh a (k2 a h)), st.al⟩
theorem Res.all {ι : Sort _} {α β : Type} {σ : L2.St} {F : Addr → Prop} {rep : Rep α β} {g : G} {H Gz : Hp} {r : R (α × G)} {P : ι → Prop} {wp : ι → (β → Hp → Prop) → Prop} (h : ∀ i, P i → Res C σ F rep g H Gz r (wp i)) : Res C σ F rep g H Gz r fun Q => ∀ i, P i → wp i Q := by
  cases r with
  | bad => exact trivial
  | exc c => exact fun Q hx i hi => h i hi Q hx
  | ok x => exact fun Q hx i hi => h i hi Q hx
/-- the block, turn by turn -/
theorem lc_turns {scope : Scope} {p : Pat} {tg elt : Expr} {ifs : List Expr} {e : E} {c : O} {ws : List Nat} {fc : Str → Bool} {J : It} {ds : List D} {g0 : G} {σ : L2.St} {H1 Gz1 : Hp} {D : Addr} {out : List Dat.D} {gend : G} {Qd : Hp → Prop}
    (ok : Cok X C k) (hws : ws = p.slots)
    (hst : ∀ X', Blk X scope X' → X'.K = C.K ∧ X'.calm = true ∧ X'.N.Nodup ∧ (∀ x, fc x = true → X'.fn x = true) ∧ isP X'.N X'.env.scope fc p tg = true)
    (hc : ∀ X', Blk X scope X' → SC X' C.calm io cf c ifs) (he : ∀ X', Blk X scope X' → SE X' C.calm io cf e elt)
    (rl1 : C.Rl g0 σ H1 Gz1) (hD : H1 D = none) (hJ : JRep C.K ds J Gz1) (hlen : ds.length ≤ LIM)
    (hr : lcF p ws (fun g => evC io cf c g) (fun g => R.bind (ev io cf e g) fun y => R.bind y.1.fz fun d => .ok (d, y.2)) ds g0 [] = .ok (out, gend))
    (hQ : ∀ H Gz acc, C.Rl (wipeG ws gend) (wipe σ ws) H Gz → Stp (wipeG ws g0) (wipeG ws gend) (wipe σ ws) H1 H Gz1 Gz → H D = some (.lst acc) → RpAll C.K Gz acc out → Gz D = none → ¬ Owned (wipeG ws gend) (wipe σ ws) D → Qd H) :
    ∃ W : Nat → Nat → Hp → Prop, (∃ m, W 0 m (upd H1 D (.lst []))) ∧ ∀ i m H, W i m H →
      (J.stop i H ∧ Qd H) ∨ (J.go i H ∧ ∃ Nx : Hp → Prop, (∀ H', Nx H' → ∃ m', m' < m ∧ W (i + 1) m' H') ∧ ∀ x H', J.yld i H x H' → (fun v σ H Q => ∀ X', Blk X scope X' → wG X' tg v σ H Q) x (wipe σ ws) H' fun σ2 H2 => wipe σ2 ws = wipe σ ws ∧ (fun σ H Q => ∀ X', Blk X scope X' → wTs X' ifs σ H Q) σ2 H2 fun b H3 =>
        if b = true then (fun σ H Q => ∀ X', Blk X scope X' → wE X' elt σ H Q) σ2 H3 fun y H4 => ∃ acc, H4 D = some (.lst acc) ∧ acc.length < sizeLine ∧ Nx (upd H4 D (.lst (acc ++ [y]))) else Nx H3) := by
  subst hws
  let Pv : Nat → Hp → Prop := fun i H => ∃ g acc accV Gz, lcF p p.slots (fun g => evC io cf c g) (fun g => R.bind (ev io cf e g) fun y => R.bind y.1.fz fun d => .ok (d, y.2)) (ds.drop i) g acc = .ok (out, gend) ∧ C.Rl (wipeG p.slots g) (wipe σ p.slots) H Gz ∧
    Stp (wipeG p.slots g0) (wipeG p.slots g) (wipe σ p.slots) H1 H Gz1 Gz ∧ H D = some (.lst accV) ∧ RpAll C.K Gz accV acc ∧ Gz D = none ∧ ¬ Owned (wipeG p.slots g) (wipe σ p.slots) D ∧ acc.length ≤ i
  have hzD : C.Hz D = none := rl1.al0 D hD
  have rlW := rl1.wipe p.slots
  refine ⟨fun i m H => m = ds.length - i ∧ i ≤ ds.length ∧ Pv i H, ⟨ds.length, by simp, Nat.zero_le _, g0, [], [], Gz1, hr, rlW.new (same_upd hD), (Stp.new (same_upd hD)), upd_same, .nil, rl1.gfree hD, fun z => ?_, Nat.le_refl _⟩, ?_⟩
  · obtain ⟨_, o, ho⟩ := rlW.noOwn z
    rw [hD] at ho
    cases ho
  rintro i m H ⟨rfl, hi, g, acc, accV, Gz, hF, rl, st, hDa, rpa, gD, noD, hal⟩
  obtain ⟨hgo, hstop⟩ := hJ i H Gz st.gz rl.sub
  by_cases hlt : i < ds.length
  · have hd : ds[i]? = some ds[i] := List.getElem?_eq_getElem hlt
    obtain ⟨go, yl⟩ := hgo _ hd
    refine .inr ⟨go, Pv (i + 1), fun H' p' => ⟨ds.length - (i + 1), by omega, rfl, hlt, p'⟩, fun x H' y => ?_⟩
    rw [List.drop_eq_getElem_cons hlt] at hF
    have hF : (R.quiet (stP p ds[i] (wipeG p.slots g)) fun g => R.quiet (evC io cf c g) fun x => match x.1 with
      | false => lcF p p.slots (fun g => evC io cf c g) (fun g => R.bind (ev io cf e g) fun y => R.bind y.1.fz fun d => .ok (d, y.2)) (ds.drop (i + 1)) x.2 acc
      | true => R.quiet (R.bind (ev io cf e x.2) fun y => R.bind y.1.fz fun d => .ok (d, y.2)) fun y => lcF p p.slots (fun g => evC io cf c g) (fun g => R.bind (ev io cf e g) fun y => R.bind y.1.fz fun d => .ok (d, y.2)) (ds.drop (i + 1)) y.2 (acc ++ [y.1])) = .ok (out, gend) := hF
    obtain ⟨g2, h2, hF⟩ := R.quiet_ok hF
    obtain ⟨bg, h3, hF⟩ := R.quiet_ok hF
    obtain ⟨b, g3⟩ := bg
    -- the item comes
    have hy : ∃ Gz', C.Rl (wipeG p.slots g) (wipe σ p.slots) H' Gz' ∧ Stp (wipeG p.slots g) (wipeG p.slots g) (wipe σ p.slots) H H' Gz Gz' ∧ Rp C.K Gz' x ds[i] := by
      rcases yl x H' y with ⟨rfl, rp⟩ | ⟨q, vs, hq, rfl, rp⟩
      · exact ⟨Gz, rl, .refl, rp⟩
      · obtain ⟨r1, s1, _, _⟩ := mkNew rl (o := vs) hq
        exact ⟨_, r1, s1, rp⟩
    obtain ⟨Gz', rl', st', rp⟩ := hy
    have hneH : H D ≠ none := by rw [hDa]; exact Option.some_ne_none _
    have gD' : Gz' D = none := st'.gr D hneH gD noD
    have hDa' : H' D = some (.lst accV) := st'.fr D _ hDa noD
    intro X' hX'
    obtain ⟨c1, c2, c3, c4, c5⟩ := hst X' hX'
    refine stP_ok c1 c2 c3 c4 c5 rl' rp h2 fun σ2 rl2 b2 f2 n2 => ⟨wipe_beside b2, ?_⟩
    have ew : wipe σ2 p.slots = wipe σ p.slots := wipe_beside b2
    have noD2 : ¬ Owned g2 σ2 D := fun ⟨j, h, e⟩ => by
      have nj : j ∉ p.slots := fun hj => by
        obtain ⟨d, hd⟩ := f2 j hj
        rcases h with ⟨e, h⟩ | ⟨e, h⟩ <;> (rw [hd] at h; cases h)
      refine noD ⟨j, ?_, by rw [← b2.2 j nj]; exact e⟩
      unfold OwnSlot at h ⊢
      rw [← n2 j nj]
      exact h
    have Rc : Res C.calm σ2 (Fs g2 σ2 H') repB g2 H' Gz' (evC io cf c g2) fun Q => ∀ X', Blk X scope X' → wTs X' ifs σ2 H' Q := Res.all fun X' hX' => hc X' hX' g2 σ2 H' Gz' _ fs_refl rl2
    rw [h3] at Rc
    refine Rc _ fun b' H3 Gz3 rl3 st3 eb => ?_
    have eb : b = b' := eb
    subst eb
    have s23 := st3.inBlk b2 f2 n2
    have rw3 : C.Rl (wipeG p.slots g3) (wipe σ p.slots) H3 Gz3 := by rw [← ew]; exact Rel.wipe rl3 p.slots
    have hDa3 : H3 D = some (.lst accV) := st3.fr D _ hDa' noD2
    have gD3 : Gz3 D = none := st3.gr D (by rw [hDa']; exact Option.some_ne_none _) gD' noD2
    cases b with
    | false =>
      rw [if_neg (by simp)]
      have hF : lcF p p.slots (fun g => evC io cf c g) (fun g => R.bind (ev io cf e g) fun y => R.bind y.1.fz fun d => .ok (d, y.2)) (ds.drop (i + 1)) g3 acc = .ok (out, gend) := hF
      refine ⟨g3, acc, accV, Gz3, hF, rw3, (st.trans st').trans s23, hDa3, (rpa.mono st'.gz).mono st3.gz, gD3, fun z => noD (st'.sh D (s23.sh D z)), by omega⟩
    | true =>
      rw [if_pos rfl]
      obtain ⟨yg, h4, hF⟩ := R.quiet_ok hF
      obtain ⟨yd, g4⟩ := yg
      have Re : Res C.calm σ2 (Fs g3 σ2 H3) (repD C.K) g3 H3 Gz3 (evF io cf e g3) fun Q => ∀ X', Blk X scope X' → wE X' elt σ2 H3 Q := Res.all fun X' hX' => (he X' hX').fz rl3
      have h4 : evF io cf e g3 = .ok (yd, g4) := h4
      rw [h4] at Re
      refine Re _ fun y H4 Gz4 rl4 st4 rp4 => ?_
      have s34 := (st3.trans st4).inBlk b2 f2 n2
      have noD3 : ¬ Owned g3 σ2 D := fun z => noD2 (st3.sh D z)
      have hDa4 : H4 D = some (.lst accV) := st4.fr D _ hDa3 noD3
      have gD4 : Gz4 D = none := st4.gr D (by rw [hDa3]; exact Option.some_ne_none _) gD3 noD3
      have rw4 : C.Rl (wipeG p.slots g4) (wipe σ p.slots) H4 Gz4 := by rw [← ew]; exact Rel.wipe rl4 p.slots
      have noD4 : ¬ Owned (wipeG p.slots g4) (wipe σ p.slots) D := fun z => noD (st'.sh D (s34.sh D z))
      refine ⟨accV, hDa4, ?_, g4, acc ++ [yd], accV ++ [y], Gz4, hF, rw4.updFree gD4 noD4 hzD, ((st.trans st').trans s34).updFree hD, upd_same, ?_, gD4, noD4, by rw [List.length_append, List.length_singleton]; omega⟩
      · rw [rpa.length, sizeLine_eq]
        have : ds.length ≤ 1000000 := hlen
        omega
      · exact (((rpa.mono st'.gz).mono st3.gz).mono st4.gz).append (.cons rp4 .nil)
  · have ei : i = ds.length := by omega
    subst ei
    rw [List.drop_length] at hF
    have hF : R.ok (acc, g) = .ok (out, gend) := hF
    cases hF
    exact .inl ⟨hstop (Nat.le_refl _), hQ H Gz accV rl st hDa rpa gD noD⟩
def tgB (X : Cx) (scope : Scope) (tg : Expr) : TG := fun v σ H Q => ∀ X', Blk X scope X' → wG X' tg v σ H Q
def ttB (X : Cx) (scope : Scope) (ifs : List Expr) : TT := fun σ H Q => ∀ X', Blk X scope X' → wTs X' ifs σ H Q
def teB (X : Cx) (scope : Scope) (elt : Expr) : TE := fun σ H Q => ∀ X', Blk X scope X' → wE X' elt σ H Q
theorem lc_res {e : E} {p : Pat} {it : I} {c : O} {elt tg iter : Expr} {ifs : List Expr} {scope : Scope} {fc : Str → Bool} (ok : Cok X C k) (hi : SI X C io cf it tg iter)
    (hst : ∀ X', Blk X scope X' → X'.K = C.K ∧ X'.calm = true ∧ X'.N.Nodup ∧ (∀ x, fc x = true → X'.fn x = true) ∧ isP X'.N X'.env.scope fc p tg = true)
    (hc : ∀ X', Blk X scope X' → SC X' C.calm io cf c ifs) (he : ∀ X', Blk X scope X' → SE X' C.calm io cf e elt) {g : G} {σ : L2.St} {H Gz : Hp} {F : Addr → Prop} (hF : FsOk F g σ H) (rl : C.Rl g σ H Gz) :
    Res C σ F (repV C.K C.Hz σ) g H Gz (ev io cf (.lc e p it c) g) fun Q => tLc (wI X tg iter) (tgB X scope tg) (ttB X scope ifs) (teB X scope elt) p.slots σ H Q := by
  show Res C σ F _ g H Gz (R.bind (evI io cf it g) fun x => if x.1.length ≤ LIM then R.bind (lcF p p.slots (fun g => evC io cf c g) (fun g => R.bind (ev io cf e g) fun y => R.bind y.1.fz fun d => .ok (d, y.2)) x.1 x.2 []) fun y => .ok (Vl.o (.list y.1), rst x.2 p.slots y.2) else .bad) _
  refine Res.imp (Res.bind (rep' := repV C.K C.Hz σ) (wpb := fun (J : It) (H1 : Hp) (Q : VK) => ∀ D, H1 D = none → ∃ W : Nat → Nat → Hp → Prop, (∃ m, W 0 m (upd H1 D (.lst []))) ∧ ∀ i m H, W i m H →
      (J.stop i H ∧ Q (.ref D) H) ∨ (J.go i H ∧ ∃ Nx : Hp → Prop, (∀ H', Nx H' → ∃ m', m' < m ∧ W (i + 1) m' H') ∧ ∀ x H', J.yld i H x H' → tgB X scope tg x (wipe σ p.slots) H' fun σ2 H2 => wipe σ2 p.slots = wipe σ p.slots ∧ ttB X scope ifs σ2 H2 fun b H3 =>
        if b = true then teB X scope elt σ2 H3 fun y H4 => ∃ acc, H4 D = some (.lst acc) ∧ acc.length < sizeLine ∧ Nx (upd H4 D (.lst (acc ++ [y]))) else Nx H3)) hF (hi g σ H Gz F hF rl) fun ds J g1 H1 Gz1 e1 hF1 rl1 st1 rp1 => ?_) fun Q q => q
  show Res C σ F _ g1 H1 Gz1 (if ds.length ≤ LIM then R.bind (lcF p p.slots (fun g => evC io cf c g) (fun g => R.bind (ev io cf e g) fun y => R.bind y.1.fz fun d => .ok (d, y.2)) ds g1 []) fun y => .ok (Vl.o (.list y.1), rst g1 p.slots y.2) else .bad) _
  split
  · rename_i hlen
    cases hr : lcF p p.slots (fun g => evC io cf c g) (fun g => R.bind (ev io cf e g) fun y => R.bind y.1.fz fun d => .ok (d, y.2)) ds g1 [] with
    | bad => exact trivial
    | exc x => exact absurd hr (lcF_exc _ _ _)
    | ok og =>
      obtain ⟨out, gend⟩ := og
      refine fun Q hQ D hD => lc_turns ok rfl hst hc he rl1 hD rp1 hlen hr fun H2 Gz2 acc rl2 st2 hDa rpa gD noD => ?_
      obtain ⟨rl3, st3⟩ := rl1.back rl2 st2
      refine hQ _ H2 Gz2 rl3 st3 ⟨D, rfl, gD, ⟨acc, hDa, rpa⟩, rl1.al0 D hD, fun z => ?_, hF1 D (.inl hD)⟩
      obtain ⟨_, o, ho⟩ := rl1.noOwn (st3.sh D z)
      rw [hD] at ho
      cases ho
  · exact trivial
theorem ownOf_snd (N : List Str) (l : List Nat) : (ownOf N l).map (·.2) = l := by
  unfold ownOf
  rw [List.map_map]
  conv => rhs; rw [← List.map_id l]
  rfl
theorem pg_blk {scope : Scope} {tg : Expr} : ∀ (s : Shared) (H : Hp) (c : Addr) (cl : List (Str × Addr)) (fp : List Addr), PG (X.blk s H scope (compEnvC scope cl c X.env) fp) tg (tgB X scope tg) := fun s H c cl fp => ⟨fun pins s' σ H' v u Q I r h => (h _ ⟨s, H, c, cl, fp, rfl⟩) pins s' u I r⟩
theorem pt_blk {scope : Scope} {ifs : List Expr} : ∀ (s : Shared) (H : Hp) (c : Addr) (cl : List (Str × Addr)) (fp : List Addr), PTs (X.blk s H scope (compEnvC scope cl c X.env) fp) ifs (ttB X scope ifs) := fun s H c cl fp => ⟨fun pins s' σ H' Q I h => (h _ ⟨s, H, c, cl, fp, rfl⟩) pins s' I⟩
theorem pe_blk {scope : Scope} {elt : Expr} : ∀ (s : Shared) (H : Hp) (c : Addr) (cl : List (Str × Addr)) (fp : List Addr), PE (X.blk s H scope (compEnvC scope cl c X.env) fp) elt (teB X scope elt) := fun s H c cl fp => ⟨fun pins s' σ H' Q I h => (h _ ⟨s, H, c, cl, fp, rfl⟩) pins s' I⟩
theorem se_lc {e : E} {p : Pat} {it : I} {c : O} {elt tg iter : Expr} {ifs : List Expr} {scope : Scope} {pos : Pos} {fc : Str → Bool} (ok : Cok X C k) (hi : SI X C io cf it tg iter) (hb : BlkOk X.N X.env.scope scope (ownOf X.N p.slots))
    (hst : ∀ X', Blk X scope X' → X'.K = C.K ∧ X'.calm = true ∧ X'.N.Nodup ∧ (∀ x, fc x = true → X'.fn x = true) ∧ isP X'.N X'.env.scope fc p tg = true)
    (hc : ∀ X', Blk X scope X' → SC X' C.calm io cf c ifs) (he : ∀ X', Blk X scope X' → SE X' C.calm io cf e elt) (hs : ∀ x, foldedSetIterable iter X.env x = pure x) : SE X C io cf (.lc e p it c) (.ListComp elt [⟨tg, iter, ifs, 0⟩] scope pos) := fun g σ H Gz F hF rl => by
  refine Res.imp (lc_res ok hi hst hc he hF rl) fun Q q => wE.of (pe_lc ok.calm ok.nd PI.w hb pg_blk pt_blk pe_blk hs) ?_
  rw [ownOf_snd]
  exact q
theorem noSet_fold {iter : Expr} {env : Env} (h : noSet iter = true) : ∀ x, foldedSetIterable iter env x = pure x := fun x => by
  cases iter <;> first | rfl | (cases h; done)
theorem blk_cok {X' : Cx} {scope : Scope} (ok : Cok X C k) (h : Blk X scope X') : Cok X' C.calm k := by
  obtain ⟨s, H, c, cl, fp, rfl⟩ := h
  exact ⟨ok.K, ok.calm, ok.nd, ok.room, takes0, ok.bl⟩
end
end Dat

/-! Dat, part B17: calls. -/
namespace Dat
open PySem PySem.Spec PyProof.Rows L2
open PySem.W
/-- what is handed to a def -/
inductive ArgR (K : PySem.W.Frag) (Gz H : Hp) : List Bool → List V → List D → Prop
  | nil : ArgR K Gz H [] [] []
  | frz {io : List Bool} {v : V} {vs : List V} {d : D} {ds : List D} : Rp K Gz v d → ArgR K Gz H io vs ds → ArgR K Gz H (false :: io) (v :: vs) (d :: ds)
  | io {io : List Bool} {a : Addr} {vs : List V} {d : D} {ds : List D} : Gz a = none → OwnAt K Gz H a d → ArgR K Gz H io vs ds → ArgR K Gz H (true :: io) (.ref a :: vs) (d :: ds)
def ioAt : List Bool → List V → List Addr
  | true :: io, .ref a :: vs => a :: ioAt io vs
  | _ :: io, _ :: vs => ioAt io vs
  | _, _ => []
/-- what it is then -/
inductive OutR (K : PySem.W.Frag) (Gz H : Hp) : List Bool → List V → List D → Prop
  | nil : OutR K Gz H [] [] []
  | frz {io : List Bool} {v : V} {vs : List V} {ds : List D} : OutR K Gz H io vs ds → OutR K Gz H (false :: io) (v :: vs) ds
  | io {io : List Bool} {a : Addr} {vs : List V} {d : D} {ds : List D} : OwnAt K Gz H a d → OutR K Gz H io vs ds → OutR K Gz H (true :: io) (.ref a :: vs) (d :: ds)
structure Behind (K : PySem.W.Frag) (Gz H Gz' H' : Hp) (io : List Bool) (vs : List V) (x : Vl × List D) (b : V) : Prop where
  gz : Same Gz Gz'
  sub : Same Gz' H'
  fr : ∀ a o, H a = some o → a ∉ ioAt io vs → H' a = some o
  gr : ∀ a, H a ≠ none → Gz a = none → Gz' a = none
  al : ∀ a, H' a = none → H a = none
  outs : OutR K Gz' H' io vs x.2
  val : match x.1 with
    | .f d => Rp K Gz' b d
    | .o d => ∃ a, b = .ref a ∧ Gz' a = none ∧ OwnAt K Gz' H' a d ∧ H a = none
    | .r _ => False
/-- a def's promise: it does what r says -/
def spF (K : PySem.W.Frag) (ca : Str → Addr) (io : List Bool) (r : List D → R (Vl × List D)) : Sp := fun vs H Q E => ∃ ds Gz, Same Gz H ∧ ArgR K Gz H io vs ds ∧ (ioAt io vs).Nodup ∧ match r ds with
  | .ok x => ∀ b H' Gz', Behind K Gz H Gz' H' io vs x b → Q b H'
  | .exc c => ∀ H', (∀ a o, H a = some o → a ∉ ioAt io vs → H' a = some o) → E (.ref (ca c)) none H'
  | .bad => False
def FnAt (X : Cx) (k : Nat) (ca : Str → Addr) (x : Str) (io : List Bool) (r : List D → R (Vl × List D)) : Prop := ∃ (a : Addr) (fd : FuncData) (ps : List Str), FnOk X.prog X.w X.K X.mg X.base (L2.CX X.prog X.w) k a fd ps (spF X.K ca io r) ∧ X.mg x = some (.ref a) ∧ PySem.W.keepIn X.K (.ref a) = true ∧ Binds X.K fd ps []
section
variable {X : Cx} {C : Cz} {io : Io} {cf : Caller} {k : Nat}
/-- an address that is handed in to be changed: a slot's own, or new -/
def IoSrc (g : G) (σ : L2.St) (Hz : Hp) (F : Addr → Prop) (a : Addr) : Prop := Owned g σ a ∨ (¬ Owned g σ a ∧ Hz a = none ∧ F a)
theorem fz_exc {v : Vl} {c : Str} : v.fz ≠ .exc c := by
  cases v with
  | f d => exact fun h => nomatch h
  | o d =>
    show (if frzOk d = true then R.ok d else .bad) ≠ _
    by_cases h : frzOk d = true
    · rw [if_pos h]; exact fun h => nomatch h
    · rw [if_neg h]; exact fun h => nomatch h
  | r i => exact fun h => nomatch h
theorem handed_exc {g : G} {c : Str} : ∀ {ios : List Bool} {vs : List Vl}, handed g ios vs ≠ .exc c
  | [], [] => fun h => nomatch h
  | false :: io, v :: vs => bind_exc (fun _ => fz_exc) fun _ _ => bind_exc (fun _ => handed_exc) fun _ _ h => nomatch h
  | true :: io, .r i :: vs => by
    unfold handed
    split
    · exact bind_exc (fun _ => handed_exc) fun _ _ h => nomatch h
    · exact bind_exc (fun _ => handed_exc) fun _ _ h => nomatch h
    · exact fun h => nomatch h
  | true :: io, .o d :: vs => bind_exc (fun _ => handed_exc) fun _ _ h => nomatch h
  | true :: io, .f d :: vs => fun h => nomatch h
  | [], v :: vs => fun h => nomatch h
  | b :: io, [] => by cases b <;> exact fun h => nomatch h
theorem backTo_exc {c : Str} : ∀ {ios : List Bool} {vs : List Vl} {ds : List D} {g : G}, backTo ios vs ds g ≠ .exc c
  | [], [], [], g => fun h => nomatch h
  | false :: io, v :: vs, ds, g => backTo_exc (ios := io)
  | true :: io, .r i :: vs, d :: ds, g => bind_exc (fun _ => chg_exc fun _ _ h => nomatch h) fun _ _ => backTo_exc
  | true :: io, .o _ :: vs, d :: ds, g => backTo_exc (ios := io)
  | true :: io, .f _ :: vs, ds, g => by cases ds <;> exact fun h => nomatch h
  | true :: io, .r i :: vs, [], g => fun h => nomatch h
  | true :: io, .o _ :: vs, [], g => fun h => nomatch h
  | [], _ :: _, _, g => fun h => nomatch h
  | [], [], _ :: _, g => fun h => nomatch h
  | b :: io, [], ds, g => by cases b <;> cases ds <;> exact fun h => nomatch h
/-- a value, whatever has been shared since -/
def VRw (K : PySem.W.Frag) (Hz : Hp) (σ : L2.St) (x : Vl) (v : V) (g : G) (F : Addr → Prop) (H Gz : Hp) : Prop := match x with
  | .f d => Rp K Gz v d
  | .o d => ∃ a, v = .ref a ∧ OwnAt K Gz H a d ∧ Hz a = none ∧ ¬ Owned g σ a ∧ F a
  | .r i => σ[i]? = some (some v)
theorem VRep.rw {K : PySem.W.Frag} {Hz : Hp} {σ : L2.St} {x : Vl} {v : V} {g : G} {F : Addr → Prop} {H Gz : Hp} (h : VRep K Hz σ x v g F H Gz) : VRw K Hz σ x v g F H Gz := by
  cases x with
  | f d => exact h
  | o d =>
    obtain ⟨a, h1, h2, h3, h4, h5, h6⟩ := h
    exact ⟨a, h1, h3, h4, h5, h6⟩
  | r i => exact h
theorem VRw.mono {K : PySem.W.Frag} {Hz : Hp} {σ : L2.St} {x : Vl} {v : V} {g : G} {F : Addr → Prop} {H Gz Gz' : Hp} (h : VRw K Hz σ x v g F H Gz) (e : Same Gz Gz') : VRw K Hz σ x v g F H Gz' := by
  cases x with
  | f d => exact Rp.mono e h
  | o d =>
    obtain ⟨a, h1, h3, h4⟩ := h
    exact ⟨a, h1, h3.mono e fun _ z => z, h4⟩
  | r i => exact h
theorem share_any {g0 g : G} {σ : L2.St} {H0 H Gz0 Gz : Hp} {a : Addr} {d : D} (rl : C.Rl g σ H Gz) (st : Stp g0 g σ H0 H Gz0 Gz) (oa : OwnAt C.K Gz H a d) (f : frzOk d = true) (hz : C.Hz a = none) (no : ¬ Owned g σ a) (fs : Fs g0 σ H0 a) :
    ∃ Gz', C.Rl g σ H Gz' ∧ Stp g0 g σ H0 H Gz0 Gz' ∧ Same Gz Gz' ∧ Rp C.K Gz' (.ref a) d := by
  cases hg : Gz a with
  | none =>
    obtain ⟨o, ho, rp⟩ := OwnAt.rp oa f hg
    exact ⟨_, rl.share ho no hz hg, st.share hg fs, same_upd hg, rp⟩
  | some o =>
    refine ⟨Gz, rl, st, Same.refl _, ?_⟩
    have ho := rl.sub a o hg
    cases d with
    | list ds =>
      obtain ⟨vs, x, r⟩ := oa
      rw [ho] at x
      cases x
      exact .lst hg r
    | dict r =>
      obtain ⟨kvs, x, y, _⟩ := oa
      cases r with
      | nil =>
        cases y
        rw [ho] at x
        cases x
        exact .dct hg
      | cons p q => cases f
    | _ => exact False.elim oa
theorem noDup_cons {x : Nat} {r : List Nat} (h : noDup (x :: r) = true) : x ∉ r ∧ noDup r = true := by
  have h : (!(r.contains x) && noDup r) = true := h
  rw [Bool.and_eq_true, Bool.not_eq_true'] at h
  refine ⟨fun z => ?_, h.2⟩
  have : r.contains x = true := List.contains_iff_mem.mpr z
  rw [h.1] at this
  cases this
theorem own_at {g : G} {σ : L2.St} {H Gz : Hp} (rl : C.Rl g σ H Gz) {i : Nat} {b : B} (h : g[i]? = some (some b)) (m : b.mine = true) : ∃ a, σ[i]? = some (some (.ref a)) ∧ Gz a = none ∧ OwnAt C.K Gz H a b.dat := by
  obtain ⟨a, h1, h2, h3, _⟩ := rl.chgAt h m
  exact ⟨a, h1, h3, h2⟩
/-- no new container is handed in to be changed -/
theorem handed_plain {g0 g : G} {σ : L2.St} {H0 H Gz0 : Hp} : ∀ {ios : List Bool} {xs : List Vl} {vs : List V} {ds : List D} {Gz : Hp}, newIo ios xs = false → noDup (refsOf ios xs) = true → C.Rl g σ H Gz → Stp g0 g σ H0 H Gz0 Gz → Paired (fun x v => VRw C.K C.Hz σ x v g (Fs g0 σ H0) H Gz) xs vs → handed g ios xs = .ok ds →
    ∃ Gz', C.Rl g σ H Gz' ∧ Stp g0 g σ H0 H Gz0 Gz' ∧ Same Gz Gz' ∧ (newCount xs = 0 → Gz' = Gz) ∧ ArgR C.K Gz' H ios vs ds ∧ (ioAt ios vs).Nodup ∧ ∀ a ∈ ioAt ios vs, ∃ i ∈ refsOf ios xs, OwnSlot g i ∧ σ[i]? = some (some (.ref a))
  | [], [], vs, ds, Gz, _, _, rl, st, pr, h => by
    cases h
    cases pr
    exact ⟨Gz, rl, st, Same.refl _, fun _ => rfl, .nil, .nil, fun a z => nomatch z⟩
  | false :: io, x :: xs, vs, ds, Gz, hn, hd, rl, st, pr, h => by
    have h : (R.bind x.fz fun d => R.bind (handed g io xs) fun r => .ok (d :: r)) = .ok ds := h
    obtain ⟨d, h1, h⟩ := R.bind_ok h
    obtain ⟨r, h2, h⟩ := R.bind_ok h
    cases h
    have hd' : noDup (refsOf io xs) = true := by cases x <;> exact hd
    have hn' : newIo io xs = false := by cases x <;> exact hn
    cases pr with
    | cons p pr =>
      rename_i v vs
      have key : ∃ Gz1, C.Rl g σ H Gz1 ∧ Stp g0 g σ H0 H Gz0 Gz1 ∧ Same Gz Gz1 ∧ (newCount (x :: xs) = 0 → Gz1 = Gz) ∧ Rp C.K Gz1 v d := by
        cases x with
        | f d' =>
          cases h1
          exact ⟨Gz, rl, st, Same.refl _, fun _ => rfl, p⟩
        | r i => cases h1
        | o d' =>
          have h1 : (if frzOk d' = true then R.ok d' else .bad) = .ok d := h1
          split at h1
          · rename_i f
            cases h1
            obtain ⟨a, rfl, oa, hz, no, fs⟩ := p
            obtain ⟨Gz1, r1, s1, e1, rp⟩ := share_any rl st oa f hz no fs
            exact ⟨Gz1, r1, s1, e1, (fun z => absurd z (Nat.succ_ne_zero _)), rp⟩
          · cases h1
      obtain ⟨Gz1, r1, s1, e1, z1, rp⟩ := key
      obtain ⟨Gz2, r2, s2, e2, z2, ar, nd, src⟩ := handed_plain hn' hd' r1 s1 (Paired.mapP pr fun _ _ z => VRw.mono z e1) h2
      refine ⟨Gz2, r2, s2, e1.trans e2, fun z => ?_, .frz (rp.mono e2) ar, ?_, ?_⟩
      · have : newCount xs = 0 := by cases x <;> first | exact z | (cases z; done)
        rw [z2 this, z1 z]
      · have : ioAt (false :: io) (v :: vs) = ioAt io vs := rfl
        rw [this]
        exact nd
      · intro a ha
        obtain ⟨i, hi, q⟩ := src a ha
        exact ⟨i, by cases x <;> exact hi, q⟩
  | true :: io, .r i :: xs, vs, ds, Gz, hn, hd, rl, st, pr, h => by
    have hd : noDup (i :: refsOf io xs) = true := hd
    obtain ⟨d1, d2⟩ := noDup_cons hd
    have hx : ∃ b r, g[i]? = some (some b) ∧ b.mine = true ∧ handed g io xs = .ok r ∧ ds = b.dat :: r := by
      unfold handed at h
      split at h
      · rename_i d hd
        obtain ⟨r, h2, h⟩ := R.bind_ok h
        cases h
        exact ⟨_, r, hd, rfl, h2, rfl⟩
      · rename_i d hd
        obtain ⟨r, h2, h⟩ := R.bind_ok h
        cases h
        exact ⟨_, r, hd, rfl, h2, rfl⟩
      · cases h
    obtain ⟨b, r, hb, m, h2, rfl⟩ := hx
    cases pr with
    | cons p pr =>
      rename_i v vs
      have p : σ[i]? = some (some v) := p
      have hn' : newIo io xs = false := hn
      obtain ⟨Gz2, r2, s2, e2, z2, ar, nd, src⟩ := handed_plain hn' d2 rl st pr h2
      obtain ⟨a, h1, gn, oa⟩ := own_at r2 hb m
      rw [p] at h1
      cases h1
      refine ⟨Gz2, r2, s2, e2, z2, .io gn oa ar, ?_, fun a' ha => ?_⟩
      · show (a :: ioAt io vs).Nodup
        refine List.nodup_cons.mpr ⟨fun z => ?_, nd⟩
        obtain ⟨j, hj, oj, ej⟩ := src a z
        exact rl.sep i j a (fun e => d1 (e ▸ hj)) (ownSlot_of hb m) oj p ej
      · rcases List.mem_cons.mp ha with rfl | ha
        · exact ⟨i, List.mem_cons_self, ownSlot_of hb m, p⟩
        · obtain ⟨j, hj, q⟩ := src a' ha
          exact ⟨j, List.mem_cons_of_mem _ hj, q⟩
  | true :: io, .o _ :: xs, vs, ds, Gz, hn, hd, rl, st, pr, h => by cases hn
  | true :: io, .f _ :: xs, vs, ds, Gz, hn, hd, rl, st, pr, h => by cases h
  | [], _ :: _, vs, ds, Gz, hn, hd, rl, st, pr, h => by cases h
  | b :: io, [], vs, ds, Gz, hn, hd, rl, st, pr, h => by cases b <;> cases h
theorem count_io : ∀ {ios : List Bool} {xs : List Vl}, newIo ios xs = true → 1 ≤ newCount xs
  | [], [], h => by cases h
  | [], _ :: _, h => by cases h
  | b :: _, [], h => by cases b <;> cases h
  | true :: _, .o _ :: xs, _ => Nat.succ_le_succ (Nat.zero_le _)
  | false :: io, .o _ :: xs, _ => Nat.succ_le_succ (Nat.zero_le _)
  | true :: io, .f _ :: xs, h => count_io (ios := io) (xs := xs) h
  | true :: io, .r _ :: xs, h => count_io (ios := io) (xs := xs) h
  | false :: io, .f _ :: xs, h => count_io (ios := io) (xs := xs) h
  | false :: io, .r _ :: xs, h => count_io (ios := io) (xs := xs) h
theorem io_count {xs : List Vl} (h : newCount xs = 0) : ∀ ios, newIo ios xs = false := fun ios => by
  cases hx : newIo ios xs with
  | false => rfl
  | true =>
    have := count_io hx
    omega
theorem handed_ok {g0 g : G} {σ : L2.St} {H0 H Gz0 : Hp} : ∀ {ios : List Bool} {xs : List Vl} {vs : List V} {ds : List D} {Gz : Hp}, okO ios xs = true → noDup (refsOf ios xs) = true → C.Rl g σ H Gz → Stp g0 g σ H0 H Gz0 Gz → Paired (fun x v => VRep C.K C.Hz σ x v g (Fs g0 σ H0) H Gz) xs vs → handed g ios xs = .ok ds →
    ∃ Gz', C.Rl g σ H Gz' ∧ Stp g0 g σ H0 H Gz0 Gz' ∧ Same Gz Gz' ∧ ArgR C.K Gz' H ios vs ds ∧ (ioAt ios vs).Nodup ∧ ∀ a ∈ ioAt ios vs, (∃ i ∈ refsOf ios xs, OwnSlot g i ∧ σ[i]? = some (some (.ref a))) ∨ (¬ Owned g σ a ∧ C.Hz a = none ∧ Fs g0 σ H0 a) := by
  intro ios xs vs ds Gz ho hd rl st pr h
  have ho : (!newIo ios xs || decide (newCount xs ≤ 1)) = true := ho
  cases hn : newIo ios xs with
  | false =>
    obtain ⟨Gz', r, s, e, _, ar, nd, src⟩ := handed_plain hn hd rl st (Paired.mapP pr fun _ _ z => z.rw) h
    exact ⟨Gz', r, s, e, ar, nd, fun a ha => .inl (src a ha)⟩
  | true =>
    rw [hn] at ho
    have hc : newCount xs ≤ 1 := by simpa using ho
    -- nothing is shared
    have key : ∀ {ios : List Bool} {xs : List Vl} {vs : List V} {ds : List D}, newIo ios xs = true → newCount xs ≤ 1 → noDup (refsOf ios xs) = true → Paired (fun x v => VRep C.K C.Hz σ x v g (Fs g0 σ H0) H Gz) xs vs → handed g ios xs = .ok ds →
        ArgR C.K Gz H ios vs ds ∧ (ioAt ios vs).Nodup ∧ ∀ a ∈ ioAt ios vs, (∃ i ∈ refsOf ios xs, OwnSlot g i ∧ σ[i]? = some (some (.ref a))) ∨ (¬ Owned g σ a ∧ C.Hz a = none ∧ Fs g0 σ H0 a) := by
      intro ios
      induction ios with
      | nil =>
        intro xs vs ds h1
        cases xs <;> cases h1
      | cons b io ih =>
        intro xs vs ds h1 h2 h3 pr h
        cases xs with
        | nil => cases b <;> cases h1
        | cons x xs =>
          cases pr with
          | cons p pr =>
            rename_i v vs
            cases b with
            | false =>
              have h : (R.bind x.fz fun d => R.bind (handed g io xs) fun r => .ok (d :: r)) = .ok ds := h
              obtain ⟨d, h4, h⟩ := R.bind_ok h
              obtain ⟨r, h5, h⟩ := R.bind_ok h
              cases h
              cases x with
              | f d' =>
                cases h4
                obtain ⟨ar, nd, src⟩ := ih h1 h2 h3 pr h5
                exact ⟨.frz p ar, nd, src⟩
              | r i => cases h4
              | o d' =>
                have c1 : newIo io xs = true := h1
                have := count_io c1
                have h2 : newCount xs + 1 ≤ 1 := h2
                omega
            | true =>
              cases x with
              | f d' => cases h
              | r i =>
                have hd : noDup (i :: refsOf io xs) = true := h3
                obtain ⟨d1, d2⟩ := noDup_cons hd
                have hx : ∃ b r, g[i]? = some (some b) ∧ b.mine = true ∧ handed g io xs = .ok r ∧ ds = b.dat :: r := by
                  unfold handed at h
                  split at h
                  · rename_i d hd
                    obtain ⟨r, h2, h⟩ := R.bind_ok h
                    cases h
                    exact ⟨_, r, hd, rfl, h2, rfl⟩
                  · rename_i d hd
                    obtain ⟨r, h2, h⟩ := R.bind_ok h
                    cases h
                    exact ⟨_, r, hd, rfl, h2, rfl⟩
                  · cases h
                obtain ⟨b, r, hb, m, h5, rfl⟩ := hx
                have p : σ[i]? = some (some v) := p
                obtain ⟨ar, nd, src⟩ := ih h1 h2 d2 pr h5
                obtain ⟨a, e1, gn, oa⟩ := own_at rl hb m
                rw [p] at e1
                cases e1
                refine ⟨.io gn oa ar, ?_, fun a' ha => ?_⟩
                · show (a :: ioAt io vs).Nodup
                  refine List.nodup_cons.mpr ⟨fun z => ?_, nd⟩
                  rcases src a z with ⟨j, hj, oj, ej⟩ | ⟨no, _⟩
                  · exact rl.sep i j a (fun e => d1 (e ▸ hj)) (ownSlot_of hb m) oj p ej
                  · exact no ⟨i, ownSlot_of hb m, p⟩
                · rcases List.mem_cons.mp ha with rfl | ha
                  · exact .inl ⟨i, List.mem_cons_self, ownSlot_of hb m, p⟩
                  · rcases src a' ha with ⟨j, hj, q⟩ | q
                    · exact .inl ⟨j, List.mem_cons_of_mem _ hj, q⟩
                    · exact .inr q
              | o d' =>
                have h2 : newCount xs + 1 ≤ 1 := h2
                have z0 : newCount xs = 0 := by omega
                have h : (R.bind (handed g io xs) fun r => .ok (d' :: r)) = .ok ds := h
                obtain ⟨r, h5, h⟩ := R.bind_ok h
                cases h
                obtain ⟨a, rfl, gn, oa, hz, no, fs⟩ := p
                obtain ⟨Gz', r1, s1, e1, z1, ar, nd, src⟩ := handed_plain (g0 := g0) (H0 := H0) (Gz0 := Gz0) (io_count z0 io) h3 rl st (Paired.mapP pr fun _ _ z => z.rw) h5
                have := z1 z0
                subst this
                refine ⟨.io gn oa ar, ?_, fun a' ha => ?_⟩
                · show (a :: ioAt io vs).Nodup
                  refine List.nodup_cons.mpr ⟨fun z => ?_, nd⟩
                  obtain ⟨j, hj, oj, ej⟩ := src a z
                  exact no ⟨j, oj, ej⟩
                · rcases List.mem_cons.mp ha with rfl | ha
                  · exact .inr ⟨no, hz, fs⟩
                  · exact .inl (src a' ha)
    obtain ⟨ar, nd, src⟩ := key hn hc hd pr h
    exact ⟨Gz, rl, st, Same.refl _, ar, nd, src⟩
/-- what comes back -/
theorem backTo_ok {K : PySem.W.Frag} {σ : L2.St} {Gz H : Hp} {P : Vl → V → Prop} (hP : ∀ i v, P (.r i) v → σ[i]? = some (some v)) : ∀ {ios : List Bool} {xs : List Vl} {vs : List V} {outs : List D} {g g' : G}, Paired P xs vs → OutR K Gz H ios vs outs → backTo ios xs outs g = .ok g' →
    g'.length = g.length ∧ ∀ (j : Nat) (b' : B), g'[j]? = some (some b') → ∃ b, g[j]? = some (some b) ∧ ((b' = b ∧ j ∉ refsOf ios xs) ∨ (j ∈ refsOf ios xs ∧ b.mine = true ∧ ∃ e a, b' = b.put e ∧ σ[j]? = some (some (.ref a)) ∧ OwnAt K Gz H a e))
  | [], [], vs, outs, g, g', pr, ou, h => by
    cases ou
    cases h
    exact ⟨rfl, fun j b' hb => ⟨b', hb, .inl ⟨rfl, fun z => nomatch z⟩⟩⟩
  | false :: io, x :: xs, vs, outs, g, g', pr, ou, h => by
    cases pr with
    | cons p pr =>
      cases ou with
      | frz ou =>
        have h : backTo io xs outs g = .ok g' := h
        have e : refsOf (false :: io) (x :: xs) = refsOf io xs := by cases x <;> rfl
        rw [e]
        exact backTo_ok hP pr ou h
  | true :: io, .o _ :: xs, vs, outs, g, g', pr, ou, h => by
    cases pr with
    | cons p pr =>
      cases ou with
      | io oa ou =>
        rename_i d ds
        have h : backTo io xs ds g = .ok g' := h
        have key := backTo_ok hP (ios := io) (xs := xs) pr ou h
        exact key
  | true :: io, .r i :: xs, vs, outs, g, g', pr, ou, h => by
    cases pr with
    | cons p pr =>
      cases ou with
      | io oa ou =>
        rename_i a vs d ds
        have h : (R.bind (chg g i fun _ => .ok d) fun g => backTo io xs ds g) = .ok g' := h
        obtain ⟨g1, h1, h⟩ := R.bind_ok h
        obtain ⟨b, z, hb, m, hz, rfl⟩ := chg_ok h1
        cases hz
        obtain ⟨l, k⟩ := backTo_ok hP pr ou h
        refine ⟨by rw [l, List.length_set], fun j b' hj => ?_⟩
        obtain ⟨b1, hb1, q⟩ := k j b' hj
        rcases set_get hb1 with ⟨rfl, e⟩ | ⟨n, hb1⟩
        · cases e
          refine ⟨b, hb, .inr ⟨List.mem_cons_self, m, ?_⟩⟩
          rcases q with ⟨rfl, _⟩ | ⟨_, _, e, a', rfl, h2, h3⟩
          · exact ⟨d, _, rfl, hP _ _ p, oa⟩
          · refine ⟨e, a', ?_, h2, h3⟩
            cases b <;> rfl
        · refine ⟨b1, hb1, ?_⟩
          rcases q with ⟨e, nj⟩ | ⟨hj', q⟩
          · refine .inl ⟨e, fun z => ?_⟩
            rcases List.mem_cons.mp z with z | z
            · exact n z.symm
            · exact nj z
          · exact .inr ⟨List.mem_cons_of_mem _ hj', q⟩
  | true :: io, .f _ :: xs, vs, outs, g, g', pr, ou, h => by
    cases pr with
    | cons p pr =>
      cases ou with
      | io oa ou => cases h
  | [], _ :: _, vs, outs, g, g', pr, ou, h => by cases h
  | b :: io, [], vs, outs, g, g', pr, ou, h => by
    cases pr
    cases ou
/-- x(a, ..) -/
theorem se_call {f : Nat} {a : A} {e : Expr} {es : List Expr} {x : Str} {p pos : Pos} (ok : Cok X C k) (hf : FnAt X k C.ca x (io f) (cf f)) (hg : glB X.env.scope x = true) (hx : (x == ("__debug__" : Str)) = false) (hs : noStar e = true) (hes : (PySem.backTo pos (starEach es X.env)).any (·.1) = false) (ha : SA X C io cf a (e :: es)) :
    SE X C io cf (.call f a) (.Call (.Name x p) (e :: es) [] pos) := fun g σ H Gz F hF rl => by
  obtain ⟨fa, fd, ps, fo, mx, kp, bn⟩ := hf
  have fo : FnOk X.prog X.w X.K X.mg X.base (L2.CX X.prog X.w) k fa fd ps (spF C.K C.ca (io f) (cf f)) := by rw [← ok.K]; exact fo
  have imp : ∀ Q, (wA X (e :: es) σ H fun vs H1 => spF C.K C.ca (io f) (cf f) vs H1 Q (WE C.W σ)) → wE X (.Call (.Name x p) (e :: es) [] pos) σ H Q := fun Q q => wE.of (pe_callS (pos := pos) fo ok.room (gl_of hg) mx kp bn (passAt ok.tk) PA.w hx (starEach_no hs _) hes) q
  show Res C σ F _ g H Gz (R.bind (evA io cf a g) fun x => if noDup (refsOf (io f) x.1) = true ∧ okO (io f) x.1 = true then R.bind (handed x.2 (io f) x.1) fun ds => R.bind (cf f ds) fun y => R.bind (backTo (io f) x.1 y.2 x.2) fun g => .ok (y.1, g) else .bad) _
  have hA := ha g σ H Gz (Fs g σ H) fs_refl rl
  cases hr : evA io cf a g with
  | bad => exact trivial
  | exc c =>
    rw [hr] at hA
    exact fun Q hx => imp Q (hA _ hx)
  | ok xg =>
    obtain ⟨xs, g1⟩ := xg
    rw [hr] at hA
    show Res C σ F _ g H Gz (if noDup (refsOf (io f) xs) = true ∧ okO (io f) xs = true then R.bind (handed g1 (io f) xs) fun ds => R.bind (cf f ds) fun y => R.bind (backTo (io f) xs y.2 g1) fun g => .ok (y.1, g) else .bad) _
    split
    · rename_i hc
      cases hh : handed g1 (io f) xs with
      | bad => exact trivial
      | exc c => exact absurd hh handed_exc
      | ok ds =>
        show Res C σ F _ g H Gz (R.bind (cf f ds) fun y => R.bind (backTo (io f) xs y.2 g1) fun g => .ok (y.1, g)) _
        -- what holds at the call
        have pre : ∀ vs H1 Gz1, C.Rl g1 σ H1 Gz1 → Stp g g1 σ H H1 Gz Gz1 → Paired (fun x v => VRep C.K C.Hz σ x v g1 (Fs g σ H) H1 Gz1) xs vs → ∃ Gz', C.Rl g1 σ H1 Gz' ∧ Stp g g1 σ H H1 Gz Gz' ∧ ArgR C.K Gz' H1 (io f) vs ds ∧ (ioAt (io f) vs).Nodup ∧
            (∀ a ∈ ioAt (io f) vs, (∃ i ∈ refsOf (io f) xs, OwnSlot g1 i ∧ σ[i]? = some (some (.ref a))) ∨ (¬ Owned g1 σ a ∧ C.Hz a = none ∧ Fs g σ H a)) ∧ (∀ a o, C.Hz a = some o → (∀ i, C.ia i ≠ some a) → H1 a = some o ∧ a ∉ ioAt (io f) vs) := fun vs H1 Gz1 rl1 st1 pr => by
          obtain ⟨Gz', r, s, _, ar, nd, src⟩ := handed_ok hc.2 hc.1 rl1 st1 pr hh
          refine ⟨Gz', r, s, ar, nd, src, fun a o h1 h2 => ⟨r.keep a o h1 h2, fun z => ?_⟩⟩
          rcases src a z with ⟨i, _, os, e⟩ | ⟨_, hz, _⟩
          · rcases os with ⟨d, os⟩ | ⟨d, os⟩
            · obtain ⟨a', e', _, _, hz⟩ := r.own i d os
              rw [e] at e'; cases e'
              rw [h1] at hz; cases hz
            · obtain ⟨a', hi, e', _⟩ := r.io i d os
              rw [e] at e'; cases e'
              exact h2 i hi
          · rw [h1] at hz; cases hz
        cases hcf : cf f ds with
        | bad => exact trivial
        | exc c =>
          refine fun Q hx => imp Q (hA _ fun vs H1 Gz1 rl1 st1 pr => ?_)
          have pr := pr.1
          obtain ⟨Gz', r, s, ar, nd, src, kp⟩ := pre vs H1 Gz1 rl1 st1 pr
          refine ⟨ds, Gz', r.sub, ar, nd, ?_⟩
          rw [hcf]
          exact fun H' fr => hx H' fun a o h1 h2 => fr a o (kp a o h1 h2).1 (kp a o h1 h2).2
        | ok y =>
          show Res C σ F _ g H Gz (R.bind (backTo (io f) xs y.2 g1) fun g => .ok (y.1, g)) _
          cases hb : backTo (io f) xs y.2 g1 with
          | bad => exact trivial
          | exc c => exact absurd hb backTo_exc
          | ok g2 =>
            refine fun Q hQ => imp Q (hA _ fun vs H1 Gz1 rl1 st1 pr => ?_)
            have pr := pr.1
            obtain ⟨Gz', r, s, ar, nd, src, kp⟩ := pre vs H1 Gz1 rl1 st1 pr
            refine ⟨ds, Gz', r.sub, ar, nd, ?_⟩
            rw [hcf]
            intro b H' Gz2 bh
            obtain ⟨l2, k2⟩ := backTo_ok (P := fun x v => VRep C.K C.Hz σ x v g1 (Fs g σ H) H1 Gz1) (fun i v h => h) pr bh.outs hb
            have osl : ∀ j, OwnSlot g2 j → OwnSlot g1 j := fun j h => by
              rcases h with ⟨d, h⟩ | ⟨d, h⟩
              · obtain ⟨b0, h0, q⟩ := k2 j _ h
                rcases q with ⟨e, _⟩ | ⟨_, m, _⟩
                · subst e; exact .inl ⟨d, h0⟩
                · exact ownSlot_of h0 m
              · obtain ⟨b0, h0, q⟩ := k2 j _ h
                rcases q with ⟨e, _⟩ | ⟨_, m, _⟩
                · subst e; exact .inr ⟨d, h0⟩
                · exact ownSlot_of h0 m
            -- a slot that was not handed in
            have other : ∀ j a, OwnSlot g1 j → j ∉ refsOf (io f) xs → σ[j]? = some (some (.ref a)) → a ∉ ioAt (io f) vs := fun j a oj nj ej z => by
              rcases src a z with ⟨i, hi, oi, ei⟩ | ⟨no, _⟩
              · exact r.sep j i a (fun e => nj (e ▸ hi)) oj oi ej ei
              · exact no ⟨j, oj, ej⟩
            have gn2 : ∀ j a, OwnSlot g1 j → σ[j]? = some (some (.ref a)) → Gz2 a = none := fun j a oj ej => by
              obtain ⟨gn, o, ho⟩ := r.noOwn ⟨j, oj, ej⟩
              exact bh.gr a (by rw [ho]; exact Option.some_ne_none o) gn
            have rl2 : C.Rl g2 σ H' Gz2 := by
              refine ⟨l2.trans r.len, bh.sub, fun j d h => ?_, fun j d h => ?_, fun j d h => ?_, fun i j a n h1 h2 => r.sep i j a n (osl i h1) (osl j h2), fun a o h1 h2 => bh.fr a o (kp a o h1 h2).1 (kp a o h1 h2).2, r.gz0.trans bh.gz, fun a h1 h2 => bh.gr a (fun z => h1 (r.al0 a z)) (r.gr0 a h1 h2), fun a h => r.al0 a (bh.al a h)⟩
              · obtain ⟨b0, h0, q⟩ := k2 j _ h
                rcases q with ⟨e, _⟩ | ⟨_, m, e, a, eb, _⟩
                · subst e
                  obtain ⟨v, h3, h4⟩ := r.frz j d h0
                  exact ⟨v, h3, h4.mono bh.gz⟩
                · cases b0 <;> first | (cases m; done) | (cases eb; done)
              · obtain ⟨b0, h0, q⟩ := k2 j _ h
                rcases q with ⟨e, nj⟩ | ⟨_, m, e, a, eb, ea, oa⟩
                · subst e
                  obtain ⟨a, h3, h4, h5, h6⟩ := r.own j d h0
                  exact ⟨a, h3, gn2 j a (.inl ⟨d, h0⟩) h3, h5.mono bh.gz fun o z => bh.fr a o z (other j a (.inl ⟨d, h0⟩) nj h3), h6⟩
                · cases b0 with
                  | frz d0 => cases m
                  | io d0 => cases eb
                  | own d0 =>
                    cases eb
                    obtain ⟨a', h3, h4, h5, h6⟩ := r.own j d0 h0
                    rw [ea] at h3; cases h3
                    exact ⟨a, ea, gn2 j a (.inl ⟨d0, h0⟩) ea, oa, h6⟩
              · obtain ⟨b0, h0, q⟩ := k2 j _ h
                rcases q with ⟨e, nj⟩ | ⟨_, m, e, a, eb, ea, oa⟩
                · subst e
                  obtain ⟨a, h2, h3, h4, h5⟩ := r.io j d h0
                  exact ⟨a, h2, h3, gn2 j a (.inr ⟨d, h0⟩) h3, h5.mono bh.gz fun o z => bh.fr a o z (other j a (.inr ⟨d, h0⟩) nj h3)⟩
                · cases b0 with
                  | frz d0 => cases m
                  | own d0 => cases eb
                  | io d0 =>
                    cases eb
                    obtain ⟨a', h2, h3, h4, h5⟩ := r.io j d0 h0
                    rw [ea] at h3; cases h3
                    exact ⟨a, h2, ea, gn2 j a (.inr ⟨d0, h0⟩) ea, oa⟩
            have ownB : ∀ a, Owned g2 σ a → Owned g σ a := fun a ⟨j, h1, h2⟩ => s.sh a ⟨j, osl j h1, h2⟩
            have st2 : Stp g g2 σ H H' Gz Gz2 := by
              refine ⟨s.gz.trans bh.gz, fun a o h n => bh.fr a o (s.fr a o h n) fun z => ?_, fun a h z n => bh.gr a (fun q => h (s.al a q)) (s.gr a h z n), ownB, fun a h => s.al a (bh.al a h)⟩
              rcases src a z with ⟨i, _, oi, ei⟩ | ⟨_, _, fs⟩
              · exact n (s.sh a ⟨i, oi, ei⟩)
              · rcases fs with fs | fs
                · rw [h] at fs; cases fs
                · exact n fs
            refine hQ b H' Gz2 rl2 st2 ?_
            have hv := bh.val
            show VRep C.K C.Hz σ y.1 b g2 F H' Gz2
            cases hy : y.1 with
            | f d => rw [hy] at hv; exact hv
            | r i => rw [hy] at hv; exact hv.elim
            | o d =>
              rw [hy] at hv
              obtain ⟨a, rfl, gn, oa, hn⟩ := hv
              refine ⟨a, rfl, gn, oa, r.al0 a hn, fun ⟨j, h1, h2⟩ => ?_, hF a (.inl (s.al a hn))⟩
              obtain ⟨_, o, ho⟩ := r.noOwn ⟨j, osl j h1, h2⟩
              rw [hn] at ho
              cases ho
    · exact trivial
end
end Dat

/-! Dat, part B18: statements. -/
namespace Dat
open PySem PySem.Spec PyProof.Rows L2
open PySem.W
/-- what a def gives back -/
def RetR (C : Cz) (v : Vl) (b : V) (H Gz : Hp) : Prop := match v with
  | .f d => Rp C.K Gz b d
  | .o d => ∃ a, b = .ref a ∧ Gz a = none ∧ OwnAt C.K Gz H a d ∧ C.Hz a = none
  | .r _ => False
def EndsOk (C : Cz) (fl : Fl) (Dn : Ends) : Prop := match fl with
  | .nx g => ∀ σ H Gz, C.Rl g σ H Gz → Dn.nx σ H
  | .rt v g => ∀ b σ H Gz, C.Rl g σ H Gz → RetR C v b H Gz → Dn.rt b H
def ResS (C : Cz) (r : R Fl) (wp : Ends → Prop) : Prop := match r with
  | .ok fl => ∀ Dn, EndsOk C fl Dn → wp Dn
  | .exc c => ∀ Dn, (∀ σ H, C.Kept H → C.W (.ref (C.ca c)) none σ H) → wp Dn
  | .bad => True
def SS (X : Cx) (C : Cz) (io : Io) (cf : Caller) (s : S) (st : List Stmt) : Prop := ∀ g σ H Gz, C.Rl g σ H Gz → ResS C (exec io cf s g) fun Dn => wSs X st Dn σ H
def S1 (X : Cx) (C : Cz) (io : Io) (cf : Caller) (s : S) (st : Stmt) : Prop := ∀ g σ H Gz, C.Rl g σ H Gz → ResS C (exec io cf s g) fun Dn => wS X st Dn σ H
section
variable {X : Cx} {C : Cz} {io : Io} {cf : Caller} {k : Nat}
theorem ResS.imp {r : R Fl} {wp wp' : Ends → Prop} (h : ResS C r wp) (i : ∀ Dn, wp Dn → wp' Dn) : ResS C r wp' := by
  cases r with
  | bad => exact trivial
  | exc c => exact fun Dn hx => i Dn (h Dn hx)
  | ok x => exact fun Dn hx => i Dn (h Dn hx)
/-- an expression, then what is done with it -/
theorem ResS.bind {α β : Type} {σ : L2.St} {F : Addr → Prop} {rep : Rep α β} {g : G} {H Gz : Hp} {r : R (α × G)} {kk : α × G → R Fl} {wpa : (β → Hp → Prop) → Prop} {wpb : β → Hp → Ends → Prop} (h : Res C σ F rep g H Gz r wpa)
    (hk : ∀ a b g1 H1 Gz1, r = .ok (a, g1) → C.Rl g1 σ H1 Gz1 → Stp g g1 σ H H1 Gz Gz1 → rep.r a b g1 F H1 Gz1 → ResS C (kk (a, g1)) (wpb b H1)) : ResS C (R.bind r kk) fun Dn => wpa fun b H1 => wpb b H1 Dn := by
  cases hr : r with
  | bad => exact trivial
  | exc c =>
    rw [hr] at h
    exact fun Dn hx => h _ fun H' kp => hx σ H' kp
  | ok x =>
    obtain ⟨a, g1⟩ := x
    rw [hr] at h
    show ResS C (kk (a, g1)) _
    cases hk1 : kk (a, g1) with
    | bad => exact trivial
    | exc c =>
      refine fun Dn hx => h _ fun b H' Gz' rl st rp => ?_
      have q := hk a b g1 H' Gz' hr rl st rp
      rw [hk1] at q
      exact q Dn hx
    | ok y =>
      refine fun Dn hx => h _ fun b H' Gz' rl st rp => ?_
      have q := hk a b g1 H' Gz' hr rl st rp
      rw [hk1] at q
      exact q Dn hx
theorem ResS.data {ε : Type} {r : R ε} {kk : ε → R Fl} {wp : Ends → Prop} (hx : ∀ c, r ≠ .exc c) (hk : ∀ d, r = .ok d → ResS C (kk d) wp) : ResS C (R.bind r kk) wp := by
  cases hr : r with
  | bad => exact trivial
  | exc c => exact absurd hr (hx c)
  | ok d => exact hk d hr
/-! ### blocks -/
theorem ss_nil : SS X C io cf .skip [] := fun g σ H Gz rl Dn hD => wSs.of pss_nil (hD σ H Gz rl)
theorem s1_pass {pos : Pos} : S1 X C io cf .skip (.Pass pos) := fun g σ H Gz rl Dn hD => wS.of ps_pass (hD σ H Gz rl)
theorem ss_one {s : S} {st : Stmt} (h : S1 X C io cf s st) : SS X C io cf s [st] := fun g σ H Gz rl => (h g σ H Gz rl).imp fun Dn q => wSs.of (pss_one PS.w) q
theorem ss_seq {s t : S} {st : Stmt} {sts : List Stmt} (h1 : S1 X C io cf s st) (h2 : SS X C io cf t sts) : SS X C io cf (.seq s t) (st :: sts) := fun g σ H Gz rl => by
  show ResS C (R.bind (exec io cf s g) fun x => match x with
    | .nx g => exec io cf t g
    | .rt v g => .ok (.rt v g)) _
  have q1 := h1 g σ H Gz rl
  have imp : ∀ Dn, wS X st { Dn with nx := fun σ' H' => wSs X sts Dn σ' H' } σ H → wSs X (st :: sts) Dn σ H := fun Dn q => wSs.of (pss_cons PS.w PSs.w) q
  cases hr : exec io cf s g with
  | bad => exact trivial
  | exc c =>
    rw [hr] at q1
    exact fun Dn hx => imp Dn (q1 _ hx)
  | ok fl =>
    rw [hr] at q1
    cases fl with
    | rt v g1 => exact fun Dn hx => imp Dn (q1 _ hx)
    | nx g1 =>
      show ResS C (exec io cf t g1) _
      cases hr2 : exec io cf t g1 with
      | bad => exact trivial
      | exc c =>
        refine fun Dn hx => imp Dn (q1 _ fun σ' H' Gz' rl' => ?_)
        have q2 := h2 g1 σ' H' Gz' rl'
        rw [hr2] at q2
        exact q2 Dn hx
      | ok fl2 =>
        refine fun Dn hx => imp Dn (q1 _ fun σ' H' Gz' rl' => ?_)
        have q2 := h2 g1 σ' H' Gz' rl'
        rw [hr2] at q2
        exact q2 Dn hx
/-! ### return, raise, if -/
theorem s1_ret {e : E} {ex : Expr} {pos : Pos} (he : SE X C io cf e ex) : S1 X C io cf (.ret e) (.Return (some ex) pos) := fun g σ H Gz rl => by
  show ResS C (R.bind (ev io cf e g) fun x => match x.1 with
    | .r _ => .bad
    | v => .ok (.rt v x.2)) _
  refine ResS.imp (ResS.bind (wpb := fun (b : V) (H1 : Hp) (Dn : Ends) => Dn.rt b H1) (he g σ H Gz _ fs_refl rl) fun v b g1 H1 Gz1 e1 rl1 st1 rp1 => ?_) fun Dn q => wS.of (ps_ret PE.w) q
  cases v with
  | r i => exact trivial
  | f d => exact fun Dn hD => hD b σ H1 Gz1 rl1 rp1
  | o d =>
    obtain ⟨a, rfl, gn, oa, hz, _⟩ := rp1
    exact fun Dn hD => hD _ σ H1 Gz1 rl1 ⟨a, rfl, gn, oa, hz⟩
/-- an exception class of the program's own -/
structure ExAt (X : Cx) (ca : Str → Addr) (x : Str) : Prop where
  inn : PySem.W.excIn X.K (ca x) [.type "ValueError", .type "Exception", .type "BaseException", .type "object"] "ValueError.__new__" = true
  mg : X.mg x = some (.ref (ca x))
  kp : PySem.W.keepIn X.K (.ref (ca x)) = true
  rs : Raises X (.ref (ca x))
theorem s1_rse {c m : Str} {p p2 p3 pos : Pos} {j : Nat} (ok : Cok X C k) (hx : ExAt X C.ca c) (hg : glB X.env.scope c = true) (hd : (c == ("__debug__" : Str)) = false) : S1 X C io cf (.rse c m) (.Raise (some (.Call (.Name c p) [.Constant (.str m) j p2] [] p3)) none pos) := fun g σ H Gz rl Dn hx' => by
  refine wS.of (ps_raise ok.calm ok.tk (pmk_own PySem.F.excBase_ValueError hx.inn hx.mg hx.kp hx.rs (gl_of hg) hd)) ?_
  exact hx' σ H fun a o h1 h2 => rl.keep a o h1 h2
theorem s1_ite {c : E} {s t : S} {cx : Expr} {a b : List Stmt} {pos : Pos} (hc : STst X C io cf c cx) (hs : SS X C io cf s a) (ht : SS X C io cf t b) : S1 X C io cf (.ite c s t) (.If cx a b pos) := fun g σ H Gz rl => by
  show ResS C (R.bind (tst io cf c g) fun x => match x.1 with
    | true => exec io cf s x.2
    | false => exec io cf t x.2) _
  refine ResS.imp (ResS.bind (wpb := fun (d : Bool) (H1 : Hp) (Dn : Ends) => if d = true then wSs X a Dn σ H1 else wSs X b Dn σ H1) (hc g σ H Gz _ fs_refl rl) fun d d' g1 H1 Gz1 e1 rl1 st1 rp1 => ?_) fun Dn q => wS.of (ps_if PT.w PSs.w PSs.w) q
  have rp1 : d = d' := rp1
  subst rp1
  cases d with
  | true => exact (hs g1 σ H1 Gz1 rl1).imp fun Dn q => by rw [if_pos rfl]; exact q
  | false => exact (ht g1 σ H1 Gz1 rl1).imp fun Dn q => by rw [if_neg (by simp)]; exact q
theorem s1_ex {e : E} {ex : Expr} {pos : Pos} (he : SE X C io cf e ex) (hs : swapsWith ex none pos.line X.env = pure false) : S1 X C io cf (.ex e) (.Expr ex pos) := fun g σ H Gz rl => by
  show ResS C (R.bind (ev io cf e g) fun x => .ok (.nx x.2)) _
  refine ResS.imp (ResS.bind (wpb := fun (b : V) (H1 : Hp) (Dn : Ends) => Dn.nx σ H1) (he g σ H Gz _ fs_refl rl) fun v b g1 H1 Gz1 e1 rl1 st1 rp1 => ?_) fun Dn q => wS.of (ps_expr PE.w hs) q
  exact fun Dn hD => hD σ H1 Gz1 rl1
/-! ### storing -/
theorem Rel.put {g : G} {σ : L2.St} {H Gz : Hp} (rl : C.Rl g σ H Gz) {i : Nat} {x : Vl} {v : V} {g' : G} {F : Addr → Prop} (h : Dat.put g i x = .ok g') (rp : VRep C.K C.Hz σ x v g F H Gz) : C.Rl g' (σ.set i (some v)) H Gz := by
  have hl := put_lt h
  cases x with
  | f d =>
    have e := put_f h
    subst e
    exact rl.putF hl rp
  | o d =>
    have e := put_o h
    subst e
    obtain ⟨a, rfl, gn, oa, hz, no, _⟩ := rp
    exact rl.putO hl gn oa hz no
  | r j => exact absurd h put_r
theorem s1_set {i : Nat} {e : E} {ex : Expr} {x : Str} {px pos : Pos} {fc : Str → Bool} (ok : Cok X C k) (hfc : ∀ x, fc x = true → X.fn x = true) (hi : X.N[i]? = some x) (hx : locB X.env.scope fc x = true) (he : SE X C io cf e ex) (hs : swapsWith ex (some (.Name x px)) pos.line X.env = pure false) :
    S1 X C io cf (.asg (.v i) e) (.Assign [.Name x px] ex pos) := fun g σ H Gz rl => by
  show ResS C (R.bind (ev io cf e g) fun x => R.bind (put x.2 i x.1) fun g => .ok (.nx g)) _
  obtain ⟨h1, h2⟩ := loc_of hx
  refine ResS.imp (ResS.bind (wpb := fun (b : V) (H1 : Hp) (Dn : Ends) => Dn.nx (σ.set i (some b)) H1) (he g σ H Gz _ fs_refl rl) fun v b g1 H1 Gz1 e1 rl1 st1 rp1 => ?_) fun Dn q => wS.of (ps_set ok.nd hi h1 PE.w hs (h2.imp (hfc x) id)) q
  exact ResS.data (fun _ => put_exc) fun g2 h => fun Dn hD => hD _ H1 Gz1 (rl1.put h rp1)
mutual
theorem stP_exc : ∀ {p : Pat} {d : D} {g : G} {c : Str}, stP p d g ≠ .exc c
  | .v i, d, g, c => by unfold stP; exact put_exc
  | .t0, .none, g, c => fun h => by simp [stP] at h
  | .t0, .bool _, g, c => fun h => by simp [stP] at h
  | .t0, .int _, g, c => fun h => by simp [stP] at h
  | .t0, .str _, g, c => fun h => by simp [stP] at h
  | .t0, .dict _, g, c => fun h => by simp [stP] at h
  | .t0, .list [], g, c => fun h => by simp [stP] at h
  | .t0, .list (_ :: _), g, c => fun h => by simp [stP] at h
  | .t0, .tuple [], g, c => fun h => by simp [stP] at h
  | .t0, .tuple (_ :: _), g, c => fun h => by simp [stP] at h
  | .tc p q, .none, g, c => fun h => by simp [stP] at h
  | .tc p q, .bool _, g, c => fun h => by simp [stP] at h
  | .tc p q, .int _, g, c => fun h => by simp [stP] at h
  | .tc p q, .str _, g, c => fun h => by simp [stP] at h
  | .tc p q, .dict _, g, c => fun h => by simp [stP] at h
  | .tc p q, .list [], g, c => fun h => by simp [stP] at h
  | .tc p q, .tuple [], g, c => fun h => by simp [stP] at h
  | .tc p q, .list (x :: xs), g, c => by unfold stP; exact bind_exc (fun c' => stP_exc) fun _ c' => stQ_exc
  | .tc p q, .tuple (x :: xs), g, c => by unfold stP; exact bind_exc (fun c' => stP_exc) fun _ c' => stQ_exc
theorem stQ_exc : ∀ {p : Pat} {ds : List D} {g : G} {c : Str}, stQ p ds g ≠ .exc c
  | .v i, [], g, c => fun h => by simp [stQ] at h
  | .v i, _ :: _, g, c => fun h => by simp [stQ] at h
  | .t0, [], g, c => fun h => by simp [stQ] at h
  | .t0, _ :: _, g, c => fun h => by simp [stQ] at h
  | .tc p q, [], g, c => fun h => by simp [stQ] at h
  | .tc p q, x :: xs, g, c => by unfold stQ; exact bind_exc (fun c' => stP_exc) fun _ c' => stQ_exc
end
end
end Dat

/-! Dat, part B19: statements, go on: unpacking, items, loops. -/
namespace Dat
open PySem PySem.Spec PyProof.Rows L2
open PySem.W
section
variable {X : Cx} {C : Cz} {io : Io} {cf : Caller} {k : Nat}
/-! ### several targets -/
theorem s1_asgT {p q : Pat} {e : E} {ex tg : Expr} {pos : Pos} {fc : Str → Bool} (ok : Cok X C k) (hfc : ∀ x, fc x = true → X.fn x = true) (hp : isP X.N X.env.scope fc (.tc p q) tg = true) (he : SE X C io cf e ex) (hs : swapsWithSole [tg] ex pos.line X.env = pure false) (hw : swappedStores [tg] ex X.env = pure none) :
    S1 X C io cf (.asg (.tc p q) e) (.Assign [tg] ex pos) := fun g σ H Gz rl => by
  show ResS C (R.bind (ev io cf e g) fun x => R.bind x.1.fz fun d => R.bind (stP (.tc p q) d x.2) fun g => .ok (.nx g)) _
  rw [bind_fz (fun d g => R.bind (stP (.tc p q) d g) fun g => (.ok (Fl.nx g) : R Fl))]
  have h1 : (assignEach [tg] X.env).map (·.2) = [assign tg X.env] := by rw [isP_assignEach hp]; rfl
  refine ResS.imp (ResS.bind (F := fun _ => True) (wpb := fun (b : V) (H1 : Hp) (Dn : Ends) => wG X tg b σ H1 Dn.nx) (he.fz rl) fun d b g1 H1 Gz1 e1 rl1 st1 rp1 => ?_) fun Dn q => wS.of (ps_asg PE.w PG.w hs hw h1) q
  exact ResS.data (fun _ => stP_exc) fun g2 h => fun Dn hD => stP_ok ok.K ok.calm ok.nd hfc hp rl1 rp1 h fun σ' rl' _ _ _ => hD σ' H1 Gz1 rl'
/-- the slots of a row of names -/
def nameSlots : Pat → List Nat
  | .tc (.v i) q => i :: nameSlots q
  | _ => []
def setAll (σ : L2.St) : List Nat → List V → L2.St
  | i :: l, v :: vs => setAll (σ.set i (some v)) l vs
  | _, _ => σ
/-- a value to be stored -/
def VRq (K : PySem.W.Frag) (Hz : Hp) (σ : L2.St) (x : Vl) (v : V) (g : G) (H Gz : Hp) : Prop := match x with
  | .f d => Rp K Gz v d
  | .o d => ∃ a, v = .ref a ∧ Gz a = none ∧ OwnAt K Gz H a d ∧ Hz a = none ∧ ¬ Owned g σ a
  | .r _ => True
theorem VRep.q {K : PySem.W.Frag} {Hz : Hp} {σ : L2.St} {x : Vl} {v : V} {g : G} {F : Addr → Prop} {H Gz : Hp} (h : VRep K Hz σ x v g F H Gz) : VRq K Hz σ x v g H Gz := by
  cases x with
  | f d => exact h
  | o d =>
    obtain ⟨a, h1, h2, h3, h4, h5, _⟩ := h
    exact ⟨a, h1, h2, h3, h4, h5⟩
  | r i => exact trivial
theorem Rel.putQ {g : G} {σ : L2.St} {H Gz : Hp} (rl : C.Rl g σ H Gz) {i : Nat} {x : Vl} {v : V} {g' : G} (h : Dat.put g i x = .ok g') (rp : VRq C.K C.Hz σ x v g H Gz) : C.Rl g' (σ.set i (some v)) H Gz ∧ ∀ a, Owned g' (σ.set i (some v)) a → Owned g σ a ∨ ((∃ d, x = .o d) ∧ v = .ref a) := by
  have hl := put_lt h
  cases x with
  | f d =>
    have e := put_f h
    subst e
    refine ⟨rl.putF hl rp, fun a ⟨j, h1, h2⟩ => .inl ?_⟩
    obtain ⟨h3, h4⟩ := ownSlot_set h1 fun e => ⟨fun z => (nomatch Option.some.inj z), fun z => (nomatch Option.some.inj z)⟩
    rw [List.getElem?_set_ne (Ne.symm h4)] at h2
    exact ⟨j, h3, h2⟩
  | o d =>
    have e := put_o h
    subst e
    obtain ⟨b, rfl, gn, oa, hz, no⟩ := rp
    refine ⟨rl.putO hl gn oa hz no, fun a ⟨j, h1, h2⟩ => ?_⟩
    by_cases ej : i = j
    · subst ej
      rw [List.getElem?_set_self (by rw [← rl.len]; exact hl)] at h2
      exact .inr ⟨⟨d, rfl⟩, Option.some.inj (Option.some.inj h2)⟩
    · rw [List.getElem?_set_ne ej] at h2
      refine .inl ⟨j, ?_, h2⟩
      unfold OwnSlot at h1 ⊢
      rw [List.getElem?_set_ne ej] at h1
      exact h1
  | r j => exact absurd h put_r
theorem newAt_mem {K : PySem.W.Frag} {Hz : Hp} {σ : L2.St} {g : G} {H Gz : Hp} {a : Addr} {d : D} : ∀ {xs : List Vl} {vs : List V}, Paired (fun x v => VRq K Hz σ x v g H Gz) xs vs → (Vl.o d, V.ref a) ∈ xs.zip vs → a ∈ newAt xs vs
  | _, _, .nil, h => nomatch h
  | x :: xs, v :: vs, .cons p r, h => by
    rcases List.mem_cons.mp h with e | h
    · cases e
      exact List.mem_cons_self
    · have := newAt_mem r h
      cases x with
      | f d => cases v <;> exact this
      | r i => cases v <;> exact this
      | o d =>
        obtain ⟨b, rfl, _⟩ := p
        exact List.mem_cons_of_mem _ this
/-- values stored, one after another -/
theorem stVs_rel {H Gz : Hp} : ∀ {p : Pat} {xs : List Vl} {vs : List V} {g : G} {σ : L2.St} {g' : G}, C.Rl g σ H Gz → Paired (fun x v => VRq C.K C.Hz σ x v g H Gz) xs vs → (newAt xs vs).Nodup → stVs p xs g = .ok g' → C.Rl g' (setAll σ (nameSlots p) vs) H Gz ∧ (nameSlots p).length = vs.length
  | .t0, [], vs, g, σ, g', rl, pr, nd, h => by
    cases pr
    cases h
    exact ⟨rl, rfl⟩
  | .tc (.v i) q, x :: xs, vs, g, σ, g', rl, pr, nd, h => by
    have h : (R.bind (put g i x) fun g => stVs q xs g) = .ok g' := h
    obtain ⟨g1, h1, h2⟩ := R.bind_ok h
    cases pr with
    | cons p pr =>
      rename_i v vs
      obtain ⟨rl1, ow⟩ := rl.putQ h1 p
      have nd' : (newAt xs vs).Nodup ∧ ∀ d a, x = .o d → v = .ref a → a ∉ newAt xs vs := by
        cases x with
        | f d => exact ⟨by cases v <;> exact nd, fun _ _ e => nomatch e⟩
        | r j => exact ⟨by cases v <;> exact nd, fun _ _ e => nomatch e⟩
        | o d =>
          obtain ⟨a, rfl, _⟩ := p
          have nd : (a :: newAt xs vs).Nodup := nd
          refine ⟨(List.nodup_cons.mp nd).2, fun d' a' _ e => ?_⟩
          cases e
          exact (List.nodup_cons.mp nd).1
      have key : ∀ {ys : List Vl} {ws : List V}, Paired (fun x v => VRq C.K C.Hz σ x v g H Gz) ys ws → (∀ d a, (Vl.o d, V.ref a) ∈ ys.zip ws → a ∈ newAt xs vs) → Paired (fun y w => VRq C.K C.Hz (σ.set i (some v)) y w g1 H Gz) ys ws := by
        intro ys ws pr
        induction pr with
        | nil => intro _; exact .nil
        | cons hp _ ih =>
          intro hm
          rename_i y w ys ws _
          refine .cons ?_ (ih fun d a h => hm d a (List.mem_cons_of_mem _ h))
          cases y with
          | f d => exact hp
          | r j => exact trivial
          | o d =>
            obtain ⟨a, rfl, e1, e2, e3, e4⟩ := hp
            refine ⟨a, rfl, e1, e2, e3, fun z => ?_⟩
            rcases ow a z with z | ⟨⟨d', ex⟩, ev⟩
            · exact e4 z
            · exact nd'.2 d' a ex ev (hm d a List.mem_cons_self)
      obtain ⟨r, l⟩ := stVs_rel rl1 (key pr fun d a h => newAt_mem pr h) nd'.1 h2
      exact ⟨r, by show (nameSlots q).length + 1 = _; rw [l, List.length_cons]⟩
  | .tc (.t0) q, x :: xs, vs, g, σ, g', rl, pr, nd, h => by cases h
  | .tc (.tc _ _) q, x :: xs, vs, g, σ, g', rl, pr, nd, h => by cases h
  | .tc (.v i) q, [], vs, g, σ, g', rl, pr, nd, h => by cases h
  | .tc (.t0) q, [], vs, g, σ, g', rl, pr, nd, h => by cases h
  | .tc (.tc _ _) q, [], vs, g, σ, g', rl, pr, nd, h => by cases h
  | .t0, _ :: _, vs, g, σ, g', rl, pr, nd, h => by cases h
  | .v i, xs, vs, g, σ, g', rl, pr, nd, h => by cases xs <;> cases h
theorem wGs_names {fc : Str → Bool} (hN : X.N.Nodup) (hfc : ∀ x, fc x = true → X.fn x = true) {H : Hp} {Q : L2.St → Hp → Prop} : ∀ {p : Pat} {es : List Expr} {vs : List V} {σ : L2.St}, isQ X.N X.env.scope fc p es = true → (nameSlots p).length = vs.length → es.length = vs.length → Q (setAll σ (nameSlots p) vs) H → wGs X es vs σ H Q
  | .t0, [], vs, σ, hp, hl, _, q => by
    cases vs with
    | nil => exact wGs.of pgs_nil ⟨rfl, q⟩
    | cons v vs => cases hl
  | .tc (.v i) q, e :: es, vs, σ, hp, hl, hl2, hq => by
    have hp : (isP X.N X.env.scope fc (.v i) e && isQ X.N X.env.scope fc q es) = true := hp
    rw [Bool.and_eq_true] at hp
    cases vs with
    | nil => cases hl
    | cons v vs =>
      refine wGs.of (pgs_cons PG.w PGs.w (by rw [isP_assignEach hp.1]; rfl)) ⟨v, vs, rfl, ?_⟩
      cases e <;> first | (cases hp.1; done) | skip
      rename_i x px _
      have h1 : (decide (X.N[i]? = some x) && locB X.env.scope fc x) = true := hp.1
      rw [Bool.and_eq_true, decide_eq_true_eq] at h1
      exact w_name hN hfc h1.1 h1.2 (wGs_names hN hfc hp.2 (Nat.succ.inj hl) (Nat.succ.inj hl2) hq)
  | .tc (.t0) q, e :: es, vs, σ, hp, hl, hl2, hq => by
    cases vs with
    | nil => cases hl2
    | cons v vs => cases hl
  | .tc (.tc _ _) q, e :: es, vs, σ, hp, hl, hl2, hq => by
    cases vs with
    | nil => cases hl2
    | cons v vs => cases hl
  | .t0, _ :: _, vs, σ, hp, hl, hl2, hq => by cases hp
  | .v i, es, vs, σ, hp, hl, hl2, hq => by cases es <;> cases hp
  | .tc _ _, [], vs, σ, hp, hl, hl2, hq => by cases hp
theorem evA_len : ∀ {a : A} {g g' : G} {xs : List Vl}, evA io cf a g = .ok (xs, g') → xs.length = a.len
  | .nil, g, g', xs, h => by cases h; rfl
  | .cons e a, g, g', xs, h => by
    have h : (R.bind (ev io cf e g) fun x => R.bind (evA io cf a x.2) fun y => .ok (x.1 :: y.1, y.2)) = .ok (xs, g') := h
    obtain ⟨x, _, h⟩ := R.bind_ok h
    obtain ⟨y, hy, h⟩ := R.bind_ok h
    have ih := evA_len (g := x.2) (g' := y.2) (xs := y.1) hy
    cases h
    show y.1.length + 1 = a.len + 1
    rw [ih]
theorem stVs_exc : ∀ {p : Pat} {xs : List Vl} {g : G} {c : Str}, stVs p xs g ≠ .exc c
  | .t0, [], g, c => fun h => nomatch h
  | .tc (.v i) q, x :: xs, g, c => bind_exc (fun _ => put_exc) fun _ _ => stVs_exc
  | .tc (.t0) q, x :: xs, g, c => fun h => nomatch h
  | .tc (.tc _ _) q, x :: xs, g, c => fun h => nomatch h
  | .tc (.v _) q, [], g, c => fun h => nomatch h
  | .tc (.t0) q, [], g, c => fun h => nomatch h
  | .tc (.tc _ _) q, [], g, c => fun h => nomatch h
  | .t0, _ :: _, g, c => fun h => nomatch h
  | .v i, xs, g, c => by cases xs <;> exact fun h => nomatch h
/-- a, b = x, y stored from the left -/
theorem s1_par {p : Pat} {a : A} {es ts : List Expr} {n m : Nat} {pt pe pos : Pos} {fc : Str → Bool} (ok : Cok X C k) (hfc : ∀ x, fc x = true → X.fn x = true) (hp : isQ X.N X.env.scope fc p ts = true) (ha : SA X C io cf a es) (hal : a.len = es.length) (hlen : a.len ≤ 1000) (htl : ts.length = es.length) (hw : swappedStores [.Tuple ts n pt] (.Tuple es m pe) X.env = pure none) :
    S1 X C io cf (.par p a) (.Assign [.Tuple ts n pt] (.Tuple es m pe) pos) := fun g σ H Gz rl => by
  show ResS C (R.bind (evA io cf a g) fun x => R.bind (stVs p x.1 x.2) fun g => .ok (.nx g)) _
  obtain ⟨l1, l2⟩ := isQ_assignEach hp X.env
  refine ResS.imp (ResS.bind (wpb := fun (vs : List V) (H1 : Hp) (Dn : Ends) => vs.length ≤ sizeLine ∧ ∀ p, H1 p = none → wG X (.Tuple ts n pt) (.ref p) σ (upd H1 p (.tup vs)) Dn.nx) (ha g σ H Gz _ fs_refl rl) fun xs vs g1 H1 Gz1 e1 rl1 st1 rp1 => ?_) fun Dn q => wS.of (ps_asg (pe_tup PA.w) PG.w rfl hw rfl) q
  refine ResS.data (fun _ => stVs_exc) fun g2 h => fun Dn hD => ?_
  have hvl : vs.length = es.length := by rw [← Paired.length rp1.1, evA_len e1]; exact hal
  refine ⟨by rw [hvl, ← hal]; exact sz1000 hlen, fun q hq => ?_⟩
  have sm := same_upd (o := .tup vs) hq
  obtain ⟨r2, l⟩ := stVs_rel (rl1.new sm) (Paired.mapP rp1.1 fun _ _ z => (VRep.step z (Stp.new sm)).q) rp1.2 h
  refine wG.of (pg_tup ok.calm PGs.w l1 l2) ⟨q, vs, rfl, .inl (.inl upd_same), by rw [hvl, htl], ?_⟩
  exact wGs_names ok.nd hfc hp l (by rw [htl, hvl]) (hD _ _ _ r2)
/-- .. with plain local names, stored from the right -/
theorem s1_par2 {i j : Nat} {a : A} {x y : Str} {e1 e2 : Expr} {n m : Nat} {px py pt pe pos : Pos} (ok : Cok X C k) (hi : X.N[i]? = some x) (hj : X.N[j]? = some y) (hij : i ≠ j) (hx : X.env.scope.names.lookup x = some .local) (hy : X.env.scope.names.lookup y = some .local) (ha : SA X C io cf a [e1, e2]) (hal : a.len = 2)
    (hw : swappedStores [.Tuple [.Name x px, .Name y py] n pt] (.Tuple [e1, e2] m pe) X.env = pure (some [x, y])) : S1 X C io cf (.par (.tc (.v i) (.tc (.v j) .t0)) a) (.Assign [.Tuple [.Name x px, .Name y py] n pt] (.Tuple [e1, e2] m pe) pos) := fun g σ H Gz rl => by
  show ResS C (R.bind (evA io cf a g) fun x => R.bind (stVs (.tc (.v i) (.tc (.v j) .t0)) x.1 x.2) fun g => .ok (.nx g)) _
  refine ResS.imp (ResS.bind (wpb := fun (vs : List V) (H1 : Hp) (Dn : Ends) => ∃ v w, vs = [v, w] ∧ Dn.nx ((σ.set i (some v)).set j (some w)) H1) (ha g σ H Gz _ fs_refl rl) fun xs vs g1 H1 Gz1 e1 rl1 st1 rp1 => ?_) fun Dn q => wS.of (ps_par ok.calm ok.nd hi hj hij hx hy PA.w hw) q
  refine ResS.data (fun _ => stVs_exc) fun g2 h => fun Dn hD => ?_
  obtain ⟨r2, l⟩ := stVs_rel rl1 (Paired.mapP rp1.1 fun _ _ z => z.q) rp1.2 h
  have hvl : vs.length = 2 := l.symm
  obtain ⟨v, w, rfl⟩ : ∃ v w, vs = [v, w] := by
    cases vs with
    | nil => cases hvl
    | cons v vs =>
      cases vs with
      | nil => cases hvl
      | cons w vs =>
        cases vs with
        | nil => exact ⟨v, w, rfl⟩
        | cons _ _ => cases hvl
  exact ⟨v, w, rfl, hD _ _ _ r2⟩
theorem s1_par3 {i j l : Nat} {a : A} {x y z : Str} {e1 e2 e3 : Expr} {n m : Nat} {px py pz pt pe pos : Pos} (ok : Cok X C k) (hi : X.N[i]? = some x) (hj : X.N[j]? = some y) (hl : X.N[l]? = some z) (hij : i ≠ j) (hil : i ≠ l) (hjl : j ≠ l) (hx : X.env.scope.names.lookup x = some .local) (hy : X.env.scope.names.lookup y = some .local) (hz : X.env.scope.names.lookup z = some .local) (ha : SA X C io cf a [e1, e2, e3])
    (hw : swappedStores [.Tuple [.Name x px, .Name y py, .Name z pz] n pt] (.Tuple [e1, e2, e3] m pe) X.env = pure (some [x, y, z])) : S1 X C io cf (.par (.tc (.v i) (.tc (.v j) (.tc (.v l) .t0))) a) (.Assign [.Tuple [.Name x px, .Name y py, .Name z pz] n pt] (.Tuple [e1, e2, e3] m pe) pos) := fun g σ H Gz rl => by
  show ResS C (R.bind (evA io cf a g) fun x => R.bind (stVs (.tc (.v i) (.tc (.v j) (.tc (.v l) .t0))) x.1 x.2) fun g => .ok (.nx g)) _
  refine ResS.imp (ResS.bind (wpb := fun (vs : List V) (H1 : Hp) (Dn : Ends) => ∃ u v w, vs = [u, v, w] ∧ Dn.nx (((σ.set i (some u)).set j (some v)).set l (some w)) H1) (ha g σ H Gz _ fs_refl rl) fun xs vs g1 H1 Gz1 e1 rl1 st1 rp1 => ?_) fun Dn q => wS.of (ps_par3 ok.calm ok.nd hi hj hl hij hil hjl hx hy hz PA.w hw) q
  refine ResS.data (fun _ => stVs_exc) fun g2 h => fun Dn hD => ?_
  obtain ⟨r2, l⟩ := stVs_rel rl1 (Paired.mapP rp1.1 fun _ _ z => z.q) rp1.2 h
  have hvl : vs.length = 3 := l.symm
  obtain ⟨u, v, w, rfl⟩ : ∃ u v w, vs = [u, v, w] := by
    cases vs with
    | nil => cases hvl
    | cons u vs =>
      cases vs with
      | nil => cases hvl
      | cons v vs =>
        cases vs with
        | nil => cases hvl
        | cons w vs =>
          cases vs with
          | nil => exact ⟨u, v, w, rfl⟩
          | cons _ _ => cases hvl
  exact ⟨u, v, w, rfl, hD _ _ _ r2⟩
end
end Dat

/-! Dat, part B20: statements, the rest: items, loops. -/
namespace Dat
open PySem PySem.Spec PyProof.Rows L2
open PySem.W
section
variable {X : Cx} {C : Cz} {io : Io} {cf : Caller} {k : Nat}
/-- name = [..] on one line -/
theorem s1_setLc {i : Nat} {e : E} {p : Pat} {it : I} {c : O} {x : Str} {px spos pos : Pos} {elt tg iter : Expr} {ifs : List Expr} {scope : Scope} {fc : Str → Bool} (ok : Cok X C k) (hi : X.N[i]? = some x) (hx : X.env.scope.names.lookup x = some .local)
    (hsw : swapsWith (.ListComp elt [⟨tg, iter, ifs, 0⟩] scope pos) (some (.Name x px)) spos.line X.env = pure true) (hit : SI X C io cf it tg iter) (hb : BlkOk X.N X.env.scope scope (ownOf X.N p.slots))
    (hst : ∀ X', Blk X scope X' → X'.K = C.K ∧ X'.calm = true ∧ X'.N.Nodup ∧ (∀ x, fc x = true → X'.fn x = true) ∧ isP X'.N X'.env.scope fc p tg = true)
    (hc : ∀ X', Blk X scope X' → SC X' C.calm io cf c ifs) (he : ∀ X', Blk X scope X' → SE X' C.calm io cf e elt) (hs : ∀ x, foldedSetIterable iter X.env x = pure x) :
    S1 X C io cf (.asg (.v i) (.lc e p it c)) (.Assign [.Name x px] (.ListComp elt [⟨tg, iter, ifs, 0⟩] scope pos) spos) := fun g σ H Gz rl => by
  show ResS C (R.bind (ev io cf (.lc e p it c) g) fun x => R.bind (put x.2 i x.1) fun g => .ok (.nx g)) _
  refine ResS.imp (ResS.bind (wpb := fun (b : V) (H1 : Hp) (Dn : Ends) => Dn.nx (σ.set i (some b)) H1) (lc_res ok hit hst hc he fs_refl rl) fun v b g1 H1 Gz1 e1 rl1 st1 rp1 => ?_) fun Dn q => wS.of (ps_setLc ok.calm ok.nd hi hx hsw PI.w hb pg_blk pt_blk pe_blk hs) (by rw [ownOf_snd]; exact q)
  exact ResS.data (fun _ => put_exc) fun g2 h => fun Dn hD => hD _ H1 Gz1 (rl1.put h rp1)
/-! ### x[k] = v -/
def rSetA : TSet := fun o i v H Q => rSetL o i v H Q ∨ rSetD o i v H Q
theorem set_any (hu : X.A.units + 1 < cLine) : PSet X rSetA := by
  intro pins s σ H o i v ov iv u Q I ro ri rv h
  rcases h with h | h
  · exact set_list pins s σ H o i v ov iv u Q I ro ri rv h
  · exact L2.set_dict hu pins s σ H o i v ov iv u Q I ro ri rv h
theorem assign_sub {o i : Expr} {pos : Pos} (h : noSlice i = true) (env : Env) : ∀ v, assign (.Subscript o i pos) env v = (do
      let ov ← holding [v] (eval o env)
      let iv ← holding [v, ov] (eval i env)
      standAt pos
      holding [v, ov, iv] (setItem ov iv v)
      release [v, ov, iv] []) := fun v => by
  cases i <;> first | rfl | (cases h; done)
theorem setIx_exc {a b d : D} {c : Str} : setIx a b d ≠ .exc c := by
  unfold setIx
  split
  · split
    · split
      · exact fun h => nomatch h
      · split <;> exact fun h => nomatch h
    · exact fun h => nomatch h
  · split <;> exact fun h => nomatch h
  · exact fun h => nomatch h
theorem u1 {A : Around} (r : Room k A) : A.units + 1 < cLine := by
  have := r.un
  omega
/-- the container in a slot changes -/
theorem chg_res {i : Nat} {h : D → R D} {g : G} {σ : L2.St} {H Gz : Hp} {wp : Ends → Prop} (rl : C.Rl g σ H Gz) (hx : ∀ d c, h d ≠ .exc c)
    (hk : ∀ (b : B) (z : D) (a : Addr), g[i]? = some (some b) → h b.dat = .ok z → σ[i]? = some (some (.ref a)) → OwnAt C.K Gz H a b.dat → ∃ o : HO, (∀ H' : Hp, H' a = some o → OwnAt C.K Gz H' a z) ∧ ∀ Dn : Ends, Dn.nx σ (upd H a o) → wp Dn) :
    ResS C (R.bind (chg g i h) fun g => .ok (.nx g)) wp := by
  refine ResS.data (fun _ => chg_exc hx) fun g' hc => ?_
  obtain ⟨b, z, hb, m, hz, rfl⟩ := chg_ok hc
  obtain ⟨a, ha, oa, gn, hch⟩ := rl.chgAt hb m
  obtain ⟨o, h1, h2⟩ := hk b z a hb hz ha oa
  obtain ⟨r, _⟩ := hch o z h1
  exact fun Dn hD => h2 Dn (hD σ _ Gz r)
theorem s1_seti {i : Nat} {ke ve : E} {kx vx : Expr} {x : Str} {px ps pos : Pos} (ok : Cok X C k) (hn : isN X.N X.env.scope i x = true) (hk : SE X C io cf ke kx) (hv : SE X C io cf ve vx) (hsl : noSlice kx = true) (hs : swapsWithSole [.Subscript (.Name x px) kx ps] vx pos.line X.env = pure false) (hw : swappedStores [.Subscript (.Name x px) kx ps] vx X.env = pure none) :
    S1 X C io cf (.seti i ke ve) (.Assign [.Subscript (.Name x px) kx ps] vx pos) := fun g σ H Gz rl => by
  show ResS C (R.bind (pkv g i) fun _ => R.bind (ev io cf ve g) fun x => R.bind x.1.fz fun v => R.bind (ev io cf ke x.2) fun y => R.bind y.1.fz fun k => R.bind (chg y.2 i (setIx k v)) fun g => .ok (.nx g)) _
  refine ResS.data (fun _ => pkv_exc) fun d0 hd0 => ?_
  obtain ⟨b0, hb0, _⟩ := pkv_ok hd0
  obtain ⟨o0, ho0⟩ := rl.val hb0
  rw [bind_fz (fun v g => R.bind (ev io cf ke g) fun y => R.bind y.1.fz fun k => R.bind (chg y.2 i (setIx k v)) fun g => (.ok (Fl.nx g) : R Fl))]
  refine ResS.imp (ResS.bind (F := fun _ => True) (wpb := fun (v : V) (H1 : Hp) (Dn : Ends) => wE X (.Name x px) σ H1 fun o H2 => wE X kx σ H2 fun key H3 => rSetA o key v H3 fun H4 => Dn.nx σ H4) (hv.fz rl) fun dv v g1 H1 Gz1 e1 rl1 st1 rp1 => ?_) fun Dn q => wS.of (ps_asg PE.w (pg_sub PE.w PE.w (set_any (u1 ok.room)) (assign_sub hsl _)) hs hw rfl) q
  show ResS C (R.bind (ev io cf ke g1) fun y => R.bind y.1.fz fun k => R.bind (chg y.2 i (setIx k dv)) fun g => .ok (.nx g)) _
  rw [bind_fz (fun k g => R.bind (chg g i (setIx k dv)) fun g => (.ok (Fl.nx g) : R Fl))]
  refine ResS.imp (ResS.bind (F := fun _ => True) (wpb := fun (key : V) (H3 : Hp) (Dn : Ends) => rSetA o0 key v H3 fun H4 => Dn.nx σ H4) (hk.fz rl1) fun dk kv g2 H2 Gz2 e2 rl2 st2 rp2 => ?_) fun Dn q => w_var hn ho0 q
  refine chg_res rl2 (fun _ _ => setIx_exc) fun b z a hb hz ha oa => ?_
  rw [ho0] at ha
  cases ha
  have rp1 : Rp C.K Gz1 v dv := rp1
  have rp1 := rp1.mono st2.gz
  have rp2 : Rp C.K Gz2 kv dk := rp2
  have hz : setIx dk dv b.dat = .ok z := hz
  generalize b.dat = d at oa hz
  cases d <;> first | (exact False.elim oa) | skip
  · rename_i ds
    obtain ⟨vs, h1, r1⟩ := oa
    obtain ⟨n, rfl⟩ : ∃ n, dk = .int n := by cases dk <;> first | exact ⟨_, rfl⟩ | (cases hz; done)
    cases rp2
    have hz : (if 0 ≤ n ∧ n < ds.length then R.ok (PyData.list (ds.set n.toNat dv)) else if n < 0 ∧ -(ds.length : Int) ≤ n then .ok (.list (ds.set (n + ds.length).toNat dv)) else .bad) = .ok z := hz
    split at hz
    · rename_i hc
      cases hz
      refine ⟨.lst (vs.set n.toNat v), fun H' h => ⟨_, h, r1.set rp1 _⟩, fun Dn q => .inl ⟨a, vs, n, n.toNat, rfl, rfl, h1, ?_, q⟩⟩
      unfold ixN
      rw [if_pos hc.1, if_pos (by rw [r1.length]; exact hc.2)]
    · split at hz
      · rename_i hc
        cases hz
        refine ⟨.lst (vs.set (n + ds.length).toNat v), fun H' h => ⟨_, h, r1.set rp1 _⟩, fun Dn q => .inl ⟨a, vs, n, (n + ds.length).toNat, rfl, rfl, h1, ?_, q⟩⟩
        unfold ixN
        rw [if_neg (by omega), r1.length, if_pos hc.2]
      · cases hz
  · rename_i r
    obtain ⟨kvs, h1, dr, nd⟩ := oa
    have hz : (if kOk dk r = true ∧ r.length ≤ LIM then R.ok (PyData.dict (dPut dk dv r)) else .bad) = .ok z := hz
    split at hz
    · rename_i hc
      cases hz
      obtain ⟨key, hkey⟩ := kOk_flat hc.1
      have ek := kIs_rp hkey rp2
      subst ek
      refine ⟨.dK (putK kvs key v), fun H' h => ⟨_, h, dicR_put hkey rp1 dr nd, nodup_put nd⟩, fun Dn q => .inr ⟨a, _, rfl, .inl ⟨kvs, key, h1, rfl, ?_, rfl⟩, q⟩⟩
      have := Paired.length dr
      have hl : r.length ≤ 1000000 := hc.2
      rw [this, sizeLine_eq]
      omega
    · cases hz
/-! ### append, extend, update -/
theorem appD_exc {v d : D} {c : Str} : appD v d ≠ .exc c := by
  unfold appD
  split
  · split <;> exact fun h => nomatch h
  · exact fun h => nomatch h
theorem extD_exc {v d : D} {c : Str} : extD v d ≠ .exc c := by
  unfold extD
  split
  · split
    · split <;> exact fun h => nomatch h
    · exact fun h => nomatch h
  · exact fun h => nomatch h
theorem slot_list {g : G} {σ : L2.St} {H Gz : Hp} {i : Nat} {d : D} (rl : C.Rl g σ H Gz) (h : pkv g i = .ok d) (hl : isLst d = true) : ∃ a vs, σ[i]? = some (some (.ref a)) ∧ H a = some (.lst vs) := by
  cases d <;> first | (cases hl; done) | skip
  obtain ⟨b, hb, _⟩ := pkv_ok h
  obtain ⟨v, hv⟩ := rl.val hb
  have w := VRep.vw (K := C.K) (Hz := C.Hz) (x := .r i) (F := fun _ => True) (v := v) hv rl h
  obtain ⟨a, vs, rfl, h1, _⟩ := w.list rl.sub
  exact ⟨a, vs, hv, h1⟩
theorem s1_app {i : Nat} {e : E} {z : Expr} {x : Str} {px p q pos : Pos} (ok : Cok X C k) (hn : isN X.N X.env.scope i x = true) (hs : noStar z = true) (hl : (p.endLine == q.line) = true) (he : SE X C io cf e z) : S1 X C io cf (.app i e) (.Expr (.Call (.Attribute (.Name x px) "append" p) [z] [] q) pos) := fun g σ H Gz rl => by
  show ResS C (R.bind (pkv g i) fun d0 => if isLst d0 = true then R.bind (ev io cf e g) fun x => R.bind x.1.fz fun v => R.bind (chg x.2 i (appD v)) fun g => .ok (.nx g) else .bad) _
  refine ResS.data (fun _ => pkv_exc) fun d0 hd0 => ?_
  by_cases hl0 : isLst d0 = true
  · rw [if_pos hl0]
    obtain ⟨a, vs0, ha, h0⟩ := slot_list rl hd0 hl0
    rw [bind_fz (fun v g => R.bind (chg g i (appD v)) fun g => (.ok (Fl.nx g) : R Fl))]
    have hst : starEach [z] X.env = [(false, eval z X.env)] := starEach_no hs _
    have pa : PA X [z] (tCons (wE X z) tNil) := pa_cons PE.w pa_nil (starEach_no hs _)
    have pe := pe_bm PySem.F.plainAttrs_list PySem.F.slot_list_append PySem.F.type_list_append (mt_append (X := X)) (PE.w (e := .Name x px)) pa rfl (by rw [hst]; rfl) hl (starEach_no hs _)
    refine ResS.imp (ResS.bind (F := fun _ => True) (wpb := fun (v : V) (H1 : Hp) (Dn : Ends) => rAppend (.ref a) [v] H1 fun _ H2 => Dn.nx σ H2) (he.fz rl) fun dv v g1 H1 Gz1 e1 rl1 st1 rp1 => ?_) fun Dn q => wS.of (ps_expr pe rfl) (w_var hn ha ⟨.inl ⟨rfl, vs0, .inl (.inl h0)⟩, q⟩)
    refine chg_res rl1 (fun _ _ => appD_exc) fun b zz a' hb hz ha' oa => ?_
    rw [ha] at ha'
    cases ha'
    generalize b.dat = d at oa hz
    cases d <;> first | (exact False.elim oa) | (cases hz; done) | skip
    rename_i ds
    obtain ⟨vs, h1, r1⟩ := oa
    have hz : (if ds.length < LIM then R.ok (PyData.list (ds ++ [dv])) else .bad) = .ok zz := hz
    split at hz
    · rename_i hc
      cases hz
      refine ⟨.lst (vs ++ [v]), fun H' h => ⟨_, h, r1.append (.cons rp1 .nil)⟩, fun Dn q => ⟨a, vs, v, rfl, rfl, h1, ?_, q⟩⟩
      have hc : ds.length < 1000000 := hc
      rw [r1.length, sizeLine_eq]
      omega
    · cases hz
  · rw [if_neg hl0]
    exact trivial
theorem s1_ext {i : Nat} {e : E} {z : Expr} {x : Str} {px p q pos : Pos} (ok : Cok X C k) (hn : isN X.N X.env.scope i x = true) (hs : noStar z = true) (hl : (p.endLine == q.line) = true) (he : SE X C io cf e z) : S1 X C io cf (.ext i e) (.Expr (.Call (.Attribute (.Name x px) "extend" p) [z] [] q) pos) := fun g σ H Gz rl => by
  show ResS C (R.bind (pkv g i) fun d0 => if isLst d0 = true then R.bind (ev io cf e g) fun x => R.bind (x.1.res x.2) fun v => R.bind (chg x.2 i (extD v)) fun g => .ok (.nx g) else .bad) _
  refine ResS.data (fun _ => pkv_exc) fun d0 hd0 => ?_
  by_cases hl0 : isLst d0 = true
  · rw [if_pos hl0]
    obtain ⟨a, vs0, ha, h0⟩ := slot_list rl hd0 hl0
    have hst : starEach [z] X.env = [(false, eval z X.env)] := starEach_no hs _
    have pa : PA X [z] (tCons (wE X z) tNil) := pa_cons PE.w pa_nil (starEach_no hs _)
    have pe := pe_bm PySem.F.plainAttrs_list PySem.F.slot_list_extend PySem.F.type_list_extend (mt_extend (X := X)) (PE.w (e := .Name x px)) pa rfl (by rw [hst]; rfl) hl (starEach_no hs _)
    refine ResS.imp (ResS.bind (wpb := fun (v : V) (H1 : Hp) (Dn : Ends) => rExtend (.ref a) [v] H1 fun _ H2 => Dn.nx σ H2) (he g σ H Gz _ fs_refl rl) fun xv v g1 H1 Gz1 e1 rl1 st1 rp1 => ?_) fun Dn q => wS.of (ps_expr pe rfl) (w_var hn ha ⟨.inl ⟨rfl, vs0, .inl (.inl h0)⟩, q⟩)
    refine ResS.data (fun _ => res_exc) fun dv hdv => ?_
    have w1 := VRep.vw rp1 rl1 hdv
    refine chg_res rl1 (fun _ _ => extD_exc) fun b zz a' hb hz ha' oa => ?_
    rw [ha] at ha'
    cases ha'
    generalize b.dat = d at oa hz
    cases d <;> first | (exact False.elim oa) | (cases hz; done) | skip
    rename_i ds
    obtain ⟨vs, h1, r1⟩ := oa
    obtain ⟨es, rfl⟩ : ∃ es, dv = .list es := by cases dv <;> first | exact ⟨_, rfl⟩ | (cases hz; done)
    have hz : (if ds.length + es.length ≤ LIM then R.ok (PyData.list (ds ++ es)) else .bad) = .ok zz := hz
    obtain ⟨c, ws, rfl, h2, r2⟩ := w1.list rl1.sub
    split at hz
    · rename_i hc
      cases hz
      refine ⟨.lst (vs ++ ws), fun H' h => ⟨_, h, r1.append r2⟩, fun Dn q => ⟨a, c, vs, ws, rfl, rfl, h1, h2, ?_, q⟩⟩
      have hc : ds.length + es.length ≤ 1000000 := hc
      rw [r1.length, r2.length, sizeLine_eq]
      omega
    · cases hz
  · rw [if_neg hl0]
    exact trivial
def rUpd : V → List V → Hp → VK → Prop := fun x xs H Q => ∃ a b kvs more, x = .ref a ∧ xs = [.ref b] ∧ H a = some (.dK kvs) ∧ Rd H b (.dK more) ∧ a ≠ b ∧ kvs.length + more.length ≤ sizeLine ∧ Q .non (upd H a (.dK (mergeK kvs more)))
theorem mergeK_len : ∀ (more kvs : List (L2.Key × V)), (mergeK kvs more).length ≤ kvs.length + more.length
  | [], kvs => Nat.le_refl _
  | p :: more, kvs => by
    show (mergeK (putK kvs p.1 p.2) more).length ≤ _
    have h1 := mergeK_len more (putK kvs p.1 p.2)
    have h2 := length_putK kvs p.1 p.2
    rw [List.length_cons]
    omega
theorem mt_upd : MtR X "dict.update" rUpd := by
  intro pins s σ H x xs v us Q I rx rxs h
  obtain ⟨a, b, kvs, more, rfl, rfl, ha, hb, hab, hl, q⟩ := h
  cases rx
  obtain ⟨u, rfl, ru⟩ := rxs.one
  cases ru
  obtain ⟨z1, n1, vs1, rel1, dd1⟩ := dk_of I.hok ha
  obtain ⟨z2, n2, vs2, rel2, dd2⟩ := dk_rd I.hok hb
  refine call_meetsIn PySem.F.slot_dict_update dd1.typeIs PySem.F.entry_dict_update (PySem.F.args_dict_update_2 _ _) (meets_dict_update (mixKind X.prog X.w) a b hab n2) ⟨vs1, vs2, dd1, dd2, ?_, fun h' d1 d2 hs => ?_⟩
  · rw [← rel1.length, ← rel2.length]
    exact hl
  · have he : ∃ o, h'.get? a = some o := let ⟨o, _, _, ho, _⟩ := d1; ⟨o, ho⟩
    exact ⟨.non, _, d_write (t' := s.toks) I (by rw [ha]; exact True.intro) hs he (dk_new (Nat.le_trans (mergeK_len more kvs) hl) n1 (KV.merge rel2 rel1) d1), rfl, q⟩
theorem updD_exc {v d : D} {c : Str} : updD v d ≠ .exc c := by
  unfold updD
  split
  · split
    · split <;> exact fun h => nomatch h
    · exact fun h => nomatch h
  · exact fun h => nomatch h
theorem kOks_app {a b : List (D × D)} (h : kOks (a ++ b) = true) : kOks a = true ∧ kOks b = true := by
  unfold kOks at h ⊢
  rw [List.all_append, Bool.and_eq_true] at h
  exact h
theorem s1_upd {i : Nat} {e : E} {z : Expr} {x : Str} {px p q pos : Pos} (ok : Cok X C k) (hn : isN X.N X.env.scope i x = true) (hs : noStar z = true) (hl : (p.endLine == q.line) = true) (he : SE X C io cf e z) : S1 X C io cf (.upd i e) (.Expr (.Call (.Attribute (.Name x px) "update" p) [z] [] q) pos) := fun g σ H Gz rl => by
  show ResS C (R.bind (pkv g i) fun d0 => if isDct d0 = true then R.bind (ev io cf e g) fun x => if notSlot i x.1 = true then R.bind (x.1.res x.2) fun v => R.bind (chg x.2 i (updD v)) fun g => .ok (.nx g) else .bad else .bad) _
  refine ResS.data (fun _ => pkv_exc) fun d0 hd0 => ?_
  by_cases hl0 : isDct d0 = true
  · rw [if_pos hl0]
    have hv : ∃ a kvs, σ[i]? = some (some (.ref a)) ∧ H a = some (.dK kvs) := by
      cases d0 <;> first | (cases hl0; done) | skip
      rename_i r0
      obtain ⟨b, hb, _⟩ := pkv_ok hd0
      obtain ⟨v, hv⟩ := rl.val hb
      have w := VRep.vw (K := C.K) (Hz := C.Hz) (x := .r i) (F := fun _ => True) (v := v) hv rl hd0
      obtain ⟨a, kvs, rfl, h1, _⟩ := w.dict (flat_noScr hl0) rl.sub
      exact ⟨a, kvs, hv, h1⟩
    obtain ⟨a, kvs0, ha, h0⟩ := hv
    have hst : starEach [z] X.env = [(false, eval z X.env)] := starEach_no hs _
    have pa : PA X [z] (tCons (wE X z) tNil) := pa_cons PE.w pa_nil (starEach_no hs _)
    have pe := pe_bm PySem.F.plainAttrs_dict PySem.F.slot_dict_update PySem.F.type_dict_update (mt_upd (X := X)) (PE.w (e := .Name x px)) pa rfl (by rw [hst]; rfl) hl (starEach_no hs _)
    refine ResS.imp (ResS.bind (wpb := fun (v : V) (H1 : Hp) (Dn : Ends) => rUpd (.ref a) [v] H1 fun _ H2 => Dn.nx σ H2) (he g σ H Gz _ fs_refl rl) fun xv v g1 H1 Gz1 e1 rl1 st1 rp1 => ?_) fun Dn q => wS.of (ps_expr pe rfl) (w_var hn ha ⟨.inr (.inr (.inl ⟨rfl, .inl ⟨kvs0, h0⟩⟩)), q⟩)
    show ResS C (if notSlot i xv = true then R.bind (xv.res g1) fun v => R.bind (chg g1 i (updD v)) fun g => .ok (.nx g) else .bad) _
    by_cases hns : notSlot i xv = true
    · rw [if_pos hns]
      refine ResS.data (fun _ => res_exc) fun dv hdv => ?_
      have w1 := VRep.vw rp1 rl1 hdv
      refine ResS.data (fun _ => chg_exc fun _ _ => updD_exc) fun g' hc => ?_
      obtain ⟨b, zz, hb, m, hz, rfl⟩ := chg_ok hc
      obtain ⟨a', ha', oa, gn, hch⟩ := rl1.chgAt hb m
      rw [ha] at ha'
      cases ha'
      have hos := ownSlot_of hb m
      generalize b.dat = d at oa hz
      cases d <;> first | (exact False.elim oa) | (cases hz; done) | skip
      rename_i r
      obtain ⟨kvs, h1, dr, nd⟩ := oa
      obtain ⟨r2, rfl⟩ : ∃ r2, dv = .dict r2 := by cases dv <;> first | exact ⟨_, rfl⟩ | (cases hz; done)
      have hz : (if (kOks (r ++ r2)) = true ∧ r.length + r2.length ≤ LIM then R.ok (PyData.dict (dMerge r r2)) else .bad) = .ok zz := hz
      split at hz
      · rename_i hcond
        cases hz
        obtain ⟨k1, k2⟩ := kOks_app hcond.1
        obtain ⟨b2, more, rfl, h2, dr2, _⟩ := w1.dict (flat_noScr k2) rl1.sub
        have hab : a ≠ b2 := fun e => by
          subst e
          cases xv with
          | f d =>
            cases hdv
            have rp1 : Rp C.K Gz1 (.ref a) (.dict r2) := rp1
            cases rp1 with
            | scr _ _ => exact absurd rfl (flat_noScr k2 _)
            | dct h => rw [gn] at h; cases h
          | o d =>
            obtain ⟨c, ec, _, _, _, no, _⟩ := rp1
            cases ec
            exact no ⟨i, hos, ha⟩
          | r j =>
            have nij : i ≠ j := of_decide_eq_true hns
            have hj : σ[j]? = some (some (.ref a)) := rp1
            obtain ⟨bj, hbj, hdj⟩ := pkv_ok hdv
            cases bj with
            | frz d =>
              obtain ⟨v', e1, e2⟩ := rl1.frz j d hbj
              rw [hj] at e1
              cases e1
              cases hdj
              cases e2 with
              | scr _ _ => exact absurd rfl (flat_noScr k2 _)
              | dct h => rw [gn] at h; cases h
            | own d => exact rl1.sep i j a nij hos (.inl ⟨d, hbj⟩) ha hj
            | io d => exact rl1.sep i j a nij hos (.inr ⟨d, hbj⟩) ha hj
        obtain ⟨q1, q2⟩ := dicR_merge dr2 dr nd
        obtain ⟨rr, _⟩ := hch (.dK (mergeK kvs more)) (.dict (dMerge r r2)) fun H' h => ⟨_, h, q1, q2⟩
        refine fun Dn hD => ⟨a, b2, kvs, more, rfl, rfl, h1, .inl h2, hab, ?_, hD σ _ Gz1 rr⟩
        have hcl : r.length + r2.length ≤ 1000000 := hcond.2
        rw [Paired.length dr, Paired.length dr2, sizeLine_eq]
        omega
      · cases hz
    · rw [if_neg hns]
      exact trivial
  · rw [if_neg hl0]
    exact trivial
/-! ### loops -/
theorem PS.nox {st : Stmt} {t : TS} (h : PS X.nox st t) : PS X st t := ⟨fun pins s σ H D I hw =>
  wpAny_mono (h.run pins s σ H D (I.wish _) hw) (fun _ _ q => q.unwish) fun _ _ z => False.elim z⟩
theorem nox_cok (ok : Cok X C k) : Cok X.nox C.calm k := ⟨ok.K, ok.calm, ok.nd, ok.room, takes0, ok.bl⟩
theorem whileF_exc {c : G → R (Bool × G)} {b : G → R Fl} {x : Str} : ∀ (n : Nat) (g : G), whileF c b n g ≠ .exc x
  | 0, g => fun h => nomatch h
  | n + 1, g => fun h => by
    have h : (R.quiet (c g) fun x => match x.1 with
      | false => .ok (.nx x.2)
      | true => R.quiet (b x.2) fun y => match y with
        | .nx g => whileF c b n g
        | .rt v g => .ok (.rt v g)) = .exc x := h
    obtain ⟨⟨d, g1⟩, _, h⟩ := R.quiet_exc h
    cases d with
    | false => cases h
    | true =>
      obtain ⟨fl, _, h⟩ := R.quiet_exc h
      cases fl with
      | nx g2 => exact whileF_exc n g2 h
      | rt v g2 => cases h
theorem s1_whl {c : E} {s : S} {cx : Expr} {body : List Stmt} {pos : Pos} (hc : STst X.nox C.calm io cf c cx) (hs : SS X.nox C.calm io cf s body) : S1 X C io cf (.whl c s) (.While cx body [] pos) := fun g σ H Gz rl => by
  show ResS C (whileF (fun g => tst io cf c g) (fun g => exec io cf s g) FUEL g) _
  cases hr : whileF (fun g => tst io cf c g) (fun g => exec io cf s g) FUEL g with
  | bad => exact trivial
  | exc x => exact absurd hr (whileF_exc _ _)
  | ok fl =>
    refine fun Dn hD => wS.of (PS.nox (ps_while PassesOwn.never PT.w PSs.w)) ?_
    refine ⟨fun m σ H => ∃ g Gz, whileF (fun g => tst io cf c g) (fun g => exec io cf s g) m g = .ok fl ∧ C.Rl g σ H Gz, ⟨FUEL, g, Gz, hr, rl⟩, ?_⟩
    rintro m σ H ⟨g, Gz, hr, rl⟩
    cases m with
    | zero => cases hr
    | succ m =>
      have hr : (R.quiet (tst io cf c g) fun x => match x.1 with
        | false => .ok (.nx x.2)
        | true => R.quiet (exec io cf s x.2) fun y => match y with
          | .nx g => whileF (fun g => tst io cf c g) (fun g => exec io cf s g) m g
          | .rt v g => .ok (.rt v g)) = .ok fl := hr
      obtain ⟨⟨d, g1⟩, h1, hr⟩ := R.quiet_ok hr
      have q := hc g σ H Gz (Fs g σ H) fs_refl rl
      rw [h1] at q
      refine q _ fun d' H1 Gz1 rl1 st1 ed => ?_
      have ed : d = d' := ed
      subst ed
      cases d with
      | false =>
        rw [if_neg (by simp)]
        cases hr
        exact hD σ H1 Gz1 rl1
      | true =>
        rw [if_pos rfl]
        obtain ⟨fl2, h2, hr⟩ := R.quiet_ok hr
        have q2 := hs g1 σ H1 Gz1 rl1
        rw [h2] at q2
        cases fl2 with
        | nx g2 =>
          have hr : whileF (fun g => tst io cf c g) (fun g => exec io cf s g) m g2 = .ok fl := hr
          refine ⟨fun σ' H' => ∃ Gz', C.Rl g2 σ' H' Gz', fun σ' H' ⟨Gz', r⟩ => ⟨m, Nat.lt_succ_self m, g2, Gz', hr, r⟩, q2 _ fun σ' H' Gz' r => ⟨Gz', r⟩⟩
        | rt v g2 =>
          have hr : R.ok (Fl.rt v g2) = .ok fl := hr
          cases hr
          exact ⟨fun _ _ => False, fun _ _ z => z.elim, q2 _ fun b σ' H' Gz' r rr => hD b σ' H' Gz' r rr⟩
theorem forF_exc {p : Pat} {b : G → R Fl} {x : Str} : ∀ (ds : List D) (g : G), forF p b ds g ≠ .exc x
  | [], g => fun h => nomatch h
  | d :: r, g => fun h => by
    have h : (R.quiet (stP p d g) fun g => R.quiet (b g) fun y => match y with
      | .nx g => forF p b r g
      | .rt v g => .ok (.rt v g)) = .exc x := h
    obtain ⟨g1, _, h⟩ := R.quiet_exc h
    obtain ⟨fl, _, h⟩ := R.quiet_exc h
    cases fl with
    | nx g2 => exact forF_exc r g2 h
    | rt v g2 => cases h
/-- the same, with another shared part at the entry -/
def Cz.from (C : Cz) (Gz : Hp) : Cz := { C.calm with Gy := Gz }
theorem Rel.toFrom {g g' : G} {σ σ' : L2.St} {H H' Gz Gz1 : Hp} (rl1 : C.Rl g' σ' H' Gz1) (rl : C.Rl g σ H Gz) (e : Same Gz1 Gz) (e2 : ∀ a, C.Hz a ≠ none → Gz1 a = none → Gz a = none) : (C.from Gz1).Rl g σ H Gz := ⟨rl.len, rl.sub, rl.frz, rl.own, rl.io, rl.sep, rl.keep, e, e2, rl.al0⟩
theorem Rel.unFrom {g g' : G} {σ σ' : L2.St} {H H' Gz Gz1 : Hp} (rl1 : C.Rl g' σ' H' Gz1) (rl : (C.from Gz1).Rl g σ H Gz) : C.Rl g σ H Gz := ⟨rl.len, rl.sub, rl.frz, rl.own, rl.io, rl.sep, rl.keep, rl1.gz0.trans rl.gz0, fun a h1 h2 => rl.gr0 a h1 (rl1.gr0 a h1 h2), rl.al0⟩
theorem s1_for {p : Pat} {it : I} {s : S} {tg iter : Expr} {body : List Stmt} {pos : Pos} {fc : Str → Bool} (ok : Cok X C k) (hfc : ∀ x, fc x = true → X.fn x = true) (hp : isP X.N X.env.scope fc p tg = true) (hi : SI X.nox C.calm io cf it tg iter) (hs : ∀ Gz1, SS X.nox (C.from Gz1) io cf s body) (hfs : ∀ x, foldedSetIterable iter X.env x = pure x) :
    S1 X C io cf (.for_ p it s) (.For tg iter body [] pos) := fun g σ H Gz rl => by
  show ResS C (R.quiet (evI io cf it g) fun x => forF p (fun g => exec io cf s g) x.1 x.2) _
  cases hr : R.quiet (evI io cf it g) fun x => forF p (fun g => exec io cf s g) x.1 x.2 with
  | bad => exact trivial
  | exc x =>
    obtain ⟨y, _, h⟩ := R.quiet_exc hr
    exact absurd h (forF_exc _ _)
  | ok fl =>
    obtain ⟨⟨ds, g1⟩, h1, hr⟩ := R.quiet_ok hr
    have hr : forF p (fun g => exec io cf s g) ds g1 = .ok fl := hr
    refine fun Dn hD => wS.of (PS.nox (ps_for PassesOwn.never ok.calm PI.w PG.w PSs.w hfs)) ?_
    have q := hi g σ H Gz (Fs g σ H) fs_refl rl
    rw [h1] at q
    refine q _ fun J H1 Gz1 rl1 st1 jr => ?_
    have jr : JRep C.K ds J Gz1 := jr
    have rl1' : C.Rl g1 σ H1 Gz1 := rl1
    refine ⟨fun i m σ H => m = ds.length - i ∧ i ≤ ds.length ∧ ∃ g Gz, forF p (fun g => exec io cf s g) (ds.drop i) g = .ok fl ∧ (C.from Gz1).Rl g σ H Gz, ⟨ds.length, by simp, Nat.zero_le _, g1, Gz1, hr, rl1'.toFrom rl1' (Same.refl _) fun _ _ h => h⟩, ?_⟩
    rintro i m σ2 H2 ⟨rfl, hi2, g2, Gz2, hr, rl2⟩
    obtain ⟨hgo, hstop⟩ := jr i H2 Gz2 rl2.gz0 rl2.sub
    by_cases hlt : i < ds.length
    · have hd : ds[i]? = some ds[i] := List.getElem?_eq_getElem hlt
      obtain ⟨go, yl⟩ := hgo _ hd
      rw [List.drop_eq_getElem_cons hlt] at hr
      have hr : (R.quiet (stP p ds[i] g2) fun g => R.quiet (exec io cf s g) fun y => match y with
        | .nx g => forF p (fun g => exec io cf s g) (ds.drop (i + 1)) g
        | .rt v g => .ok (.rt v g)) = .ok fl := hr
      obtain ⟨g3, h3, hr⟩ := R.quiet_ok hr
      obtain ⟨fl2, h4, hr⟩ := R.quiet_ok hr
      -- what the body is to reach
      refine .inr ⟨go, fun σ' H' => ∃ g4 Gz', fl2 = .nx g4 ∧ (C.from Gz1).Rl g4 σ' H' Gz', fun σ' H' ⟨g4, Gz', e4, r⟩ => ⟨ds.length - (i + 1), by omega, rfl, hlt, g4, Gz', by subst e4; exact hr, r⟩, fun x H' y => ?_⟩
      have hy : ∃ Gz', (C.from Gz1).Rl g2 σ2 H' Gz' ∧ Rp C.K Gz' x ds[i] := by
        rcases yl x H' y with ⟨rfl, rp⟩ | ⟨q, vs, hq, rfl, rp⟩
        · exact ⟨Gz2, rl2, rp⟩
        · obtain ⟨r1, _, _, _⟩ := mkNew rl2 (o := vs) hq
          exact ⟨_, r1, rp⟩
      obtain ⟨Gz', rl', rp⟩ := hy
      refine stP_ok (X := X.nox) (C := C.from Gz1) ok.K ok.calm ok.nd hfc hp rl' rp h3 fun σ3 rl3 _ _ _ => ?_
      have q2 := hs Gz1 g3 σ3 H' Gz' rl3
      rw [h4] at q2
      cases fl2 with
      | nx g4 => exact q2 _ fun σ' H' Gz' r => ⟨g4, Gz', rfl, r⟩
      | rt v g4 =>
        have hr : R.ok (Fl.rt v g4) = .ok fl := hr
        cases hr
        refine q2 _ fun b σ' H' Gz' r rr => hD b σ' H' Gz' (rl1'.unFrom r) ?_
        cases v <;> exact rr
    · have ei : i = ds.length := by omega
      subst ei
      rw [List.drop_length] at hr
      have hr : R.ok (Fl.nx g2) = .ok fl := hr
      cases hr
      exact .inl ⟨hstop (Nat.le_refl _), hD σ2 H2 Gz2 (rl1'.unFrom rl2)⟩
end
end Dat

/-! Dat, part B21: every expression. -/
namespace Dat
open PySem PySem.Spec PyProof.Rows L2
open PySem.W
structure Ctx (N : List Str) (fn : Nat → Option Str) (io : Io) (cf : Caller) (k : Nat) (sc : Scope) (X : Cx) (C : Cz) : Prop where
  ok : Cok X C k
  N : X.N = N
  sc : X.env.scope = sc
  fn : ∀ f x, fn f = some x → FnAt X k C.ca x (io f) (cf f)
section
variable {N : List Str} {fn : Nat → Option Str} {io : Io} {cf : Caller} {k : Nat}
theorem Ctx.blk {sc scope : Scope} {X X' : Cx} {C : Cz} (c : Ctx N fn io cf k sc X C) (h : Blk X scope X') : Ctx N fn io cf k (relS scope sc) X' C.calm := by
  refine ⟨blk_cok c.ok h, ?_, ?_, ?_⟩
  · obtain ⟨s, H, a, cl, fp, rfl⟩ := h
    exact c.N
  · obtain ⟨s, H, a, cl, fp, rfl⟩ := h
    rw [← c.sc]
    rfl
  · obtain ⟨s, H, a, cl, fp, rfl⟩ := h
    exact c.fn
theorem Ctx.nox {sc : Scope} {X : Cx} {C : Cz} (c : Ctx N fn io cf k sc X C) : Ctx N fn io cf k sc X.nox C.calm := ⟨nox_cok c.ok, c.N, c.sc, c.fn⟩
def GE (N : List Str) (fn : Nat → Option Str) (io : Io) (cf : Caller) (k : Nat) (e : E) : Prop := ∀ (ex : Expr) (sc : Scope), isE N fn sc e ex = true → ∀ (X : Cx) (C : Cz), Ctx N fn io cf k sc X C → SE X C io cf e ex ∧ (noIf ex = true → STst X C io cf e ex)
def GA (N : List Str) (fn : Nat → Option Str) (io : Io) (cf : Caller) (k : Nat) (a : A) : Prop := ∀ (es : List Expr) (sc : Scope), isA N fn sc a es = true → a.len = es.length ∧ es.all noStar = true ∧ ∀ (X : Cx) (C : Cz), Ctx N fn io cf k sc X C → SA X C io cf a es ∧ SD X C io cf a es ∧ (es.all noIf = true → SAnd X C io cf a es ∧ SOr X C io cf a es) ∧ (es ≠ [] → SAndV X C io cf a es ∧ SOrV X C io cf a es)
def GO (N : List Str) (fn : Nat → Option Str) (io : Io) (cf : Caller) (k : Nat) (o : O) : Prop := (∀ (ex : Option Expr) (sc : Scope), isO N fn sc o ex = true → ∀ (X : Cx) (C : Cz), Ctx N fn io cf k sc X C → SO X C io cf o ex) ∧ ∀ (ifs : List Expr) (sc : Scope), isF N fn sc o ifs = true → ∀ (X : Cx) (C : Cz), Ctx N fn io cf k sc X C → SC X C io cf o ifs
def GI (N : List Str) (fn : Nat → Option Str) (io : Io) (cf : Caller) (k : Nat) (i : I) : Prop := ∀ (tg iter : Expr) (sc : Scope), isI N fn sc i tg iter = true → ∀ (X : Cx) (C : Cz), Ctx N fn io cf k sc X C → SI X C io cf i tg iter
theorem ge_plain {e : E} {ex : Expr} {X : Cx} {C : Cz} (h : SE X C io cf e ex) (hp : plainT ex = true) : SE X C io cf e ex ∧ (noIf ex = true → STst X C io cf e ex) := ⟨h, fun _ => st_plain h hp⟩
theorem ge_cst (d : D) : GE N fn io cf k (.cst d) := fun ex sc h X C c => by
  cases ex <;> first | (cases h; done) | skip
  exact ge_plain (se_cst h) rfl
theorem ge_var (i : Nat) : GE N fn io cf k (.var i) := fun ex sc h X C c => by
  cases ex <;> first | (cases h; done) | skip
  exact ge_plain (se_var (by rw [c.N, c.sc]; exact h)) rfl
theorem ge_pv (i : Nat) : GE N fn io cf k (.pv i) := fun ex sc h X C c => by
  cases ex <;> first | (cases h; done) | skip
  exact ge_plain (se_pv (by rw [c.N, c.sc]; exact h)) rfl
theorem ge_mv (i : Nat) : GE N fn io cf k (.mv i) := fun ex sc h X C c => by
  cases ex <;> first | (cases h; done) | skip
  exact ge_plain (se_mv (by rw [c.N, c.sc]; exact h)) rfl
theorem ge_tup {a : A} (ha : GA N fn io cf k a) : GE N fn io cf k (.tup a) := fun ex sc h X C c => by
  cases ex <;> first | (cases h; done) | skip
  rename_i es n p
  have h : (isA N fn sc a es && decide (a.len ≤ 1000)) = true := h
  rw [Bool.and_eq_true, decide_eq_true_eq] at h
  exact ge_plain (se_tup ((ha es sc h.1).2.2 X C c).2.1 h.2) rfl
theorem ge_lst {a : A} (ha : GA N fn io cf k a) : GE N fn io cf k (.lst a) := fun ex sc h X C c => by
  cases ex <;> first | (cases h; done) | skip
  rename_i es p
  have h : (isA N fn sc a es && decide (a.len ≤ 1000)) = true := h
  rw [Bool.and_eq_true, decide_eq_true_eq] at h
  exact ge_plain (se_lst ((ha es sc h.1).2.2 X C c).2.1 h.2) rfl
theorem ge_dct (a : A) : GE N fn io cf k (.dct a) := fun ex sc h X C c => by
  cases a with
  | cons e a => cases ex <;> cases h
  | nil =>
    cases ex <;> first | (cases h; done) | skip
    rename_i ks vs p
    cases ks <;> cases vs <;> first | (cases h; done) | skip
    exact ge_plain se_dct0 rfl
theorem ge_bin {o : Op} {a b : E} (ha : GE N fn io cf k a) (hb : GE N fn io cf k b) : GE N fn io cf k (.bin o a b) := fun ex sc h X C c => by
  cases ex <;> first | (cases h; done) | skip
  rename_i l op r p
  have h : (opIs o op && isE N fn sc a l && isE N fn sc b r) = true := h
  simp only [Bool.and_eq_true] at h
  exact ge_plain (se_bin c.ok.K h.1.1 (ha l sc h.1.2 X C c).1 (hb r sc h.2 X C c).1) rfl
theorem ge_not {a : E} (ha : GE N fn io cf k a) : GE N fn io cf k (.not a) := fun ex sc h X C c => by
  cases ex <;> first | (cases h; done) | skip
  rename_i op x p
  cases op <;> first | (cases h; done) | skip
  have h : (isE N fn sc a x && noIf x) = true := h
  simp only [Bool.and_eq_true] at h
  obtain ⟨h1, h2⟩ := ha x sc h.1 X C c
  exact ⟨se_not h1, fun _ => st_not (h2 h.2)⟩
theorem ge_and {a : A} (ha : GA N fn io cf k a) : GE N fn io cf k (.and a) := fun ex sc h X C c => by
  cases ex <;> first | (cases h; done) | skip
  rename_i op xs p
  cases op <;> first | (cases h; done) | skip
  cases xs with
  | nil => cases h
  | cons x xs =>
    cases xs with
    | nil => cases h
    | cons y xs =>
      have h : (isA N fn sc a (x :: y :: xs) && (x :: y :: xs).all noIf) = true := h
      rw [Bool.and_eq_true] at h
      obtain ⟨_, _, q⟩ := ha _ sc h.1
      obtain ⟨_, _, q1, q2⟩ := q X C c
      exact ⟨se_and (q2 (fun z => nomatch z)).1, fun _ => st_and (q1 h.2).1⟩
theorem ge_or {a : A} (ha : GA N fn io cf k a) : GE N fn io cf k (.or a) := fun ex sc h X C c => by
  cases ex <;> first | (cases h; done) | skip
  rename_i op xs p
  cases op <;> first | (cases h; done) | skip
  cases xs with
  | nil => cases h
  | cons x xs =>
    cases xs with
    | nil => cases h
    | cons y xs =>
      have h : (isA N fn sc a (x :: y :: xs) && (x :: y :: xs).all noIf) = true := h
      rw [Bool.and_eq_true] at h
      obtain ⟨_, _, q⟩ := ha _ sc h.1
      obtain ⟨_, _, q1, q2⟩ := q X C c
      exact ⟨se_or (q2 (fun z => nomatch z)).2, fun _ => st_or (q1 h.2).2⟩
theorem ge_cmp {o : Cm} {a b : E} (ha : GE N fn io cf k a) (hb : GE N fn io cf k b) : GE N fn io cf k (.cmp o a b) := fun ex sc h X C c => by
  cases ex <;> first | (cases h; done) | skip
  rename_i l ops rs p
  cases ops with
  | nil => cases h
  | cons op ops =>
    cases ops with
    | cons _ _ => cases h
    | nil =>
      cases rs with
      | nil => cases h
      | cons r rs =>
        cases rs with
        | cons _ _ => cases h
        | nil =>
          have h : (cmIs o op && isE N fn sc a l && isE N fn sc b r && noSet r) = true := h
          simp only [Bool.and_eq_true] at h
          exact ⟨se_cmp c.ok h.1.1.1 h.2 (ha l sc h.1.1.2 X C c).1 (hb r sc h.1.2 X C c).1, fun _ => st_cmp c.ok h.1.1.1 h.2 (ha l sc h.1.1.2 X C c).1 (hb r sc h.1.2 X C c).1⟩
theorem ge_chn {a b d : E} (ha : GE N fn io cf k a) (hb : GE N fn io cf k b) (hd : GE N fn io cf k d) : GE N fn io cf k (.chn a b d) := fun ex sc h X C c => by
  have hx : ∃ l m r p, ex = .Compare l [.LtE, .LtE] [m, r] p ∧ (isE N fn sc a l && isE N fn sc b m && isE N fn sc d r && noSet r) = true := by
    cases ex <;> first | (cases h; done) | skip
    rename_i l ops rs p
    cases ops with
    | nil => cases h
    | cons o1 ops =>
      cases ops with
      | nil => cases o1 <;> cases h
      | cons o2 ops =>
        cases ops with
        | cons _ _ => cases o1 <;> cases o2 <;> cases h
        | nil =>
          cases rs with
          | nil => cases o1 <;> cases o2 <;> cases h
          | cons m rs =>
            cases rs with
            | nil => cases o1 <;> cases o2 <;> cases h
            | cons r rs =>
              cases rs with
              | cons _ _ => cases o1 <;> cases o2 <;> cases h
              | nil =>
                cases o1 <;> first | (cases h; done) | skip
                cases o2 <;> first | (cases h; done) | skip
                exact ⟨l, m, r, p, rfl, h⟩
  clear h
  obtain ⟨l, m, r, p, rfl, h⟩ := hx
  simp only [Bool.and_eq_true] at h
  have h1 := (ha l sc h.1.1.1 X C c).1
  have h2 := (hb m sc h.1.1.2 X C c).1
  have h3 := (hd r sc h.1.2 X C c).1
  exact ⟨se_chn c.ok h.2 h1 h2 h3, fun _ => st_chn c.ok h.2 h1 h2 h3⟩
theorem ge_ife {t a b : E} (ht : GE N fn io cf k t) (ha : GE N fn io cf k a) (hb : GE N fn io cf k b) : GE N fn io cf k (.ife t a b) := fun ex sc h X C c => by
  cases ex <;> first | (cases h; done) | skip
  rename_i tx x y p
  have h : (isE N fn sc t tx && isE N fn sc a x && isE N fn sc b y && noIf tx) = true := h
  simp only [Bool.and_eq_true] at h
  exact ⟨se_ife ((ht tx sc h.1.1.1 X C c).2 h.2) (ha x sc h.1.1.2 X C c).1 (hb y sc h.1.2 X C c).1, fun z => nomatch z⟩
theorem ge_sub {a i : E} (ha : GE N fn io cf k a) (hi : GE N fn io cf k i) : GE N fn io cf k (.sub a i) := fun ex sc h X C c => by
  cases ex <;> first | (cases h; done) | skip
  rename_i x y p
  have h : (isE N fn sc a x && isE N fn sc i y && noSlice y) = true := h
  simp only [Bool.and_eq_true] at h
  exact ge_plain (se_sub c.ok h.2 (ha x sc h.1.1 X C c).1 (hi y sc h.1.2 X C c).1) rfl
theorem ge_slc {a : E} {lo hi : O} (ha : GE N fn io cf k a) (hl : GO N fn io cf k lo) (hh : GO N fn io cf k hi) : GE N fn io cf k (.slc a lo hi) := fun ex sc h X C c => by
  cases ex <;> first | (cases h; done) | skip
  rename_i x y p
  cases y <;> first | (cases h; done) | skip
  rename_i l u st p2
  cases st <;> first | (cases h; done) | skip
  have h : (isE N fn sc a x && isO N fn sc lo l && isO N fn sc hi u) = true := h
  simp only [Bool.and_eq_true] at h
  exact ge_plain (se_slc c.ok (ha x sc h.1.1 X C c).1 (hl.1 l sc h.1.2 X C c) (hh.1 u sc h.2 X C c)) rfl
theorem stars_no {env : Env} {pos : Pos} : ∀ {es : List Expr}, es.all noStar = true → (PySem.backTo pos (starEach es env)).any (·.1) = false
  | [], _ => rfl
  | x :: xs, h => by
    rw [List.all_cons, Bool.and_eq_true] at h
    rw [starEach_no h.1]
    show (false || (PySem.backTo pos (starEach xs env)).any (·.1)) = false
    rw [stars_no h.2]
    rfl
theorem ge_call {f : Nat} {a : A} (ha : GA N fn io cf k a) : GE N fn io cf k (.call f a) := fun ex sc h X C c => by
  cases ex <;> first | (cases h; done) | skip
  rename_i fx es ks p
  cases fx <;> first | (cases h; done) | skip
  rename_i x px
  cases es with
  | nil => cases h
  | cons e es =>
    cases ks with
    | cons _ _ => cases h
    | nil =>
      have h : (decide (fn f = some x) && glB sc x && okName x && isA N fn sc a (e :: es)) = true := h
      simp only [Bool.and_eq_true, decide_eq_true_eq] at h
      obtain ⟨⟨⟨hx, hg⟩, hn⟩, ha'⟩ := h
      obtain ⟨_, hst, q⟩ := ha _ sc ha'
      obtain ⟨sa, _⟩ := q X C c
      rw [List.all_cons, Bool.and_eq_true] at hst
      have hdb : (x == ("__debug__" : Str)) = false := by
        unfold okName at hn
        simp only [Bool.and_eq_true, Bool.not_eq_true'] at hn
        exact hn.1
      exact ge_plain (se_call c.ok (c.fn f x hx) (by rw [c.sc]; exact hg) hdb hst.1 (stars_no hst.2) sa) rfl
theorem ge_b1 {f : F1} {a : E} (ha : GE N fn io cf k a) : GE N fn io cf k (.b1 f a) := fun ex sc h X C c => by
  cases f with
  | neg =>
    cases ex <;> first | (cases h; done) | skip
    · rename_i op x p
      cases op <;> first | (cases h; done) | skip
      exact ge_plain (se_neg (ha x sc h X C c).1) rfl
    · rename_i fx es ks p
      exfalso
      cases fx <;> first | (cases h; done) | skip
      cases es with
      | nil => cases h
      | cons e es =>
        cases es with
        | cons _ _ => cases h
        | nil => cases ks <;> cases h
  | sortset =>
    exfalso
    cases ex <;> first | (cases h; done) | skip
    rename_i fx es ks p
    cases fx <;> first | (cases h; done) | skip
    cases es with
    | nil => cases h
    | cons e es =>
      cases es with
      | cons _ _ => cases h
      | nil => cases ks <;> cases h
  | lenset =>
    cases ex <;> first | (cases h; done) | skip
    rename_i fx es ks p
    cases fx <;> first | (cases h; done) | skip
    rename_i x px
    cases es with
    | nil => cases h
    | cons e es =>
      cases es with
      | cons _ _ => simp [isE] at h
      | nil =>
        cases ks with
        | cons _ _ => simp [isE] at h
        | nil =>
          cases e <;> first | (cases h; done) | skip
          rename_i gx gs gks gp
          cases gx <;> first | (cases h; done) | skip
          rename_i y py
          cases gs with
          | nil => cases h
          | cons z gs =>
            cases gs with
            | cons _ _ => cases h
            | nil =>
              cases gks with
              | cons _ _ => cases h
              | nil =>
                have h : (decide (x = ("len" : Str)) && glB sc x && decide (y = ("set" : Str)) && glB sc y && isE N fn sc a z && noStar z) = true := h
                simp only [Bool.and_eq_true, decide_eq_true_eq] at h
                obtain ⟨⟨⟨⟨⟨rfl, h2⟩, rfl⟩, h4⟩, h5⟩, h6⟩ := h
                exact ge_plain (se_lenset c.ok (by rw [c.sc]; exact h2) (by rw [c.sc]; exact h4) h6 (ha z sc h5 X C c).1) rfl
  | _ =>
    cases ex <;> first | (cases h; done) | skip
    rename_i fx es ks p
    cases fx <;> first | (cases h; done) | skip
    rename_i x px
    cases es with
    | nil => cases h
    | cons z es =>
      cases es with
      | cons _ _ => cases h
      | nil =>
        cases ks with
        | cons _ _ => cases h
        | nil =>
          simp only [isE, Bool.and_eq_true, decide_eq_true_eq] at h
          obtain ⟨⟨⟨⟨_, h1⟩, h2⟩, h3⟩, h4⟩ := h
          exact ge_plain (se_b1 c.ok rfl h1 (by rw [c.sc]; exact h2) h4 (ha z sc h3 X C c).1) rfl
end
end Dat

/-! Dat, part B22: every expression, the rest. -/
namespace Dat
open PySem PySem.Spec PyProof.Rows L2
open PySem.W
section
variable {N : List Str} {fn : Nat → Option Str} {io : Io} {cf : Caller} {k : Nat}
theorem ge_rngl {tu : Bool} {a : A} (ha : ∀ e, a = .cons e .nil → GE N fn io cf k e) : GE N fn io cf k (.rngl tu a) := fun ex sc h X C c => by
  cases ex <;> first | (cases h; done) | skip
  rename_i fx es ks p
  cases fx <;> first | (cases h; done) | skip
  rename_i x px
  cases es with
  | nil => cases h
  | cons e es =>
    cases es with
    | cons _ _ => cases e <;> first | (cases h; done) | (simp [isE] at h; done)
    | nil =>
      cases ks with
      | cons _ _ => cases e <;> first | (cases h; done) | (simp [isE] at h; done)
      | nil =>
        cases e <;> first | (cases h; done) | skip
        rename_i gx gs gks gp
        cases gx <;> first | (cases h; done) | skip
        rename_i y py
        cases gks with
        | cons _ _ => cases h
        | nil =>
          have h : (decide (x = (if tu then "tuple" else "list" : Str)) && glB sc x && decide (y = ("range" : Str)) && glB sc y && isA N fn sc a gs && decide (gs.length = 1)) = true := h
          simp only [Bool.and_eq_true, decide_eq_true_eq] at h
          obtain ⟨⟨⟨⟨⟨h1, h2⟩, rfl⟩, h4⟩, h5⟩, h6⟩ := h
          cases gs with
          | nil => cases h6
          | cons z gs =>
            cases gs with
            | cons _ _ => cases h6
            | nil =>
              cases a with
              | nil => cases h5
              | cons e1 a1 =>
                cases a1 with
                | cons _ _ => simp [isA] at h5
                | nil =>
                  have h5 : (isE N fn sc e1 z && noStar z && true) = true := h5
                  simp only [Bool.and_eq_true] at h5
                  exact ge_plain (se_rngl c.ok h1 (by rw [c.sc]; exact h2) (by rw [c.sc]; exact h4) h5.1.2 (ha e1 rfl z sc h5.1.1 X C c).1) rfl
theorem ge_isi {a : E} {t : Ty} (ha : GE N fn io cf k a) : GE N fn io cf k (.isi a t) := fun ex sc h X C c => by
  cases ex <;> first | (cases h; done) | skip
  rename_i fx es ks p
  cases fx <;> first | (cases h; done) | skip
  rename_i x px
  cases es with
  | nil => cases h
  | cons z es =>
    cases es with
    | nil => cases h
    | cons w es =>
      cases w <;> first | (cases h; done) | skip
      rename_i y py
      cases es with
      | cons _ _ => cases h
      | nil =>
        cases ks with
        | cons _ _ => cases h
        | nil =>
          have h : (decide (x = ("isinstance" : Str)) && glB sc x && decide (y = tyName t) && glB sc y && isE N fn sc a z && noStar z) = true := h
          simp only [Bool.and_eq_true, decide_eq_true_eq] at h
          obtain ⟨⟨⟨⟨⟨rfl, h2⟩, rfl⟩, h4⟩, h5⟩, h6⟩ := h
          exact ge_plain (se_isi c.ok (by rw [c.sc]; exact h2) (by rw [c.sc]; exact h4) h6 (ha z sc h5 X C c).1) rfl
theorem ge_me {m : M2} {a b : E} (ha : GE N fn io cf k a) (hb : GE N fn io cf k b) : GE N fn io cf k (.me m a b) := fun ex sc h X C c => by
  cases ex <;> first | (cases h; done) | skip
  rename_i fx es ks q
  cases fx <;> first | (cases h; done) | skip
  rename_i x y p
  cases es with
  | nil => cases h
  | cons z es =>
    cases es with
    | cons _ _ => cases h
    | nil =>
      cases ks with
      | cons _ _ => cases h
      | nil =>
        have h : (m2Ok m && decide (y = m2Name m) && isE N fn sc a x && isE N fn sc b z && noStar z && okRecv x && (p.endLine == q.line)) = true := h
        simp only [Bool.and_eq_true, decide_eq_true_eq] at h
        obtain ⟨⟨⟨⟨⟨⟨h1, h2⟩, h3⟩, h4⟩, h5⟩, h6⟩, h7⟩ := h
        exact ge_plain (se_me c.ok h1 h2 h5 h6 h7 (ha x sc h3 X C c).1 (hb z sc h4 X C c).1) rfl
theorem ge_pop0 {i : Nat} : GE N fn io cf k (.pop0 i) := fun ex sc h X C c => by
  cases ex <;> first | (cases h; done) | skip
  rename_i fx es ks q
  cases fx <;> first | (cases h; done) | skip
  rename_i x y p
  cases x <;> first | (cases h; done) | skip
  rename_i x px
  cases es with
  | cons _ _ => cases h
  | nil =>
    cases ks with
    | cons _ _ => cases h
    | nil =>
      have h : (decide (y = ("pop" : Str)) && isN N sc i x && (p.endLine == q.line)) = true := h
      simp only [Bool.and_eq_true, decide_eq_true_eq] at h
      obtain ⟨⟨rfl, h2⟩, h3⟩ := h
      exact ge_plain (se_pop0 c.ok (by rw [c.N, c.sc]; exact h2) h3) rfl
theorem ge_popi {i : Nat} {e : E} (he : GE N fn io cf k e) : GE N fn io cf k (.popi i e) := fun ex sc h X C c => by
  cases ex <;> first | (cases h; done) | skip
  rename_i fx es ks q
  cases fx <;> first | (cases h; done) | skip
  rename_i x y p
  cases x <;> first | (cases h; done) | skip
  rename_i x px
  cases es with
  | nil => cases h
  | cons z es =>
    cases es with
    | cons _ _ => cases h
    | nil =>
      cases ks with
      | cons _ _ => cases h
      | nil =>
        have h : (decide (y = ("pop" : Str)) && isN N sc i x && isE N fn sc e z && noStar z && (p.endLine == q.line)) = true := h
        simp only [Bool.and_eq_true, decide_eq_true_eq] at h
        obtain ⟨⟨⟨⟨rfl, h2⟩, h3⟩, h4⟩, h5⟩ := h
        exact ge_plain (se_popi c.ok (by rw [c.N, c.sc]; exact h2) h4 h5 (he z sc h3 X C c).1) rfl
/-- what a comprehension's text is -/
structure LcT (N : List Str) (fn : Nat → Option Str) (sc : Scope) (e : E) (p : Pat) (it : I) (o : O) (elt tg iter : Expr) (ifs : List Expr) (scope : Scope) : Prop where
  i : isI N fn sc it tg iter = true
  ns : noSet iter = true
  blk : blkC N sc scope (ownOf N p.slots) = true
  p : isP N (relS scope sc) (fun x => decide (scope.names.lookup x = some .cell)) p tg = true
  e : isE N fn (relS scope sc) e elt = true
  f : isF N fn (relS scope sc) o ifs = true
theorem lc_inv {e : E} {p : Pat} {it : I} {o : O} {ex : Expr} {sc : Scope} (h : isE N fn sc (.lc e p it o) ex = true) : ∃ elt tg iter ifs scope pos, ex = .ListComp elt [⟨tg, iter, ifs, 0⟩] scope pos ∧ LcT N fn sc e p it o elt tg iter ifs scope := by
  cases ex <;> first | (cases h; done) | skip
  rename_i elt gs scope pos
  cases gs with
  | nil => cases h
  | cons gg gs =>
    obtain ⟨tg, iter, ifs, n⟩ := gg
    cases gs with
    | cons _ _ => simp [isE] at h
    | nil =>
      by_cases hn : n = 0
      case neg => simp [isE, hn] at h
      case pos =>
        subst hn
        have h : (isI N fn sc it tg iter && noSet iter && blkC N sc scope (ownOf N p.slots) && isP N (relS scope sc) (fun x => decide (scope.names.lookup x = some .cell)) p tg && isE N fn (relS scope sc) e elt && isF N fn (relS scope sc) o ifs) = true := h
        simp only [Bool.and_eq_true] at h
        obtain ⟨⟨⟨⟨⟨h1, h2⟩, h3⟩, h4⟩, h5⟩, h6⟩ := h
        exact ⟨elt, tg, iter, ifs, scope, pos, rfl, h1, h2, h3, h4, h5, h6⟩
/-- what it asks for -/
structure LcR (X : Cx) (C : Cz) (io : Io) (cf : Caller) (e : E) (p : Pat) (it : I) (o : O) (elt tg iter : Expr) (ifs : List Expr) (scope : Scope) : Prop where
  i : SI X C io cf it tg iter
  b : BlkOk X.N X.env.scope scope (ownOf X.N p.slots)
  st : ∀ X', Blk X scope X' → X'.K = C.K ∧ X'.calm = true ∧ X'.N.Nodup ∧ (∀ x, decide (scope.names.lookup x = some .cell) = true → X'.fn x = true) ∧ isP X'.N X'.env.scope (fun x => decide (scope.names.lookup x = some .cell)) p tg = true
  c : ∀ X', Blk X scope X' → SC X' C.calm io cf o ifs
  e : ∀ X', Blk X scope X' → SE X' C.calm io cf e elt
  s : ∀ x, foldedSetIterable iter X.env x = pure x
theorem lc_ready {e : E} {p : Pat} {it : I} {o : O} {elt tg iter : Expr} {ifs : List Expr} {scope sc : Scope} {X : Cx} {C : Cz} (he : GE N fn io cf k e) (hi : GI N fn io cf k it) (ho : GO N fn io cf k o) (t : LcT N fn sc e p it o elt tg iter ifs scope) (c : Ctx N fn io cf k sc X C) : LcR X C io cf e p it o elt tg iter ifs scope := by
  refine ⟨hi tg iter sc t.i X C c, by rw [c.N, c.sc]; exact blkOk_by t.blk, fun X' hX' => ?_, fun X' hX' => ho.2 ifs _ t.f X' C.calm (c.blk hX'), fun X' hX' => (he elt _ t.e X' C.calm (c.blk hX')).1, noSet_fold t.ns⟩
  have c' := c.blk hX'
  refine ⟨c'.ok.K, c'.ok.calm, c'.ok.nd, fun x hx => ?_, by rw [c'.N, c'.sc]; exact t.p⟩
  obtain ⟨s, H, a, cl, fp, rfl⟩ := hX'
  have hx : scope.names.lookup x = some .cell := of_decide_eq_true hx
  show (scope.names.lookup x == some .cell) = true
  rw [hx]
  rfl
theorem ge_lc {e : E} {p : Pat} {it : I} {o : O} (he : GE N fn io cf k e) (hi : GI N fn io cf k it) (ho : GO N fn io cf k o) : GE N fn io cf k (.lc e p it o) := fun ex sc h X C c => by
  obtain ⟨elt, tg, iter, ifs, scope, pos, rfl, t⟩ := lc_inv h
  have r := lc_ready he hi ho t c
  exact ge_plain (se_lc c.ok r.i r.b r.st r.c r.e r.s) rfl
theorem ga_nil : GA N fn io cf k .nil := fun es sc h => by
  cases es with
  | cons _ _ => cases h
  | nil => exact ⟨rfl, rfl, fun X C c => ⟨sa_nil, sd_nil, fun _ => ⟨sand_nil, sor_nil⟩, fun z => absurd rfl z⟩⟩
theorem ga_cons {e : E} {a : A} (he : GE N fn io cf k e) (ha : GA N fn io cf k a) : GA N fn io cf k (.cons e a) := fun es sc h => by
  cases es with
  | nil => cases h
  | cons x xs =>
    have h : (isE N fn sc e x && noStar x && isA N fn sc a xs) = true := h
    simp only [Bool.and_eq_true] at h
    obtain ⟨l, st, q⟩ := ha xs sc h.2
    refine ⟨by show a.len + 1 = xs.length + 1; rw [l], by rw [List.all_cons, h.1.2, st]; rfl, fun X C c => ?_⟩
    obtain ⟨q1, q2, q3, q4⟩ := q X C c
    obtain ⟨e1, e2⟩ := he x sc h.1.1 X C c
    refine ⟨sa_cons h.1.2 e1 q1, sd_cons h.1.2 e1 q2, fun z => ?_, fun _ => ?_⟩
    · rw [List.all_cons, Bool.and_eq_true] at z
      exact ⟨sand_cons (e2 z.1) (q3 z.2).1, sor_cons (e2 z.1) (q3 z.2).2⟩
    · cases xs with
      | nil =>
        cases a with
        | nil => exact ⟨sandV_one e1, sorV_one e1⟩
        | cons _ _ => cases l
      | cons y ys => exact ⟨sandV_cons e1 (q4 (fun z => nomatch z)).1, sorV_cons e1 (q4 (fun z => nomatch z)).2⟩
theorem go_no : GO N fn io cf k .no := ⟨fun ex sc h X C c => by
  cases ex with
  | some _ => cases h
  | none => exact so_no, fun ifs sc h X C c => by
  cases ifs with
  | cons _ _ => cases h
  | nil => exact sc_no⟩
theorem go_yes {e : E} (he : GE N fn io cf k e) : GO N fn io cf k (.yes e) := ⟨fun ex sc h X C c => by
  cases ex with
  | none => cases h
  | some x => exact so_yes (he x sc h X C c).1, fun ifs sc h X C c => by
  cases ifs with
  | nil => cases h
  | cons x ifs =>
    cases ifs with
    | cons _ _ => cases h
    | nil =>
      have h : (isE N fn sc e x && noIf x) = true := h
      rw [Bool.and_eq_true] at h
      exact sc_yes ((he x sc h.1 X C c).2 h.2)⟩
theorem gi_e {e : E} (he : GE N fn io cf k e) : GI N fn io cf k (.e e) := fun tg iter sc h X C c => by
  have h : isE N fn sc e iter = true := by
    cases tg <;> exact h
  exact si_e c.ok (he iter sc h X C c).1
theorem gi_rng {a : A} (ha : GA N fn io cf k a) : GI N fn io cf k (.rng a) := fun tg iter sc h X C c => by
  cases iter <;> first | (cases tg <;> cases h; done) | skip
  rename_i fx es ks p
  cases fx <;> first | (cases tg <;> cases h; done) | skip
  rename_i x px
  cases ks with
  | cons _ _ => cases tg <;> cases h
  | nil =>
    have h : (decide (x = ("range" : Str)) && glB sc x && isA N fn sc a es && (decide (es.length = 1) || decide (es.length = 2))) = true := by cases tg <;> exact h
    simp only [Bool.and_eq_true, Bool.or_eq_true, decide_eq_true_eq] at h
    obtain ⟨⟨⟨rfl, h2⟩, h3⟩, h4⟩ := h
    obtain ⟨l, st, q⟩ := ha es sc h3
    refine si_rng c.ok (by rw [c.sc]; exact h2) (q X C c).2.1 l ?_
    cases es with
    | nil => rcases h4 with z | z <;> cases z
    | cons x es =>
      rw [List.all_cons, Bool.and_eq_true] at st
      cases es with
      | nil => exact ⟨x, .inl ⟨rfl, st.1⟩⟩
      | cons y es =>
        cases es with
        | nil =>
          rw [List.all_cons, Bool.and_eq_true] at st
          exact ⟨x, .inr ⟨y, rfl, st.1, st.2.1⟩⟩
        | cons _ _ => rcases h4 with z | z <;> simp at z
theorem gi_enu {e : E} (he : GE N fn io cf k e) : GI N fn io cf k (.enu e) := fun tg iter sc h X C c => by
  cases tg <;> first | (cases iter <;> cases h; done) | skip
  rename_i elts kk tpos
  cases iter <;> first | (cases h; done) | skip
  rename_i fx es ks p
  cases fx <;> first | (cases h; done) | skip
  rename_i x px
  cases es with
  | nil => cases h
  | cons z es =>
    cases es with
    | cons _ _ => cases h
    | nil =>
      cases ks with
      | cons _ _ => cases h
      | nil =>
        have h : (decide (x = ("enumerate" : Str)) && glB sc x && isE N fn sc e z && noStar z) = true := h
        simp only [Bool.and_eq_true, decide_eq_true_eq] at h
        obtain ⟨⟨⟨rfl, h2⟩, h3⟩, h4⟩ := h
        exact si_enu c.ok (by rw [c.sc]; exact h2) h4 (he z sc h3 X C c).1
mutual
theorem allE : ∀ e : E, GE N fn io cf k e
  | .cst d => ge_cst d
  | .var i => ge_var i
  | .pv i => ge_pv i
  | .mv i => ge_mv i
  | .glo x d => fun ex sc h => by cases ex <;> cases h
  | .tup a => ge_tup (allA a)
  | .lst a => ge_lst (allA a)
  | .dct a => ge_dct a
  | .bin o a b => ge_bin (allE a) (allE b)
  | .not a => ge_not (allE a)
  | .and a => ge_and (allA a)
  | .or a => ge_or (allA a)
  | .cmp o a b => ge_cmp (allE a) (allE b)
  | .chn a b c => ge_chn (allE a) (allE b) (allE c)
  | .inv n a b => fun ex sc h => by cases ex <;> cases h
  | .ife c a b => ge_ife (allE c) (allE a) (allE b)
  | .sub a i => ge_sub (allE a) (allE i)
  | .slc a lo hi => ge_slc (allE a) (allO lo) (allO hi)
  | .rev a => fun ex sc h => by cases ex <;> cases h
  | .call f a => ge_call (allA a)
  | .b1 f a => ge_b1 (allE a)
  | .mm m a b => fun ex sc h => by cases ex <;> cases h
  | .rngl tu (.cons e .nil) => ge_rngl fun e' h => by cases h; exact allE e
  | .rngl tu .nil => ge_rngl fun e' h => by cases h
  | .rngl tu (.cons e (.cons _ _)) => ge_rngl fun e' h => by cases h
  | .dzip a b => fun ex sc h => by cases ex <;> cases h
  | .isi a t => ge_isi (allE a)
  | .get a b c => fun ex sc h => by cases ex <;> cases h
  | .me m a x => ge_me (allE a) (allE x)
  | .pop0 i => ge_pop0
  | .popi i e => ge_popi (allE e)
  | .lc e p i c => ge_lc (allE e) (allI i) (allO c)
  | .lc2 e p i q j c => fun ex sc h => by cases ex <;> cases h
theorem allA : ∀ a : A, GA N fn io cf k a
  | .nil => ga_nil
  | .cons e a => ga_cons (allE e) (allA a)
theorem allO : ∀ o : O, GO N fn io cf k o
  | .no => go_no
  | .yes e => go_yes (allE e)
theorem allI : ∀ i : I, GI N fn io cf k i
  | .e x => gi_e (allE x)
  | .rng a => gi_rng (allA a)
  | .enu x => gi_enu (allE x)
  | .zip a => fun tg iter sc h => by cases tg <;> cases iter <;> cases h
  | .vals x => fun tg iter sc h => by cases tg <;> cases iter <;> cases h
end
end
end Dat

/-! Dat, part B23: every statement. -/
namespace Dat
open PySem PySem.Spec PyProof.Rows L2
open PySem.W
def noComp : Expr → Bool
  | .ListComp _ _ _ _ => false
  | .SetComp _ _ _ _ => false
  | .DictComp _ _ _ _ _ => false
  | _ => true
/-- how a, b = x, y is stored -/
def swB (ts vs : List Expr) (sc : Scope) : Option (Option (List Str)) :=
  if !(ts.length == 2 || ts.length == 3) || vs.length != ts.length then some none else
  if (vs.any fun | .Starred .. => true | _ => false) = true then some none else
  let line := (ts.head?.map (·.pos.line)).getD 0
  let names := ts.filterMap fun
    | .Name id pos => if sc.names.lookup id == some .local && pos.line == line then some id else none
    | _ => none
  if (names.length != ts.length || names.eraseDups.length != names.length) = true then some none else
  if vs.all (foldedForSure 8) = true then some none else
  if vs.all (constantsAlone 8) = true then none else some (some names)
theorem swB_ok {ts vs : List Expr} {n m : Nat} {p q : Pos} {env : Env} {r : Option (List Str)} (hk : env.scope.kind = .function) (h : swB ts vs env.scope = some r) : swappedStores [.Tuple ts n p] (.Tuple vs m q) env = pure r := by
  have hb : env.blockKind = .function := by unfold Env.blockKind; rw [hk]; rfl
  have e : swappedStores [.Tuple ts n p] (.Tuple vs m q) env = (if (!(ts.length == 2 || ts.length == 3) || vs.length != ts.length) = true then pure none else
      if (vs.any fun | .Starred .. => true | _ => false) = true then pure none else
      if ((ts.filterMap fun | .Name id pos => if env.scope.names.lookup id == some .local && pos.line == (ts.head?.map (·.pos.line)).getD 0 then some id else none | _ => none).length != ts.length || (ts.filterMap fun | .Name id pos => if env.scope.names.lookup id == some .local && pos.line == (ts.head?.map (·.pos.line)).getD 0 then some id else none | _ => none).eraseDups.length != (ts.filterMap fun | .Name id pos => if env.scope.names.lookup id == some .local && pos.line == (ts.head?.map (·.pos.line)).getD 0 then some id else none | _ => none).length) = true then pure none else
      if vs.all (foldedForSure 8) = true then pure none else
      if vs.all (constantsAlone 8) = true then (do unsupported "assign.tuple-of-constant-expressions:order-of-the-stores"; return some (ts.filterMap fun | .Name id pos => if env.scope.names.lookup id == some .local && pos.line == (ts.head?.map (·.pos.line)).getD 0 then some id else none | _ => none)) else pure (some (ts.filterMap fun | .Name id pos => if env.scope.names.lookup id == some .local && pos.line == (ts.head?.map (·.pos.line)).getD 0 then some id else none | _ => none))) := by
    unfold swappedStores
    simp only [hb]
    have h2 : (ScopeKind.function != ScopeKind.function) = false := rfl
    simp only [h2, Bool.or_false]
    rfl
  rw [e]
  unfold swB at h
  simp only [] at h
  by_cases c1 : (!(ts.length == 2 || ts.length == 3) || vs.length != ts.length) = true
  · rw [if_pos c1] at h ⊢
    cases h
    rfl
  · rw [if_neg c1] at h ⊢
    by_cases c2 : (vs.any fun | .Starred .. => true | _ => false) = true
    · rw [if_pos c2] at h ⊢
      cases h
      rfl
    · rw [if_neg c2] at h ⊢
      split at h
      · rename_i c3
        cases h
        rw [if_pos c3]
      · rename_i c3
        rw [if_neg c3]
        split at h
        · rename_i c4
          cases h
          rw [if_pos c4]
        · rename_i c4
          rw [if_neg c4]
          split at h
          · cases h
          · rename_i c5
            cases h
            rw [if_neg c5]
def noTup' : Expr → Bool
  | .Tuple _ _ _ => false
  | _ => true
theorem sw_none1 {tg ex : Expr} {env : Env} (h : noTup' ex = true) : swappedStores [tg] ex env = pure none := by
  cases ex <;> first | (cases h; done) | (cases tg <;> rfl)
theorem sw_noComp {ex : Expr} {o : Option Expr} {l : Nat} {env : Env} (h : noComp ex = true) : swapsWith ex o l env = pure false := by
  cases ex <;> first | (cases h; done) | rfl
/-- does x = [..] swap -/
def swLc (sc : Scope) (x : Str) (px pos : Pos) (scope : Scope) : Bool := decide (sc.names.lookup x = some .local) && (px.line == pos.line) && !(scope.names.any fun (n, k) => n == x && (k == .local || k == .cell))
theorem swLc_ok {elt : Expr} {gs : List Comprehension} {scope : Scope} {pos px : Pos} {x : Str} {l : Nat} {env : Env} (hk : env.scope.kind = .function) : swapsWith (.ListComp elt gs scope pos) (some (.Name x px)) l env = pure (swLc env.scope x px pos scope) := by
  have hb : env.blockKind = .function := by unfold Env.blockKind; rw [hk]; rfl
  unfold swapsWith swLc
  simp only [hb, Expr.pos]
  have e : (env.kindOf x == some NameKind.local) = decide (env.scope.names.lookup x = some .local) := by
    show (env.scope.names.lookup x == some NameKind.local) = _
    cases env.scope.names.lookup x with
    | none => rfl
    | some y => cases y <;> rfl
  rw [e]
  rfl
def noSeq : S → Bool
  | .seq _ _ => false
  | _ => true
def asgOk (sc : Scope) (x : Str) (px : Pos) : Expr → Bool
  | .ListComp _ _ scope pos => if swLc sc x px pos scope = true then true else locB sc (fun _ => true) x
  | ex => locB sc (fun _ => true) x && noComp ex
def tupOk (ts : List Expr) (sc : Scope) : Expr → Bool
  | .Tuple vs _ _ => decide (swB ts vs sc = some none)
  | _ => true
def isPar (N : List Str) (sc : Scope) (fc : Str → Bool) (p : Pat) (ts es : List Expr) : Bool := match swB ts es sc with
  | some none => isQ N sc fc p ts && decide (ts.length = es.length) && decide (es.length ≤ 1000)
  | some (some [x, y]) => (match p, ts with
    | .tc (.v i) (.tc (.v j) .t0), [.Name x' _, .Name y' _] => decide (x' = x) && decide (y' = y) && decide (N[i]? = some x) && decide (N[j]? = some y) && decide (i ≠ j) && decide (sc.names.lookup x = some .local) && decide (sc.names.lookup y = some .local)
    | _, _ => false)
  | some (some [x, y, z]) => (match p, ts with
    | .tc (.v i) (.tc (.v j) (.tc (.v l) .t0)), [.Name x' _, .Name y' _, .Name z' _] => decide (x' = x) && decide (y' = y) && decide (z' = z) && decide (N[i]? = some x) && decide (N[j]? = some y) && decide (N[l]? = some z) && decide (i ≠ j) && decide (i ≠ l) && decide (j ≠ l) && decide (sc.names.lookup x = some .local) && decide (sc.names.lookup y = some .local) && decide (sc.names.lookup z = some .local)
    | _, _ => false)
  | _ => false
section
variable (N : List Str) (fn : Nat → Option Str) (xs : List Str) (sc : Scope)
def isS : S → List Stmt → Bool
  | .skip, [] => true
  | .seq s t, st :: sts => noSeq s && isS s [st] && isS t sts
  | .skip, [.Pass _] => true
  | .asg (.v i) e, [.Assign [.Name x px] ex _] => decide (N[i]? = some x) && isE N fn sc e ex && asgOk sc x px ex
  | .asg (.tc p q) e, [.Assign [.Tuple ts n pt] ex _] => isP N sc (fun _ => true) (.tc p q) (.Tuple ts n pt) && isE N fn sc e ex && tupOk ts sc ex
  | .par p a, [.Assign [.Tuple ts _ _] (.Tuple es _ _) _] => isA N fn sc a es && isPar N sc (fun _ => true) p ts es
  | .seti i k v, [.Assign [.Subscript (.Name x _) kx _] vx _] => isN N sc i x && isE N fn sc k kx && isE N fn sc v vx && noSlice kx
  | .app i e, [.Expr (.Call (.Attribute (.Name x _) y p) [z] [] q) _] => decide (y = ("append" : Str)) && isN N sc i x && isE N fn sc e z && noStar z && (p.endLine == q.line)
  | .ext i e, [.Expr (.Call (.Attribute (.Name x _) y p) [z] [] q) _] => decide (y = ("extend" : Str)) && isN N sc i x && isE N fn sc e z && noStar z && (p.endLine == q.line)
  | .upd i e, [.Expr (.Call (.Attribute (.Name x _) y p) [z] [] q) _] => decide (y = ("update" : Str)) && isN N sc i x && isE N fn sc e z && noStar z && (p.endLine == q.line)
  | .ex e, [.Expr x _] => isE N fn sc e x && noComp x
  | .ite c s t, [.If cx a b _] => isE N fn sc c cx && noIf cx && isS s a && isS t b
  | .whl c s, [.While cx b [] _] => isE N fn sc c cx && noIf cx && isS s b
  | .for_ p i s, [.For tg iter b [] _] => isP N sc (fun _ => true) p tg && isI N fn sc i tg iter && noSet iter && isS s b
  | .ret e, [.Return (some x) _] => isE N fn sc e x
  | .rse c m, [.Raise (some (.Call (.Name x _) [.Constant (.str y) _ _] [] _)) none _] => decide (x = c) && decide (y = m) && decide (c ∈ xs) && glB sc c && okName c
  | _, _ => false
end
end Dat

/-! Dat, part B24: every statement. -/
namespace Dat
open PySem PySem.Spec PyProof.Rows L2
open PySem.W
structure CtxS (N : List Str) (fn : Nat → Option Str) (xs : List Str) (io : Io) (cf : Caller) (k : Nat) (sc : Scope) (X : Cx) (C : Cz) : Prop where
  x : Ctx N fn io cf k sc X C
  fnT : ∀ x, X.fn x = true
  kind : X.env.scope.kind = .function
  exc : ∀ c ∈ xs, ExAt X C.ca c
section
variable {N : List Str} {fn : Nat → Option Str} {xs : List Str} {io : Io} {cf : Caller} {k : Nat} {sc : Scope}
theorem CtxS.nox {X : Cx} {C : Cz} (c : CtxS N fn xs io cf k sc X C) : CtxS N fn xs io cf k sc X.nox C.calm := ⟨c.x.nox, c.fnT, c.kind, fun y hy => ⟨(c.exc y hy).inn, (c.exc y hy).mg, (c.exc y hy).kp, (c.exc y hy).rs⟩⟩
theorem CtxS.from {X : Cx} {C : Cz} (c : CtxS N fn xs io cf k sc X C) (Gz : Hp) : CtxS N fn xs io cf k sc X.nox (C.from Gz) := ⟨⟨⟨c.x.ok.K, c.x.ok.calm, c.x.ok.nd, c.x.ok.room, takes0, c.x.ok.bl⟩, c.x.N, c.x.sc, c.x.fn⟩, c.fnT, c.kind, fun y hy => ⟨(c.exc y hy).inn, (c.exc y hy).mg, (c.exc y hy).kp, (c.exc y hy).rs⟩⟩
def GS (N : List Str) (fn : Nat → Option Str) (xs : List Str) (io : Io) (cf : Caller) (k : Nat) (sc : Scope) (s : S) : Prop := ∀ sts : List Stmt, isS N fn xs sc s sts = true → ∀ (X : Cx) (C : Cz), CtxS N fn xs io cf k sc X C → SS X C io cf s sts ∧ (noSeq s = true → ∀ st, sts = [st] → S1 X C io cf s st)
theorem gs_one {X : Cx} {C : Cz} {s : S} {st : Stmt} (h : S1 X C io cf s st) : SS X C io cf s [st] ∧ (noSeq s = true → ∀ st', [st] = [st'] → S1 X C io cf s st') := ⟨ss_one h, fun _ st' e => by cases e; exact h⟩
theorem one_of {s : S} {sts : List Stmt} (h : isS N fn xs sc s sts = true) (h0 : s ≠ .skip) (h1 : ∀ a b, s ≠ .seq a b) : ∃ st, sts = [st] := by
  cases sts with
  | nil => cases s <;> first | (exact absurd rfl h0) | (cases h; done) | skip
           rename_i p e
           cases p <;> cases h
  | cons st sts =>
    cases sts with
    | nil => exact ⟨st, rfl⟩
    | cons st2 sts =>
      exfalso
      cases s <;> first | (exact absurd rfl h0) | (exact absurd rfl (h1 _ _)) | skip
      all_goals first | (cases st <;> cases h; done) | skip
      all_goals (simp [isS] at h)
theorem gs_asg {p : Pat} {e : E} : GS N fn xs io cf k sc (.asg p e) := fun sts h X C c => by
  obtain ⟨st, rfl⟩ := one_of h (fun z => nomatch z) fun _ _ z => nomatch z
  refine gs_one ?_
  cases p with
  | t0 => cases st <;> cases h
  | v i =>
    cases st <;> first | (cases h; done) | skip
    rename_i tgs ex pos
    cases tgs with
    | nil => cases h
    | cons tg tgs =>
      cases tg <;> first | (cases h; done) | skip
      rename_i x px
      cases tgs with
      | cons _ _ => cases h
      | nil =>
        have h : (decide (N[i]? = some x) && isE N fn sc e ex && asgOk sc x px ex) = true := h
        simp only [Bool.and_eq_true, decide_eq_true_eq] at h
        obtain ⟨⟨hi, he⟩, hm⟩ := h
        have hi : X.N[i]? = some x := by rw [c.x.N]; exact hi
        have hse := (allE e ex sc he X C c.x).1
        by_cases hl : ∃ elt gs scope pos2, ex = .ListComp elt gs scope pos2
        · obtain ⟨elt, gs, scope, pos2, rfl⟩ := hl
          have hm : (if swLc sc x px pos2 scope = true then true else locB sc (fun _ => true) x) = true := hm
          have hsw := swLc_ok (elt := elt) (gs := gs) (scope := scope) (pos := pos2) (px := px) (x := x) (l := pos.line) c.kind
          rw [c.x.sc] at hsw
          split at hm
          · rename_i hs
            rw [hs] at hsw
            have hloc : X.env.scope.names.lookup x = some .local := by
              unfold swLc at hs
              simp only [Bool.and_eq_true, decide_eq_true_eq] at hs
              rw [c.x.sc]
              exact hs.1.1
            have hel : ∃ e1 p it o, e = .lc e1 p it o := by
              cases e <;> first | exact ⟨_, _, _, _, rfl⟩ | (cases he; done) | (rename_i f a; cases f <;> cases he; done) | (rename_i a; cases a <;> cases he; done) | skip
              all_goals (simp [isE] at he)
            obtain ⟨e1, p, it, o, rfl⟩ := hel
            obtain ⟨elt', tg, iter, ifs, scope', pos', ee, t⟩ := lc_inv he
            cases ee
            have r := lc_ready (allE e1) (allI it) (allO o) t c.x
            exact s1_setLc c.x.ok hi hloc hsw r.i r.b r.st r.c r.e r.s
          · rename_i hs
            have : swLc sc x px pos2 scope = false := by simpa using hs
            rw [this] at hsw
            exact s1_set (fc := fun _ => true) c.x.ok (fun y _ => c.fnT y) hi (by rw [c.x.sc]; exact hm) hse hsw
        · have hm : (locB sc (fun _ => true) x && noComp ex) = true := by
            cases ex <;> first | exact hm | exact absurd ⟨_, _, _, _, rfl⟩ hl
          rw [Bool.and_eq_true] at hm
          exact s1_set (fc := fun _ => true) c.x.ok (fun y _ => c.fnT y) hi (by rw [c.x.sc]; exact hm.1) hse (sw_noComp hm.2)
  | tc p q =>
    cases st <;> first | (cases h; done) | skip
    rename_i tgs ex pos
    cases tgs with
    | nil => cases h
    | cons tg tgs =>
      cases tg <;> first | (cases h; done) | skip
      rename_i ts n pt
      cases tgs with
      | cons _ _ => cases h
      | nil =>
        have h : (isP N sc (fun _ => true) (.tc p q) (.Tuple ts n pt) && isE N fn sc e ex && tupOk ts sc ex) = true := h
        simp only [Bool.and_eq_true] at h
        obtain ⟨⟨hp, he⟩, hm⟩ := h
        have hse := (allE e ex sc he X C c.x).1
        refine s1_asgT (fc := fun _ => true) c.x.ok (fun y _ => c.fnT y) (by rw [c.x.N, c.x.sc]; exact hp) hse (by cases ex <;> rfl) ?_
        by_cases hl : ∃ vs m q, ex = .Tuple vs m q
        · obtain ⟨vs, m, q', rfl⟩ := hl
          have hm : decide (swB ts vs sc = some none) = true := hm
          exact swB_ok c.kind (by rw [c.x.sc]; exact of_decide_eq_true hm)
        · exact sw_none1 (by cases ex <;> first | rfl | exact absurd ⟨_, _, _, rfl⟩ hl)
theorem gs_par {p : Pat} {a : A} : GS N fn xs io cf k sc (.par p a) := fun sts h X C c => by
  obtain ⟨st, rfl⟩ := one_of h (fun z => nomatch z) fun _ _ z => nomatch z
  refine gs_one ?_
  cases st <;> first | (cases h; done) | skip
  rename_i tgs ex pos
  cases tgs with
  | nil => cases h
  | cons tg tgs =>
    cases tg <;> first | (cases h; done) | skip
    rename_i ts n pt
    cases tgs with
    | cons _ _ => cases ex <;> cases h
    | nil =>
      cases ex <;> first | (cases h; done) | skip
      rename_i es m pe
      have h : (isA N fn sc a es && isPar N sc (fun _ => true) p ts es) = true := h
      rw [Bool.and_eq_true] at h
      obtain ⟨ha, hp⟩ := h
      obtain ⟨hal, hst, q⟩ := allA a es sc ha
      obtain ⟨sa, _⟩ := q X C c.x
      unfold isPar at hp
      split at hp
      · rename_i hsw
        simp only [Bool.and_eq_true, decide_eq_true_eq] at hp
        exact s1_par (fc := fun _ => true) c.x.ok (fun y _ => c.fnT y) (by rw [c.x.N, c.x.sc]; exact hp.1.1) sa hal (by rw [hal]; exact hp.2) hp.1.2 (swB_ok c.kind (by rw [c.x.sc]; exact hsw))
      · rename_i x y hsw
        split at hp
        · rename_i i j x' p1 y' p2
          simp only [Bool.and_eq_true, decide_eq_true_eq] at hp
          obtain ⟨⟨⟨⟨⟨⟨rfl, rfl⟩, h1⟩, h2⟩, h3⟩, h4⟩, h5⟩ := hp
          have hel : es.length = 2 := by
            unfold swB at hsw
            split at hsw
            · cases hsw
            · rename_i hc
              simp at hc
              exact hc
          obtain ⟨e1, e2, rfl⟩ : ∃ e1 e2, es = [e1, e2] := by
            cases es with
            | nil => cases hel
            | cons e1 es =>
              cases es with
              | nil => cases hel
              | cons e2 es =>
                cases es with
                | nil => exact ⟨e1, e2, rfl⟩
                | cons _ _ => cases hel
          exact s1_par2 c.x.ok (by rw [c.x.N]; exact h1) (by rw [c.x.N]; exact h2) h3 (by rw [c.x.sc]; exact h4) (by rw [c.x.sc]; exact h5) sa hal (swB_ok c.kind (by rw [c.x.sc]; exact hsw))
        · cases hp
      · rename_i x y z hsw
        split at hp
        · rename_i i j l x' p1 y' p2 z' p3
          simp only [Bool.and_eq_true, decide_eq_true_eq] at hp
          obtain ⟨⟨⟨⟨⟨⟨⟨⟨⟨⟨⟨rfl, rfl⟩, rfl⟩, h1⟩, h2⟩, h3⟩, h4⟩, h5⟩, h6⟩, h7⟩, h8⟩, h9⟩ := hp
          have hel : es.length = 3 := by
            unfold swB at hsw
            split at hsw
            · cases hsw
            · rename_i hc
              simp at hc
              exact hc
          obtain ⟨e1, e2, e3, rfl⟩ : ∃ e1 e2 e3, es = [e1, e2, e3] := by
            cases es with
            | nil => cases hel
            | cons e1 es =>
              cases es with
              | nil => cases hel
              | cons e2 es =>
                cases es with
                | nil => cases hel
                | cons e3 es =>
                  cases es with
                  | nil => exact ⟨e1, e2, e3, rfl⟩
                  | cons _ _ => cases hel
          exact s1_par3 c.x.ok (by rw [c.x.N]; exact h1) (by rw [c.x.N]; exact h2) (by rw [c.x.N]; exact h3) h4 h5 h6 (by rw [c.x.sc]; exact h7) (by rw [c.x.sc]; exact h8) (by rw [c.x.sc]; exact h9) sa (swB_ok c.kind (by rw [c.x.sc]; exact hsw))
        · cases hp
      · cases hp
theorem sws_sub {o i : Expr} {p : Pos} {ex : Expr} {l : Nat} {env : Env} : swapsWithSole [.Subscript o i p] ex l env = pure false := by
  cases ex <;> rfl
theorem sw_sub {o i : Expr} {p : Pos} {ex : Expr} {env : Env} : swappedStores [.Subscript o i p] ex env = pure none := by
  cases ex <;> rfl
theorem gs_seti {i : Nat} {ke ve : E} : GS N fn xs io cf k sc (.seti i ke ve) := fun sts h X C c => by
  obtain ⟨st, rfl⟩ := one_of h (fun z => nomatch z) fun _ _ z => nomatch z
  refine gs_one ?_
  cases st <;> first | (cases h; done) | skip
  rename_i tgs ex pos
  cases tgs with
  | nil => cases h
  | cons tg tgs =>
    cases tg <;> first | (cases h; done) | skip
    rename_i o kx p
    cases o <;> first | (cases h; done) | skip
    rename_i x px
    cases tgs with
    | cons _ _ => cases h
    | nil =>
      have h : (isN N sc i x && isE N fn sc ke kx && isE N fn sc ve ex && noSlice kx) = true := h
      simp only [Bool.and_eq_true] at h
      obtain ⟨⟨⟨h1, h2⟩, h3⟩, h4⟩ := h
      exact s1_seti c.x.ok (by rw [c.x.N, c.x.sc]; exact h1) (allE ke kx sc h2 X C c.x).1 (allE ve ex sc h3 X C c.x).1 h4 sws_sub sw_sub
theorem meth_inv {i : Nat} {e : E} {st : Stmt} {ap : Bool} (h : isS N fn xs sc (if ap then .app i e else .ext i e) [st] = true) : ∃ x px p z q pos, st = .Expr (.Call (.Attribute (.Name x px) (if ap then "append" else "extend" : Str) p) [z] [] q) pos ∧ isN N sc i x = true ∧ isE N fn sc e z = true ∧ noStar z = true ∧ (p.endLine == q.line) = true := by
  cases ap
  all_goals
    cases st <;> first | (cases h; done) | skip
    rename_i v pos
    cases v <;> first | (cases h; done) | skip
    rename_i fx es ks q
    cases fx <;> first | (cases h; done) | skip
    rename_i o y p
    cases o <;> first | (cases h; done) | skip
    rename_i x px
    cases es with
    | nil => cases h
    | cons z es =>
      cases es with
      | cons _ _ => cases h
      | nil =>
        cases ks with
        | cons _ _ => cases h
        | nil =>
          simp only [isS, Bool.and_eq_true, decide_eq_true_eq, Bool.false_eq_true, if_false, if_true] at h
          obtain ⟨⟨⟨⟨rfl, h2⟩, h3⟩, h4⟩, h5⟩ := h
          exact ⟨x, px, p, z, q, pos, rfl, h2, h3, h4, h5⟩
theorem gs_app {i : Nat} {e : E} : GS N fn xs io cf k sc (.app i e) := fun sts h X C c => by
  obtain ⟨st, rfl⟩ := one_of h (fun z => nomatch z) fun _ _ z => nomatch z
  obtain ⟨x, px, p, z, q, pos, rfl, h1, h2, h3, h4⟩ := meth_inv (ap := true) h
  exact gs_one (s1_app c.x.ok (by rw [c.x.N, c.x.sc]; exact h1) h3 h4 (allE e z sc h2 X C c.x).1)
theorem gs_ext {i : Nat} {e : E} : GS N fn xs io cf k sc (.ext i e) := fun sts h X C c => by
  obtain ⟨st, rfl⟩ := one_of h (fun z => nomatch z) fun _ _ z => nomatch z
  obtain ⟨x, px, p, z, q, pos, rfl, h1, h2, h3, h4⟩ := meth_inv (ap := false) h
  exact gs_one (s1_ext c.x.ok (by rw [c.x.N, c.x.sc]; exact h1) h3 h4 (allE e z sc h2 X C c.x).1)
theorem gs_upd {i : Nat} {e : E} : GS N fn xs io cf k sc (.upd i e) := fun sts h X C c => by
  obtain ⟨st, rfl⟩ := one_of h (fun z => nomatch z) fun _ _ z => nomatch z
  refine gs_one ?_
  cases st <;> first | (cases h; done) | skip
  rename_i v pos
  cases v <;> first | (cases h; done) | skip
  rename_i fx es ks q
  cases fx <;> first | (cases h; done) | skip
  rename_i o y p
  cases o <;> first | (cases h; done) | skip
  rename_i x px
  cases es with
  | nil => cases h
  | cons z es =>
    cases es with
    | cons _ _ => cases h
    | nil =>
      cases ks with
      | cons _ _ => cases h
      | nil =>
        have h : (decide (y = ("update" : Str)) && isN N sc i x && isE N fn sc e z && noStar z && (p.endLine == q.line)) = true := h
        simp only [Bool.and_eq_true, decide_eq_true_eq] at h
        obtain ⟨⟨⟨⟨rfl, h2⟩, h3⟩, h4⟩, h5⟩ := h
        exact s1_upd c.x.ok (by rw [c.x.N, c.x.sc]; exact h2) h4 h5 (allE e z sc h3 X C c.x).1
theorem gs_ex {e : E} : GS N fn xs io cf k sc (.ex e) := fun sts h X C c => by
  obtain ⟨st, rfl⟩ := one_of h (fun z => nomatch z) fun _ _ z => nomatch z
  refine gs_one ?_
  cases st <;> first | (cases h; done) | skip
  rename_i x pos
  have h : (isE N fn sc e x && noComp x) = true := h
  rw [Bool.and_eq_true] at h
  exact s1_ex (allE e x sc h.1 X C c.x).1 (sw_noComp h.2)
theorem gs_ret {e : E} : GS N fn xs io cf k sc (.ret e) := fun sts h X C c => by
  obtain ⟨st, rfl⟩ := one_of h (fun z => nomatch z) fun _ _ z => nomatch z
  refine gs_one ?_
  cases st <;> first | (cases h; done) | skip
  rename_i v pos
  cases v with
  | none => cases h
  | some x => exact s1_ret (allE e x sc h X C c.x).1
theorem gs_rse {y m : Str} : GS N fn xs io cf k sc (.rse y m) := fun sts h X C c => by
  obtain ⟨st, rfl⟩ := one_of h (fun z => nomatch z) fun _ _ z => nomatch z
  refine gs_one ?_
  cases st <;> first | (cases h; done) | skip
  rename_i v cz pos
  cases v with
  | none => cases h
  | some v =>
    cases v <;> first | (cases h; done) | skip
    rename_i fx es ks q
    cases fx <;> first | (cases h; done) | skip
    rename_i x px
    cases es with
    | nil => cases h
    | cons z es =>
      cases z <;> first | (cases h; done) | skip
      rename_i cst j pc
      cases cst <;> first | (cases h; done) | skip
      rename_i w
      cases es with
      | cons _ _ => cases h
      | nil =>
        cases ks with
        | cons _ _ => cases h
        | nil =>
          cases cz with
          | some _ => cases h
          | none =>
            have h : (decide (x = y) && decide (w = m) && decide (y ∈ xs) && glB sc y && okName y) = true := h
            simp only [Bool.and_eq_true, decide_eq_true_eq] at h
            obtain ⟨⟨⟨⟨rfl, rfl⟩, h3⟩, h4⟩, h5⟩ := h
            have hdb : (x == ("__debug__" : Str)) = false := by
              unfold okName at h5
              simp only [Bool.and_eq_true, Bool.not_eq_true'] at h5
              exact h5.1
            exact s1_rse c.x.ok (c.exc x h3) (by rw [c.x.sc]; exact h4) hdb
theorem gs_skip : GS N fn xs io cf k sc .skip := fun sts h X C c => by
  cases sts with
  | nil => exact ⟨ss_nil, fun _ _ e => nomatch e⟩
  | cons st sts =>
    cases sts with
    | cons _ _ => cases st <;> cases h
    | nil =>
      cases st <;> first | (cases h; done) | skip
      exact gs_one s1_pass
theorem gs_seq {s t : S} (hs : GS N fn xs io cf k sc s) (ht : GS N fn xs io cf k sc t) : GS N fn xs io cf k sc (.seq s t) := fun sts h X C c => by
  cases sts with
  | nil => cases h
  | cons st sts =>
    have h : (noSeq s && isS N fn xs sc s [st] && isS N fn xs sc t sts) = true := h
    simp only [Bool.and_eq_true] at h
    exact ⟨ss_seq ((hs [st] h.1.2 X C c).2 h.1.1 st rfl) (ht sts h.2 X C c).1, fun z => nomatch z⟩
theorem gs_ite {e : E} {s t : S} (hs : GS N fn xs io cf k sc s) (ht : GS N fn xs io cf k sc t) : GS N fn xs io cf k sc (.ite e s t) := fun sts h X C c => by
  obtain ⟨st, rfl⟩ := one_of h (fun z => nomatch z) fun _ _ z => nomatch z
  refine gs_one ?_
  cases st <;> first | (cases h; done) | skip
  rename_i cx a b pos
  have h : (isE N fn sc e cx && noIf cx && isS N fn xs sc s a && isS N fn xs sc t b) = true := h
  simp only [Bool.and_eq_true] at h
  exact s1_ite ((allE e cx sc h.1.1.1 X C c.x).2 h.1.1.2) (hs a h.1.2 X C c).1 (ht b h.2 X C c).1
theorem gs_whl {e : E} {s : S} (hs : GS N fn xs io cf k sc s) : GS N fn xs io cf k sc (.whl e s) := fun sts h X C c => by
  obtain ⟨st, rfl⟩ := one_of h (fun z => nomatch z) fun _ _ z => nomatch z
  refine gs_one ?_
  cases st <;> first | (cases h; done) | skip
  rename_i cx a b pos
  cases b with
  | cons _ _ => cases h
  | nil =>
    have h : (isE N fn sc e cx && noIf cx && isS N fn xs sc s a) = true := h
    simp only [Bool.and_eq_true] at h
    exact s1_whl ((allE e cx sc h.1.1 X.nox C.calm c.x.nox).2 h.1.2) (hs a h.2 X.nox C.calm c.nox).1
theorem gs_for {p : Pat} {it : I} {s : S} (hs : GS N fn xs io cf k sc s) : GS N fn xs io cf k sc (.for_ p it s) := fun sts h X C c => by
  obtain ⟨st, rfl⟩ := one_of h (fun z => nomatch z) fun _ _ z => nomatch z
  refine gs_one ?_
  cases st <;> first | (cases h; done) | skip
  rename_i tg iter a b pos
  cases b with
  | cons _ _ => cases h
  | nil =>
    have h : (isP N sc (fun _ => true) p tg && isI N fn sc it tg iter && noSet iter && isS N fn xs sc s a) = true := h
    simp only [Bool.and_eq_true] at h
    exact s1_for (fc := fun _ => true) c.x.ok (fun y _ => c.fnT y) (by rw [c.x.N, c.x.sc]; exact h.1.1.1) (allI it tg iter sc h.1.1.2 X.nox C.calm c.x.nox) (fun Gz1 => (hs a h.2 X.nox (C.from Gz1) (c.from Gz1)).1) (noSet_fold h.1.2)
theorem allS : ∀ s : S, GS N fn xs io cf k sc s
  | .skip => gs_skip
  | .seq s t => gs_seq (allS s) (allS t)
  | .asg p e => gs_asg
  | .par p a => gs_par
  | .seti i a b => gs_seti
  | .app i e => gs_app
  | .ext i e => gs_ext
  | .upd i e => gs_upd
  | .ex e => gs_ex
  | .ite c s t => gs_ite (allS s) (allS t)
  | .whl c s => gs_whl (allS s)
  | .for_ p i s => gs_for (allS s)
  | .ret e => gs_ret
  | .rse c m => gs_rse
end
end Dat

/-! Dat, part B25: defs. -/
namespace Dat
open PySem PySem.Spec PyProof.Rows L2
open PySem.W
section
variable {K : PySem.W.Frag} {Gz H : Hp}
theorem ArgR.len : ∀ {io : List Bool} {vs : List V} {ds : List D}, ArgR K Gz H io vs ds → vs.length = io.length ∧ ds.length = io.length
  | _, _, _, .nil => ⟨rfl, rfl⟩
  | _, _, _, .frz _ r => let ⟨h1, h2⟩ := r.len; ⟨by simp [h1], by simp [h2]⟩
  | _, _, _, .io _ _ r => let ⟨h1, h2⟩ := r.len; ⟨by simp [h1], by simp [h2]⟩
/-- where the i-th is handed in to be changed -/
def iaOf : List Bool → List V → Nat → Option Addr
  | true :: _, .ref a :: _, 0 => some a
  | _ :: _, _ :: _, 0 => none
  | _ :: io, _ :: vs, i + 1 => iaOf io vs i
  | _, _, _ => none
theorem iaOf_mem : ∀ {io : List Bool} {vs : List V} {a : Addr}, (∃ i, iaOf io vs i = some a) ↔ a ∈ ioAt io vs
  | [], vs, a => ⟨(fun ⟨i, h⟩ => by cases vs <;> cases i <;> cases h), (fun h => by cases vs <;> cases h)⟩
  | b :: io, [], a => ⟨(fun ⟨i, h⟩ => by cases b <;> cases i <;> cases h), (fun h => by cases b <;> cases h)⟩
  | b :: io, v :: vs, a => by
    have ih := iaOf_mem (io := io) (vs := vs) (a := a)
    constructor
    · rintro ⟨i, h⟩
      cases i with
      | succ i =>
        have h : iaOf io vs i = some a := by cases b <;> cases v <;> exact h
        have := ih.mp ⟨i, h⟩
        cases b with
        | false => exact this
        | true => cases v <;> first | exact this | exact List.mem_cons_of_mem _ this
      | zero =>
        cases b with
        | false => cases v <;> cases h
        | true =>
          cases v <;> first | (cases h; done) | skip
          cases h
          exact List.mem_cons_self
    · intro h
      cases b with
      | false =>
        obtain ⟨i, hi⟩ := ih.mpr h
        exact ⟨i + 1, by cases v <;> exact hi⟩
      | true =>
        cases v with
        | ref a' =>
          rcases List.mem_cons.mp h with rfl | h
          · exact ⟨0, rfl⟩
          · obtain ⟨i, hi⟩ := ih.mpr h
            exact ⟨i + 1, hi⟩
        | _ =>
          obtain ⟨i, hi⟩ := ih.mpr h
          exact ⟨i + 1, hi⟩
theorem iaOf_inj : ∀ {io : List Bool} {vs : List V} {a : Addr} {i j : Nat}, (ioAt io vs).Nodup → iaOf io vs i = some a → iaOf io vs j = some a → i = j
  | [], vs, a, i, j, _, h, _ => by cases vs <;> cases i <;> cases h
  | b :: io, [], a, i, j, _, h, _ => by cases b <;> cases i <;> cases h
  | b :: io, v :: vs, a, i, j, nd, h1, h2 => by
    have nd' : (ioAt io vs).Nodup := by
      cases b with
      | false => exact nd
      | true => cases v <;> first | exact nd | exact (List.nodup_cons.mp nd).2
    have out : ∀ i, iaOf io vs i = some a → iaOf (b :: io) (v :: vs) 0 ≠ some a := fun i hi h0 => by
      cases b with
      | false => cases v <;> cases h0
      | true =>
        cases v <;> first | (cases h0; done) | skip
        cases h0
        exact (List.nodup_cons.mp nd).1 (iaOf_mem.mp ⟨i, hi⟩)
    cases i with
    | zero =>
      cases j with
      | zero => rfl
      | succ j =>
        have h2 : iaOf io vs j = some a := by cases b <;> cases v <;> exact h2
        exact absurd h1 (out j h2)
    | succ i =>
      have h1 : iaOf io vs i = some a := by cases b <;> cases v <;> exact h1
      cases j with
      | zero => exact absurd h2 (out i h1)
      | succ j =>
        have h2 : iaOf io vs j = some a := by cases b <;> cases v <;> exact h2
        rw [iaOf_inj nd' h1 h2]
/-- a slot at the start -/
theorem start_get {n : Nat} : ∀ {io : List Bool} {vs : List V} {ds : List D} {i : Nat} {b : B}, ArgR K Gz H io vs ds → ((ds.zip io).map (fun p => some (if p.2 then B.io p.1 else .frz p.1)) ++ List.replicate n none)[i]? = some (some b) →
    (∃ d v, b = .frz d ∧ vs[i]? = some v ∧ Rp K Gz v d) ∨ ∃ d a, b = .io d ∧ vs[i]? = some (.ref a) ∧ iaOf io vs i = some a ∧ Gz a = none ∧ OwnAt K Gz H a d
  | _, _, _, i, b, .nil, h => by
    exfalso
    have h : (List.replicate n (none : Option B))[i]? = some (some b) := h
    rw [List.getElem?_replicate] at h
    split at h <;> cases h
  | _, _, _, 0, b, .frz r _, h => by
    cases h
    exact .inl ⟨_, _, rfl, rfl, r⟩
  | _, _, _, 0, b, .io gn oa _, h => by
    cases h
    exact .inr ⟨_, _, rfl, rfl, rfl, gn, oa⟩
  | _, _, _, i + 1, b, .frz _ r, h => by
    rcases start_get (i := i) r h with ⟨d, v, e, h1, h2⟩ | ⟨d, a, e, h1, h2, h3⟩
    · exact .inl ⟨d, v, e, h1, h2⟩
    · exact .inr ⟨d, a, e, h1, h2, h3⟩
  | _, _, _, i + 1, b, .io _ _ r, h => by
    rcases start_get (i := i) r h with ⟨d, v, e, h1, h2⟩ | ⟨d, a, e, h1, h2, h3⟩
    · exact .inl ⟨d, v, e, h1, h2⟩
    · exact .inr ⟨d, a, e, h1, h2, h3⟩
end
/-- the body's own context -/
def czOf (K : PySem.W.Frag) (ca : Str → Addr) (io : List Bool) (vs : List V) (H Gz : Hp) (E : XK) : Cz := ⟨K, H, Gz, iaOf io vs, fun cls d _ H' => E cls d H', ca⟩
theorem rel_start {K : PySem.W.Frag} {ca : Str → Addr} {io : List Bool} {N : List Str} {vs : List V} {ds : List D} {H Gz : Hp} {E : XK} (sm : Same Gz H) (ar : ArgR K Gz H io vs ds) (nd : (ioAt io vs).Nodup) (hl : vs.length ≤ N.length) : (czOf K ca io vs H Gz E).Rl (startG io N.length ds) (start N vs) H Gz := by
  obtain ⟨l1, l2⟩ := ar.len
  have sv : ∀ {i : Nat} {v : V}, vs[i]? = some v → (start N vs)[i]? = some (some v) := fun {i v} h => by
    unfold L2.start
    have hi := getElem?_lt h
    rw [List.getElem?_append_left (by rw [List.length_map]; exact hi), List.getElem?_map, h]
    rfl
  have own0 : ∀ i, OwnSlot (startG io N.length ds) i → ∃ a, iaOf io vs i = some a ∧ (start N vs)[i]? = some (some (.ref a)) := fun i h => by
    rcases h with ⟨d, h⟩ | ⟨d, h⟩
    · rcases start_get ar h with ⟨d', v, e, _⟩ | ⟨d', a, e, _⟩ <;> cases e
    · rcases start_get ar h with ⟨d', v, e, _⟩ | ⟨d', a, e, h1, h2, _⟩
      · cases e
      · exact ⟨a, h2, sv h1⟩
  refine ⟨?_, sm, fun i d h => ?_, fun i d h => ?_, fun i d h => ?_, fun i j a n h1 h2 s1 s2 => ?_, fun a o h _ => h, Same.refl _, fun _ _ h => h, fun _ h => h⟩
  · unfold startG L2.start
    simp only [List.length_append, List.length_map, List.length_zip, List.length_replicate]
    omega
  · rcases start_get ar h with ⟨d', v, e, h1, h2⟩ | ⟨d', a, e, _⟩
    · cases e
      exact ⟨v, sv h1, h2⟩
    · cases e
  · rcases start_get ar h with ⟨d', v, e, _⟩ | ⟨d', a, e, _⟩ <;> cases e
  · rcases start_get ar h with ⟨d', v, e, _⟩ | ⟨d', a, e, h1, h2, h3, h4⟩
    · cases e
    · cases e
      exact ⟨a, h2, sv h1, h3, h4⟩
  · obtain ⟨a1, e1, f1⟩ := own0 i h1
    obtain ⟨a2, e2, f2⟩ := own0 j h2
    rw [s1] at f1
    rw [s2] at f2
    cases f1
    cases f2
    exact n (iaOf_inj nd e1 e2)
/-- what the handed containers are at the end -/
theorem outs_ok {K : PySem.W.Frag} {Gz H : Hp} : ∀ {io : List Bool} {vs : List V} {ds0 : List D} {Gz0 H0 : Hp} {g : G} {l : List D}, ArgR K Gz0 H0 io vs ds0 → (∀ i d, g[i]? = some (some (.io d)) → ∃ a, iaOf io vs i = some a ∧ OwnAt K Gz H a d) → outsG io g = .ok l → OutR K Gz H io vs l
  | _, _, _, _, _, g, l, .nil, _, h => by
    unfold outsG at h
    cases h
    exact .nil
  | _, _, _, _, _, g, l, .frz _ r, hg, h => by
    cases g with
    | nil => cases h
    | cons b g => exact .frz (outs_ok r (fun i d hi => hg (i + 1) d hi) h)
  | _, _, _, _, _, g, l, .io _ _ r, hg, h => by
    cases g with
    | nil => cases h
    | cons b g =>
      cases b with
      | none => cases h
      | some b =>
        cases b <;> first | (cases h; done) | skip
        rename_i d
        have h : (R.bind (outsG _ g) fun r => .ok (d :: r)) = .ok l := h
        obtain ⟨r', h1, h⟩ := R.bind_ok h
        cases h
        obtain ⟨a, e, oa⟩ := hg 0 d rfl
        cases e
        exact .io oa (outs_ok r (fun i d hi => hg (i + 1) d hi) h1)
theorem outsG_exc {c : Str} : ∀ {io : List Bool} {g : G}, outsG io g ≠ .exc c
  | [], g => fun h => by unfold outsG at h; cases h
  | false :: io, _ :: g => outsG_exc (io := io) (g := g)
  | true :: io, some (.io d) :: g => bind_exc (fun _ => outsG_exc) fun _ _ h => nomatch h
  | true :: io, none :: g => fun h => nomatch h
  | true :: io, some (.frz _) :: g => fun h => nomatch h
  | true :: io, some (.own _) :: g => fun h => nomatch h
  | false :: io, [] => fun h => nomatch h
  | true :: io, [] => fun h => nomatch h
section
variable {Pg : Program} {w : World} {K : PySem.W.Frag} {mg : Str → Option Value} {base : Heap}
/-- every def of P, with calls j deep -/
def Fns (Pg : Program) (w : World) (K : PySem.W.Frag) (mg : Str → Option Value) (base : Heap) (ca : Str → Addr) (P : List Fn) (j : Nat) : Prop := ∀ (f : Nat) (F : Fn), P[f]? = some F → ∃ (a : Addr) (fd : FuncData) (ps : List Str), FnOk Pg w K mg base (L2.CX Pg w) j a fd ps (spF K ca F.io (run P j f)) ∧ mg F.name = some (.ref a) ∧ PySem.W.keepIn K (.ref a) = true ∧ Binds K fd ps []
def fnOf (P : List Fn) (f : Nat) : Option Str := (P[f]?).map (·.name)
/-- a def by its text -/
theorem def_ok {ca : Str → Addr} {P : List Fn} {j f : Nat} {F : Fn} {x qual : Str} {st : Stmt} {a : Addr} {fd : FuncData} {N ps xs : List Str} (hf : P[f]? = some F) (ho : F.out = none) (hn : F.n = N.length) (hio : F.io.length = ps.length) (Fu : FunD K x qual (defArgs st) (defBody st) (defScope st) [] [] a fd) (S : FnScope N ps (defScope st))
    (hbl : ∀ x ∈ blts, mg x = none) (hex : ∀ c ∈ xs, PySem.W.excIn K (ca c) [.type "ValueError", .type "Exception", .type "BaseException", .type "object"] "ValueError.__new__" = true ∧ mg c = some (.ref (ca c)) ∧ PySem.W.keepIn K (.ref (ca c)) = true ∧ PySem.W.subIn K (.ref (ca c)) (.type "BaseException") = some true ∧ PySem.W.typeIn K (.ref (ca c)) = some (.type "type"))
    (ht : isS N (fnOf P) xs (defScope st) F.body (defBody st) = true) (hfs : Fns Pg w K mg base ca P j) : FnOk Pg w K mg base (L2.CX Pg w) (j + 1) a fd ps (spF K ca F.io (run P (j + 1) f)) := by
  refine Fu.ok S (fun vs H Q E h => ?_) fun cdv A outer s H vs Q E hr hsp => ?_
  · obtain ⟨ds, Gz, _, ar, _⟩ := h
    rw [ar.len.1, hio]
  · obtain ⟨ds, Gz, sm, ar, nd, hq⟩ := hsp
    obtain ⟨l1, l2⟩ := ar.len
    have hps : ps.length ≤ N.length := by
      have := congrArg List.length S.pre
      rw [List.length_take] at this
      omega
    let X := cxOf (L2.CX Pg w) Pg w K mg base N qual (defScope st) a cdv A outer s H E
    let C := czOf K ca F.io vs H Gz E
    have tk : Takes X C.W := takes_of rfl rfl rfl rfl
    have ok : Cok X C j := ⟨rfl, rfl, S.nd, hr, tk, hbl⟩
    have cx : CtxS N (fnOf P) xs (ioOf P) (run P j) j (defScope st) X C := by
      refine ⟨⟨ok, rfl, rfl, fun f' x' hx' => ?_⟩, fun _ => rfl, S.kind, fun c hc => ?_⟩
      · unfold fnOf at hx'
        rw [Option.map_eq_some_iff] at hx'
        obtain ⟨F', hF', rfl⟩ := hx'
        have e : ioOf P f' = F'.io := by unfold ioOf; rw [hF']
        rw [e]
        exact hfs f' F' hF'
      · obtain ⟨e1, e2, e3, e4, e5⟩ := hex c hc
        exact ⟨e1, e2, e3, raises_own e4 e5⟩
    have rl : C.Rl (startG F.io F.n ds) (start N vs) H Gz := by
      rw [hn]
      exact rel_start sm ar nd (by omega)
    have key := (allS F.body (defBody st) ht X C cx).1 _ _ _ _ rl
    refine ⟨wSs X (defBody st), PSs.w, ?_⟩
    have hrun : run P (j + 1) f ds = R.bind (exec (ioOf P) (run P j) F.body (startG F.io F.n ds)) fun x => match x with
        | .nx g => R.bind (outsG F.io g) fun l => .ok (.f .none, l)
        | .rt v g => R.bind (outsG F.io g) fun l => .ok (v, l) := by
      show (match P[f]? with
        | none => (R.bad : R (Vl × List D))
        | some F => if ds.length = F.io.length then match F.out with
          | some t => outcome (run P j t ds)
          | none => R.bind (exec (ioOf P) (run P j) F.body (startG F.io F.n ds)) fun x => match x with
            | .nx g => R.bind (outsG F.io g) fun l => .ok (.f .none, l)
            | .rt v g => R.bind (outsG F.io g) fun l => .ok (v, l)
          else .bad) = _
      rw [hf]
      show (if ds.length = F.io.length then match F.out with
          | some t => outcome (run P j t ds)
          | none => R.bind (exec (ioOf P) (run P j) F.body (startG F.io F.n ds)) fun x => match x with
            | .nx g => R.bind (outsG F.io g) fun l => .ok (Vl.f .none, l)
            | .rt v g => R.bind (outsG F.io g) fun l => .ok (v, l)
          else (R.bad : R (Vl × List D))) = _
      rw [if_pos l2, ho]
    rw [hrun] at hq
    -- behind the body
    have behind : ∀ g σ H' Gz' l v b, C.Rl g σ H' Gz' → outsG F.io g = .ok l → RetR C v b H' Gz' → Behind K Gz H Gz' H' F.io vs (v, l) b := fun g σ H' Gz' l v b r ho hv => by
      refine ⟨r.gz0, r.sub, fun c o h n => r.keep c o h fun i hi => n (iaOf_mem.mp ⟨i, hi⟩), fun c h z => r.gr0 c h z, r.al0, outs_ok ar (fun i d hi => ?_) ho, ?_⟩
      · obtain ⟨a', e1, _, _, oa⟩ := r.io i d hi
        exact ⟨a', e1, oa⟩
      · cases v <;> exact hv
    cases hex' : exec (ioOf P) (run P j) F.body (startG F.io F.n ds) with
    | bad =>
      rw [hex'] at hq
      exact hq.elim
    | exc c =>
      rw [hex'] at hq key
      refine key _ fun σ' H' kp => ?_
      exact hq H' fun c o h n => kp c o h fun i hi => n (iaOf_mem.mp ⟨i, hi⟩)
    | ok fl =>
      rw [hex'] at hq key
      cases fl with
      | nx g =>
        have hq : match R.bind (outsG F.io g) fun l => (.ok (Vl.f .none, l) : R (Vl × List D)) with
          | .ok x => ∀ b H' Gz', Behind K Gz H Gz' H' F.io vs x b → Q b H'
          | .exc c => ∀ H', (∀ a o, H a = some o → a ∉ ioAt F.io vs → H' a = some o) → E (.ref (ca c)) none H'
          | .bad => False := hq
        cases hl : outsG F.io g with
        | bad => rw [hl] at hq; exact hq.elim
        | exc c => exact absurd hl outsG_exc
        | ok l =>
          rw [hl] at hq
          exact key _ fun σ' H' Gz' r => hq .non H' Gz' (behind g σ' H' Gz' l (.f .none) .non r hl .non)
      | rt v g =>
        have hq : match R.bind (outsG F.io g) fun l => (.ok (v, l) : R (Vl × List D)) with
          | .ok x => ∀ b H' Gz', Behind K Gz H Gz' H' F.io vs x b → Q b H'
          | .exc c => ∀ H', (∀ a o, H a = some o → a ∉ ioAt F.io vs → H' a = some o) → E (.ref (ca c)) none H'
          | .bad => False := hq
        cases hl : outsG F.io g with
        | bad => rw [hl] at hq; exact hq.elim
        | exc c => exact absurd hl outsG_exc
        | ok l =>
          rw [hl] at hq
          exact key _ fun b σ' H' Gz' r hv => hq b H' Gz' (behind g σ' H' Gz' l v b r hl hv)
end
end Dat

/-! Dat, part B26: all defs of a program; the law. -/
namespace Dat
open PySem PySem.Spec PyProof.Rows L2
open PySem.W
section
variable {Pg : Program} {w : World} {K : PySem.W.Frag} {mg : Str → Option Value} {base : Heap} {ca : Str → Addr} {P : List Fn}
/-- what is known of a def -/
def DefAt (Pg : Program) (w : World) (K : PySem.W.Frag) (mg : Str → Option Value) (base : Heap) (ca : Str → Addr) (P : List Fn) (f : Nat) (F : Fn) : Prop := ∃ (a : Addr) (fd : FuncData) (ps : List Str), mg F.name = some (.ref a) ∧ PySem.W.keepIn K (.ref a) = true ∧ Binds K fd ps [] ∧
  ∀ j, Fns Pg w K mg base ca P j → FnOk Pg w K mg base (L2.CX Pg w) (j + 1) a fd ps (spF K ca F.io (run P (j + 1) f))
theorem fns_all (h : ∀ f F, P[f]? = some F → DefAt Pg w K mg base ca P f F) : ∀ j, Fns Pg w K mg base ca P j
  | 0 => fun f F hf => by
    obtain ⟨a, fd, ps, h1, h2, h3, _⟩ := h f F hf
    refine ⟨a, fd, ps, ⟨fun vs H Q E z => ?_, fun A outer s H args us vs Q E _ _ _ _ z => ?_⟩, h1, h2, h3⟩
    · obtain ⟨_, _, _, _, _, z⟩ := z
      exact z.elim
    · obtain ⟨_, _, _, _, _, z⟩ := z
      exact z.elim
  | j + 1 => fun f F hf => by
    obtain ⟨a, fd, ps, h1, h2, h3, h4⟩ := h f F hf
    exact ⟨a, fd, ps, h4 j (fns_all h j), h1, h2, h3⟩
/-- a def that is never to be reached: its promise is empty -/
theorem def_never {f j : Nat} {F : Fn} {a : Addr} {fd : FuncData} {ps : List Str} (hf : P[f]? = some F) (hb : ∀ io cf g, exec io cf F.body g = .bad) (ho : F.out = none) : FnOk Pg w K mg base (L2.CX Pg w) (j + 1) a fd ps (spF K ca F.io (run P (j + 1) f)) := by
  have hr : ∀ ds, run P (j + 1) f ds = .bad := fun ds => by
    show (match P[f]? with
      | none => (R.bad : R (Vl × List D))
      | some F => if ds.length = F.io.length then match F.out with
        | some t => outcome (run P j t ds)
        | none => R.bind (exec (ioOf P) (run P j) F.body (startG F.io F.n ds)) fun x => match x with
          | .nx g => R.bind (outsG F.io g) fun l => .ok (Vl.f .none, l)
          | .rt v g => R.bind (outsG F.io g) fun l => .ok (v, l)
        else .bad) = _
    rw [hf]
    show (if ds.length = F.io.length then match F.out with
        | some t => outcome (run P j t ds)
        | none => R.bind (exec (ioOf P) (run P j) F.body (startG F.io F.n ds)) fun x => match x with
          | .nx g => R.bind (outsG F.io g) fun l => .ok (Vl.f .none, l)
          | .rt v g => R.bind (outsG F.io g) fun l => .ok (v, l)
        else (R.bad : R (Vl × List D))) = _
    rw [ho, hb]
    split <;> rfl
  refine ⟨fun vs H Q E z => ?_, fun A outer s H args us vs Q E _ _ _ _ z => ?_⟩
  · obtain ⟨ds, _, _, _, _, z⟩ := z
    rw [hr ds] at z
    exact z.elim
  · obtain ⟨ds, _, _, _, _, z⟩ := z
    rw [hr ds] at z
    exact z.elim
theorem rp_script {H : Hp} : ∀ ns : List Int, RpAll K H (ns.map V.int) (ns.map PyData.int)
  | [] => .nil
  | n :: r => .cons (.int n) (rp_script r)
/-- the law's own promise at the script -/
theorem law_sp {r : List D → R (Vl × List D)} {H : Hp} {a : Addr} {ns : List Int} (hS : SqL K H a (ns.map V.int)) (h : r [scr (ns.map .int)] = .ok (.f (.bool true), [])) : spF K ca [false] r [.ref a] H (fun v _ => v = .bl true) fun _ _ _ => False := by
  refine ⟨[scr (ns.map .int)], H, Same.refl _, .frz (.scr hS (rp_script ns)) .nil, .nil, ?_⟩
  rw [h]
  intro b H' Gz' bh
  have := bh.val
  cases this
  rfl
end
/-! ### from the head's facts -/
structure Row where
  F : Fn
  st : Stmt
  N : List Str
  ps : List Str
/-- a body that is never to be reached -/
def badS : S := .ex (.b1 .neg (.cst .none))
theorem bad_bad (io : Io) (cf : Caller) (g : G) : exec io cf badS g = .bad := rfl
def isBad : S → Bool
  | .ex (.b1 .neg (.cst .none)) => true
  | _ => false
def scopeB (N ps : List Str) (sc : Scope) : Bool := decide (sc.kind = .function) && !sc.isCoroutine && !sc.isGenerator && decide N.Nodup && decide (N.take ps.length = ps) &&
  (ps.all fun x => decide (sc.names.lookup x = some .local) || decide (sc.names.lookup x = some .cell)) && sc.names.all fun y => decide (y.2 ≠ .free)
theorem scopeB_ok {N ps : List Str} {sc : Scope} (h : scopeB N ps sc = true) : FnScope N ps sc := by
  unfold scopeB at h
  simp only [Bool.and_eq_true, Bool.not_eq_true', decide_eq_true_eq, List.all_eq_true, Bool.or_eq_true] at h
  obtain ⟨⟨⟨⟨⟨⟨h1, h2⟩, h3⟩, h4⟩, h5⟩, h6⟩, h7⟩ := h
  exact ⟨h1, h2, h3, h4, h5, h6, h7⟩
def Row.ok (P : List Fn) (xs : List Str) (r : Row) : Bool := decide (r.F.out = none) && (isBad r.F.body || (decide (r.F.n = r.N.length) && decide (r.F.io.length = r.ps.length) && scopeB r.N r.ps (defScope r.st) && isS r.N (fnOf P) xs (defScope r.st) r.F.body (defBody r.st)))
def Row.Bd (r : Row) : Prop := ∀ (kV doc pm : Value) (an : Option Addr) (cdv ct : Value) (us : List Value), us.length = r.ps.length → bindArgs (PySem.W.fnOf r.F.name r.F.name (defArgs r.st) (defBody r.st) (defScope r.st) .none kV doc pm an cdv ct) ⟨us, []⟩ = pure (r.ps.zip us)
def fnsT (T : List Row) : List He.DefD := T.map fun r => ⟨(r.F.name, none), r.F.name, r.F.name, defArgs r.st, defBody r.st, defScope r.st, [], []⟩
def facT (T : List Row) (xs : List Str) : List He.Fa := T.map (fun r => .glo r.F.name) ++ (blts.map .free ++ (xs.map .glo ++ xs.map .exc))
structure Says (T : List Row) (xs : List Str) (K : PySem.W.Frag) (mg : Str → Option Value) : Prop where
  bl : ∀ x ∈ blts, mg x = none
  ex : ∀ y ∈ xs, PySem.W.excIn K (He.ga K y) [.type "ValueError", .type "Exception", .type "BaseException", .type "object"] "ValueError.__new__" = true ∧ mg y = some (.ref (He.ga K y)) ∧ PySem.W.keepIn K (.ref (He.ga K y)) = true ∧ PySem.W.subIn K (.ref (He.ga K y)) (.type "BaseException") = some true ∧ PySem.W.typeIn K (.ref (He.ga K y)) = some (.type "type")
  df : ∀ (f : Nat) (r : Row), T[f]? = some r → mg r.F.name = some (.ref (He.ga K r.F.name)) ∧ ∃ fd, FunD K r.F.name r.F.name (defArgs r.st) (defBody r.st) (defScope r.st) [] [] (He.ga K r.F.name) fd
theorem says_of {T : List Row} {xs : List Str} {K : PySem.W.Frag} {mg : Str → Option Value} {h : Heap} (X : K.In h) (G : h.Ns mainGlobals mg) (c : He.SaysD (facT T xs) (fnsT T) K) : Says T xs K mg := by
  have fact : ∀ x ∈ facT T xs, x.ok K = true := fun x hx => by
    obtain ⟨i, hi, e⟩ := List.mem_iff_getElem.mp hx
    exact c.fact i (f := x) (by rw [List.getElem?_eq_getElem hi, e])
  refine ⟨fun x hx => He.free_ok X G (fact (.free x) (List.mem_append_right _ (List.mem_append_left _ (List.mem_map.mpr ⟨x, hx, rfl⟩)))), fun y hy => ?_, fun f r hr => ?_⟩
  · have h1 := He.glo_ok X G (fact (.glo y) (List.mem_append_right _ (List.mem_append_right _ (List.mem_append_left _ (List.mem_map.mpr ⟨y, hy, rfl⟩)))))
    obtain ⟨e1, e2, e3, e4⟩ := He.exc_ok (fact (.exc y) (List.mem_append_right _ (List.mem_append_right _ (List.mem_append_right _ (List.mem_map.mpr ⟨y, hy, rfl⟩)))))
    exact ⟨e1, h1, e2, e3, e4⟩
  · have hm : r ∈ T := List.mem_of_getElem? hr
    obtain ⟨fd, Fu⟩ := c.def_ f (d := ⟨(r.F.name, none), r.F.name, r.F.name, defArgs r.st, defBody r.st, defScope r.st, [], []⟩) (by unfold fnsT; rw [List.getElem?_map, hr]; rfl)
    exact ⟨He.glo_ok X G (fact (.glo r.F.name) (List.mem_append_left _ (List.mem_map.mpr ⟨r, hm, rfl⟩))), fd, Fu⟩
section
variable {T : List Row} {xs : List Str} {Pg : Program} {w : World} {K : PySem.W.Frag} {mg : Str → Option Value} {base : Heap}
theorem row_ok {f j : Nat} {r : Row} {fd : FuncData} (hT : T.all (Row.ok (T.map (·.F)) xs) = true) (c : Says T xs K mg) (hr : T[f]? = some r) (Fu : FunD K r.F.name r.F.name (defArgs r.st) (defBody r.st) (defScope r.st) [] [] (He.ga K r.F.name) fd) (hj : Fns Pg w K mg base (He.ga K) (T.map (·.F)) j) :
    FnOk Pg w K mg base (L2.CX Pg w) (j + 1) (He.ga K r.F.name) fd r.ps (spF K (He.ga K) r.F.io (run (T.map (·.F)) (j + 1) f)) := by
  have hm : r ∈ T := List.mem_of_getElem? hr
  have hP : (T.map (·.F))[f]? = some r.F := by rw [List.getElem?_map, hr]; rfl
  have hok := List.all_eq_true.mp hT r hm
  unfold Row.ok at hok
  simp only [Bool.and_eq_true, Bool.or_eq_true, decide_eq_true_eq] at hok
  obtain ⟨ho, hb | ⟨⟨⟨h1, h2⟩, h3⟩, h4⟩⟩ := hok
  · refine def_never hP (fun io cf g => ?_) ho
    have : r.F.body = badS := by
      unfold isBad at hb
      split at hb
      · assumption
      · cases hb
    rw [this]
    rfl
  · exact def_ok hP ho h1 h2 Fu (scopeB_ok h3) c.bl c.ex h4 hj
theorem defs_all (hT : T.all (Row.ok (T.map (·.F)) xs) = true) (hB : ∀ r ∈ T, r.Bd) (c : Says T xs K mg) : ∀ f F, (T.map (·.F))[f]? = some F → DefAt Pg w K mg base (He.ga K) (T.map (·.F)) f F := by
  intro f F hf
  rw [List.getElem?_map, Option.map_eq_some_iff] at hf
  obtain ⟨r, hr, rfl⟩ := hf
  obtain ⟨h1, fd, Fu⟩ := c.df f r hr
  exact ⟨He.ga K r.F.name, fd, r.ps, h1, Fu.kp, Fu.bindsN (hB r (List.mem_of_getElem? hr)), fun j hj => row_ok hT c hr Fu hj⟩
end
/-- the law's end: f the law's number, j how deep calls go -/
theorem law_end {T : List Row} {xs : List Str} {Pg : Program} {w : World} {K : PySem.W.Frag} {mg : Str → Option Value} {h : Heap} {fa : Addr} {f j : Nat} {r : Row} (hT : T.all (Row.ok (T.map (·.F)) xs) = true) (hB : ∀ r ∈ T, r.Bd) (X : K.In h) (G : h.Ns mainGlobals mg) (c : He.SaysD (facT T xs) (fnsT T) K)
    (hr : T[f]? = some r) (hn : mg r.F.name = some (.ref fa)) (hps : r.ps = [("script" : Str)]) (hio : r.F.io = [false]) :
    ∃ fd : FuncData, (∀ (s : Shared) (u : Value), BindsTo s fd ⟨[u], []⟩ [(("script" : Str), u)]) ∧ ∀ base : Heap, K.In base → base.Ns mainGlobals mg → FnOk Pg w K mg base (L2.CX Pg w) (j + 1) fa fd [("script" : Str)] (spF K (He.ga K) [false] (run (T.map (·.F)) (j + 1) f)) := by
  have s := says_of X G c
  obtain ⟨h1, fd, Fu⟩ := s.df f r hr
  rw [hn] at h1
  cases h1
  have hb := hB r (List.mem_of_getElem? hr)
  refine ⟨fd, fun sh u => ?_, fun base _ _ => ?_⟩
  · have b := FunD.bindsA (ps := r.ps) Fu hb sh [u] (by rw [hps]; rfl)
    rw [hps] at b
    exact b
  · have q := row_ok (Pg := Pg) (w := w) (base := base) (j := j) hT s hr Fu (fns_all (defs_all hT hB s) j)
    rw [hps, hio] at q
    exact q
/-- the goal that a head leaves, from a law whose exceptions' word hangs on the world -/
theorem walkW {l : PySem.W.OpenLaw} {n k : Nat} {q : Program} {loose : List Str} {XP : (Str → Option Value) → Heap → Prop} {YP : World → Heap → Prop} {d : DefRec} {x : Str} (hn : l.most = some n) (hn2 : n ≤ sizeLine) (hdf : d.params.defaults = []) (hr : Room k callerA)
    (F : ∀ (w : World) (mg : Str → Option Value) (fa : Addr) (h : Heap), YP w h → h.Ns mainGlobals mg → mg d.name = some (.ref fa) → ∃ (K : PySem.W.Frag) (fd : FuncData) (sp : Sp), K.In h ∧ (∀ (s : Shared) (u : Value), BindsTo s fd ⟨[u], []⟩ [(x, u)]) ∧
      (∀ (H : Hp) (a : Addr) (ns : List Int), ns.length ≤ n → SqL K H a (ns.map V.int) → sp [.ref a] H (fun v _ => v = .bl true) fun _ _ _ => False) ∧ ∀ base : Heap, K.In base → base.Ns mainGlobals mg → FnOk l.prog w K mg base (L2.CX l.prog w) k fa fd [x] sp) :
    PySem.W.WalkO q loose XP YP l.row.toRowW d [] (fun f vs => PySem.call f vs) := by
  refine Att.attach_call hn hdf ?_
  intro w s0 s1 mg mb fa o pm cd doc a vs ns G Y ho hd hcd hmg hobj hints hlen hg
  have f := F w mg fa _ Y G.T.g hmg
  obtain ⟨K, fd, sp, kx, hb, hsp, hf⟩ := f
  have nx : ∀ (H : Hp) (e : Value) (s' : Shared), L2.CX l.prog w [] H s1 (fun _ _ _ => False) e s' → False := fun H e s' z => by
    obtain ⟨_, _, _, _, _, _, _, _, _, _, _, _, z⟩ := z
    exact z
  exact law_call kx G.T.g G.T.b G.T.builtins G.T.nolimit hg hobj hints (Nat.le_trans hlen hn2) hr hf hb (fun H _ hS => hsp H a ns hlen hS) nx
end Dat

/-! Dat, part Q0: the evaluator's steps on plain numbers. -/
namespace Dat
open PySem (PyData)
abbrev iN (n : Nat) : D := .int (n : Int)
def tp (p : List Nat) : D := .tuple (p.map fun n : Nat => PyData.int (n : Int))
def ls (p : List Nat) : D := .list (p.map fun n : Nat => PyData.int (n : Int))
/-! ### the steps, so that what comes first is looked at first -/
/-- the result's kind names f, so that f is left as it is while x is looked at -/
@[reducible] def Out {α β : Type} (_ : α → R β) : Type := R β
def bd {α β : Type} (x : R α) (f : α → R β) : Out f := R.bind x f
def bq {α β : Type} (x : R α) (f : α → R β) : Out f := R.quiet x f
theorem bd_ok {α β : Type} (a : α) (f : α → R β) : bd (.ok a) f = f a := rfl
theorem bq_ok {α β : Type} (a : α) (f : α → R β) : bq (.ok a) f = f a := rfl
section
theorem q_ev_0 (io : Io) (cf : Caller) {d} {g} : ev io cf (.cst d) g = .ok (.f d, g) := rfl
theorem q_ev_1 (io : Io) (cf : Caller) {i} {g} : ev io cf (.var i) g = rdv g i := rfl
theorem q_ev_2 (io : Io) (cf : Caller) {i} {g} : ev io cf (.pv i) g = bd (pkv g i) fun _ => .ok (.r i, g) := rfl
theorem q_ev_3 (io : Io) (cf : Caller) {i} {g} : ev io cf (.mv i) g = mvv g i := rfl
theorem q_ev_4 (io : Io) (cf : Caller) {d} {g} {w1} : ev io cf (.glo w1 d) g = .ok (.f d, g) := rfl
theorem q_ev_5 (io : Io) (cf : Caller) {a} {g} : ev io cf (.tup a) g = bd (evD io cf a g) fun x => .ok (.f (.tuple x.1), x.2) := rfl
theorem q_ev_6 (io : Io) (cf : Caller) {a} {g} : ev io cf (.lst a) g = bd (evD io cf a g) fun x => .ok (.o (.list x.1), x.2) := rfl
theorem q_ev_7 (io : Io) (cf : Caller) {a} {g} : ev io cf (.dct a) g = bd (evD io cf a g) fun x => bd (.ofO (altPairs x.1)) fun l => if kOks l = true ∧ l.length ≤ 15 then .ok (.o (.dict (dMerge [] l)), x.2) else .bad := rfl
theorem q_ev_8 (io : Io) (cf : Caller) {o} {a} {b} {g} : ev io cf (.bin o a b) g = bd (ev io cf a g) fun x => bd (ev io cf b x.2) fun y => bd (x.1.res y.2) fun d => bd (y.1.res y.2) fun e => bd (op2 o d e) fun v => .ok (v, y.2) := rfl
theorem q_ev_9 (io : Io) (cf : Caller) {a} {g} : ev io cf (.not a) g = bd (ev io cf a g) fun x => bd x.1.fz fun d => bd (asBool d) fun b => .ok (.f (.bool !b), x.2) := rfl
theorem q_ev_10 (io : Io) (cf : Caller) {a} {g} : ev io cf (.and a) g = bd (evAnd io cf a g) fun x => .ok (.f (.bool x.1), x.2) := rfl
theorem q_ev_11 (io : Io) (cf : Caller) {a} {g} : ev io cf (.or a) g = bd (evOr io cf a g) fun x => .ok (.f (.bool x.1), x.2) := rfl
theorem q_ev_12 (io : Io) (cf : Caller) {o} {a} {b} {g} : ev io cf (.cmp o a b) g = bd (ev io cf a g) fun x => bd (ev io cf b x.2) fun y => bd (x.1.res y.2) fun d => bd (y.1.res y.2) fun e => bd (cmpD o d e) fun v => .ok (.f (.bool v), y.2) := rfl
theorem q_ev_13 (io : Io) (cf : Caller) {a} {b} {c} {g} : ev io cf (.chn a b c) g = bd (ev io cf a g) fun x => bd (ev io cf b x.2) fun y => bd (x.1.res y.2) fun d => bd (y.1.res y.2) fun e => bd (cmpD .le d e) fun v => match v with
    | false => .ok (.f (.bool false), y.2)
    | true => bd (ev io cf c y.2) fun z => bd (y.1.res z.2) fun e => bd (z.1.res z.2) fun h => bd (cmpD .le e h) fun v => .ok (.f (.bool v), z.2) := rfl
theorem q_ev_14 (io : Io) (cf : Caller) {neg} {a} {b} {g} : ev io cf (.inv neg a b) g = bd (ev io cf a g) fun x => bd (ev io cf b x.2) fun y => bd (x.1.res y.2) fun d => bd (y.1.res y.2) fun e => match e with
    | .dict r => if kOks r = true then bd (isMem d (.list (r.map (·.2)))) fun v => .ok (.f (.bool (if neg then !v else v)), y.2) else .bad
    | _ => .bad := rfl
theorem q_ev_15 (io : Io) (cf : Caller) {c} {a} {b} {g} : ev io cf (.ife c a b) g = bd (ev io cf c g) fun x => bd x.1.fz fun d => bd (asBool d) fun t => match t with
    | true => ev io cf a x.2
    | false => ev io cf b x.2 := rfl
theorem q_ev_16 (io : Io) (cf : Caller) {a} {i} {g} : ev io cf (.sub a i) g = bd (ev io cf a g) fun x => bd (ev io cf i x.2) fun y => bd (x.1.res y.2) fun d => bd (y.1.res y.2) fun e => bd (ixD d e) fun v => .ok (.f v, y.2) := rfl
theorem q_ev_17 (io : Io) (cf : Caller) {a} {lo} {hi} {g} : ev io cf (.slc a lo hi) g = bd (ev io cf a g) fun x => bd (evO io cf lo x.2) fun y => bd (evO io cf hi y.2) fun z => bd (x.1.res z.2) fun d => bd (slcD y.1 z.1 d) fun v => .ok (v, z.2) := rfl
theorem q_ev_18 (io : Io) (cf : Caller) {a} {g} : ev io cf (.rev a) g = bd (ev io cf a g) fun x => bd (x.1.res x.2) fun d => bd (revD d) fun v => .ok (v, x.2) := rfl
theorem q_ev_19 (io : Io) (cf : Caller) {f} {a} {g} : ev io cf (.call f a) g = bd (evA io cf a g) fun x => if noDup (refsOf (io f) x.1) = true ∧ okO (io f) x.1 = true then bd (handed x.2 (io f) x.1) fun ds => bd (cf f ds) fun y => bd (backTo (io f) x.1 y.2 x.2) fun g => .ok (y.1, g) else .bad := rfl
theorem q_ev_20 (io : Io) (cf : Caller) {f} {a} {g} : ev io cf (.b1 f a) g = bd (ev io cf a g) fun x => bd (x.1.res x.2) fun d => bd (fn1 f d) fun v => .ok (v, x.2) := rfl
theorem q_ev_21 (io : Io) (cf : Caller) {mx} {a} {b} {g} : ev io cf (.mm mx a b) g = bd (ev io cf a g) fun x => bd (ev io cf b x.2) fun y => bd (x.1.res y.2) fun d => bd (y.1.res y.2) fun e => match d, e with
    | .int i, .int j => .ok (.f (.int (if mx then (if j > i then j else i) else (if j < i then j else i))), y.2)
    | _, _ => .bad := rfl
theorem q_ev_22 (io : Io) (cf : Caller) {tu} {a} {g} : ev io cf (.rngl tu a) g = bd (evD io cf a g) fun x => bd (rngD x.1) fun l => .ok (if tu then .f (.tuple l) else .o (.list l), x.2) := rfl
theorem q_ev_23 (io : Io) (cf : Caller) {a} {b} {g} : ev io cf (.dzip a b) g = bd (ev io cf a g) fun x => bd (ev io cf b x.2) fun y => bd (x.1.res y.2) fun d => bd (y.1.res y.2) fun e => bd (dzipD d e) fun v => .ok (v, y.2) := rfl
theorem q_ev_24 (io : Io) (cf : Caller) {a} {t} {g} : ev io cf (.isi a t) g = bd (ev io cf a g) fun x => bd (x.1.res x.2) fun d => .ok (.f (.bool (isTy t d)), x.2) := rfl
theorem q_ev_25 (io : Io) (cf : Caller) {a} {k} {d} {g} : ev io cf (.get a k d) g = bd (ev io cf a g) fun x => bd (ev io cf k x.2) fun y => bd (ev io cf d y.2) fun z => bd (x.1.res z.2) fun r => bd y.1.fz fun k => bd z.1.fz fun d => bd (getD2 r k d) fun v => .ok (.f v, z.2) := rfl
theorem q_ev_26 (io : Io) (cf : Caller) {m} {a} {b} {g} : ev io cf (.me m a b) g = bd (ev io cf a g) fun x => bd x.1.fz fun d => if meKind m d = true then bd (ev io cf b x.2) fun y => bd y.1.fz fun e => bd (meth m d e) fun v => .ok (v, y.2) else .bad := rfl
theorem q_ev_27 (io : Io) (cf : Caller) {i} {g} : ev io cf (.pop0 i) g = bd (pkv g i) fun d => match d with
    | .list a => match a.getLast? with
      | some x => bd (chg g i fun _ => .ok (.list a.dropLast)) fun g => .ok (.f x, g)
      | none => .bad
    | _ => .bad := rfl
theorem q_ev_28 (io : Io) (cf : Caller) {i} {e} {g} : ev io cf (.popi i e) g = bd (pkv g i) fun d0 => match d0 with
    | .list _ => bd (ev io cf e g) fun x => bd x.1.fz fun k => bd (pkv x.2 i) fun d => popAt i k d x.2
    | _ => .bad := rfl
theorem q_ev_29 (io : Io) (cf : Caller) {e} {p} {i} {c} {g} : ev io cf (.lc e p i c) g = bd (evI io cf i g) fun x => if x.1.length ≤ LIM then bd (lcF p p.slots (fun g => evC io cf c g) (fun g => bd (ev io cf e g) fun y => bd y.1.fz fun d => .ok (d, y.2)) x.1 x.2 []) fun y => .ok (.o (.list y.1), rst x.2 p.slots y.2) else .bad := rfl
theorem q_ev_30 (io : Io) (cf : Caller) {e} {p} {i} {q} {j} {c} {g} : ev io cf (.lc2 e p i q j c) g = bd (evI io cf i g) fun x => bd (lc2F p (p.slots ++ q.slots) (fun g => evI io cf j g)
      (fun l g acc => lcF q q.slots (fun g => evC io cf c g) (fun g => bd (ev io cf e g) fun y => bd y.1.fz fun d => .ok (d, y.2)) l g acc) x.1 x.2 []) fun y => if y.1.length ≤ LIM then .ok (.o (.list y.1), rst x.2 (p.slots ++ q.slots) y.2) else .bad := rfl
theorem q_evC_0 (io : Io) (cf : Caller) {g} : evC io cf .no g = .ok (true, g) := rfl
theorem q_evC_1 (io : Io) (cf : Caller) {e} {g} : evC io cf (.yes e) g = bd (ev io cf e g) fun x => bd x.1.fz fun d => bd (asBool d) fun b => .ok (b, x.2) := rfl
theorem q_evAnd_0 (io : Io) (cf : Caller) {g} : evAnd io cf .nil g = .ok (true, g) := rfl
theorem q_evAnd_1 (io : Io) (cf : Caller) {e} {a} {g} : evAnd io cf (.cons e a) g = bd (ev io cf e g) fun x => bd x.1.fz fun d => bd (asBool d) fun b => match b with
    | true => evAnd io cf a x.2
    | false => .ok (false, x.2) := rfl
theorem q_evOr_0 (io : Io) (cf : Caller) {g} : evOr io cf .nil g = .ok (false, g) := rfl
theorem q_evOr_1 (io : Io) (cf : Caller) {e} {a} {g} : evOr io cf (.cons e a) g = bd (ev io cf e g) fun x => bd x.1.fz fun d => bd (asBool d) fun b => match b with
    | true => .ok (true, x.2)
    | false => evOr io cf a x.2 := rfl
theorem q_evO_0 (io : Io) (cf : Caller) {g} : evO io cf .no g = .ok (none, g) := rfl
theorem q_evO_1 (io : Io) (cf : Caller) {e} {g} : evO io cf (.yes e) g = bd (ev io cf e g) fun x => bd x.1.fz fun d => bd (asInt? d) fun i => .ok (i, x.2) := rfl
theorem q_evA_0 (io : Io) (cf : Caller) {g} : evA io cf .nil g = .ok ([], g) := rfl
theorem q_evA_1 (io : Io) (cf : Caller) {e} {a} {g} : evA io cf (.cons e a) g = bd (ev io cf e g) fun x => bd (evA io cf a x.2) fun y => .ok (x.1 :: y.1, y.2) := rfl
theorem q_evD_0 (io : Io) (cf : Caller) {g} : evD io cf .nil g = .ok ([], g) := rfl
theorem q_evD_1 (io : Io) (cf : Caller) {e} {a} {g} : evD io cf (.cons e a) g = bd (ev io cf e g) fun x => bd x.1.fz fun d => bd (evD io cf a x.2) fun y => .ok (d :: y.1, y.2) := rfl
theorem q_evI_0 (io : Io) (cf : Caller) {x} {g} : evI io cf (.e x) g = bd (ev io cf x g) fun x => bd x.1.fz fun d => bd (itemsOf d) fun l => .ok (l, x.2) := rfl
theorem q_evI_1 (io : Io) (cf : Caller) {a} {g} : evI io cf (.rng a) g = bd (evD io cf a g) fun x => bd (rngD x.1) fun l => .ok (l, x.2) := rfl
theorem q_evI_2 (io : Io) (cf : Caller) {x} {g} : evI io cf (.enu x) g = bd (ev io cf x g) fun x => bd x.1.fz fun d => bd (seqOf d) fun l => .ok (enumD l 0, x.2) := rfl
theorem q_evI_3 (io : Io) (cf : Caller) {a} {g} : evI io cf (.zip a) g = bd (evD io cf a g) fun x => bd (zipD x.1) fun l => .ok (l, x.2) := rfl
theorem q_evI_4 (io : Io) (cf : Caller) {x} {g} : evI io cf (.vals x) g = bd (ev io cf x g) fun x => match x.1 with
    | .o (.dict r) => if kOks r = true then .ok (r.map (·.2), x.2) else .bad
    | _ => .bad := rfl
theorem q_exec_0 (io : Io) (cf : Caller) {g} : Dat.exec io cf .skip g = .ok (.nx g) := rfl
theorem q_exec_1 (io : Io) (cf : Caller) {s} {t} {g} : Dat.exec io cf (.seq s t) g = bd (Dat.exec io cf s g) fun x => match x with
    | .nx g => Dat.exec io cf t g
    | .rt v g => .ok (.rt v g) := rfl
theorem q_exec_2 (io : Io) (cf : Caller) {i} {e} {g} : Dat.exec io cf (.asg (.v i) e) g = bd (ev io cf e g) fun x => bd (put x.2 i x.1) fun g => .ok (.nx g) := rfl
theorem q_exec_3 (io : Io) (cf : Caller) {p} {q} {e} {g} : Dat.exec io cf (.asg (.tc p q) e) g = bd (ev io cf e g) fun x => bd x.1.fz fun d => bd (stP (.tc p q) d x.2) fun g => .ok (.nx g) := rfl
theorem q_exec_4 (io : Io) (cf : Caller) {p} {a} {g} : Dat.exec io cf (.par p a) g = bd (evA io cf a g) fun x => bd (stVs p x.1 x.2) fun g => .ok (.nx g) := rfl
theorem q_exec_5 (io : Io) (cf : Caller) {i} {k} {v} {g} : Dat.exec io cf (.seti i k v) g = bd (pkv g i) fun _ => bd (ev io cf v g) fun x => bd x.1.fz fun v => bd (ev io cf k x.2) fun y => bd y.1.fz fun k => bd (chg y.2 i (setIx k v)) fun g => .ok (.nx g) := rfl
theorem q_exec_6 (io : Io) (cf : Caller) {i} {e} {g} : Dat.exec io cf (.app i e) g = bd (pkv g i) fun d0 => if isLst d0 = true then bd (ev io cf e g) fun x => bd x.1.fz fun v => bd (chg x.2 i (appD v)) fun g => .ok (.nx g) else .bad := rfl
theorem q_exec_7 (io : Io) (cf : Caller) {i} {e} {g} : Dat.exec io cf (.ext i e) g = bd (pkv g i) fun d0 => if isLst d0 = true then bd (ev io cf e g) fun x => bd (x.1.res x.2) fun v => bd (chg x.2 i (extD v)) fun g => .ok (.nx g) else .bad := rfl
theorem q_exec_8 (io : Io) (cf : Caller) {i} {e} {g} : Dat.exec io cf (.upd i e) g = bd (pkv g i) fun d0 => if isDct d0 = true then bd (ev io cf e g) fun x => if notSlot i x.1 = true then bd (x.1.res x.2) fun v => bd (chg x.2 i (updD v)) fun g => .ok (.nx g) else .bad else .bad := rfl
theorem q_exec_9 (io : Io) (cf : Caller) {e} {g} : Dat.exec io cf (.ex e) g = bd (ev io cf e g) fun x => .ok (.nx x.2) := rfl
theorem q_exec_10 (io : Io) (cf : Caller) {c} {s} {t} {g} : Dat.exec io cf (.ite c s t) g = bd (tst io cf c g) fun x => match x.1 with
    | true => Dat.exec io cf s x.2
    | false => Dat.exec io cf t x.2 := rfl
theorem q_exec_11 (io : Io) (cf : Caller) {c} {s} {g} : Dat.exec io cf (.whl c s) g = whileF (fun g => tst io cf c g) (fun g => Dat.exec io cf s g) FUEL g := rfl
theorem q_exec_12 (io : Io) (cf : Caller) {p} {i} {s} {g} : Dat.exec io cf (.for_ p i s) g = bq (evI io cf i g) fun x => forF p (fun g => Dat.exec io cf s g) x.1 x.2 := rfl
theorem q_exec_13 (io : Io) (cf : Caller) {e} {g} : Dat.exec io cf (.ret e) g = bd (ev io cf e g) fun x => match x.1 with
    | .r _ => .bad
    | v => .ok (.rt v x.2) := rfl
theorem q_exec_14 (io : Io) (cf : Caller) {c} {c2} {w1} : Dat.exec io cf (.rse c c2) w1 = .exc c := rfl
theorem q_tst (io : Io) (cf : Caller) {e} {g} : tst io cf e g = bd (ev io cf e g) fun x => bd x.1.fz fun d => bd (asBool d) fun b => .ok (b, x.2) := rfl
end
theorem q_chgO {g : G} {i : Nat} {h : D → R D} {d : D} (e : g[i]? = some (some (.own d))) : chg g i h = bd (h d) fun e => .ok (g.set i (some (.own e))) := by unfold chg; rw [e]; rfl
/-- a def's run, its body shown -/
def bodyR (io : Io) (cf : Caller) (F : Fn) (ds : List D) : R (Vl × List D) := bd (exec io cf F.body (startG F.io F.n ds)) fun x => match x with
  | .nx g => bd (outsG F.io g) fun l => .ok (.f .none, l)
  | .rt v g => bd (outsG F.io g) fun l => .ok (v, l)
theorem run_at {P : List Fn} {f k : Nat} {ds : List D} {F : Fn} (h : P[f]? = some F) (ho : F.out = none) (hl : ds.length = F.io.length) : run P (k + 1) f ds = bodyR (ioOf P) (run P k) F ds := by
  have e : run P (k + 1) f ds = match P[f]? with
    | none => .bad
    | some F => if ds.length = F.io.length then match F.out with
      | some t => outcome (run P k t ds)
      | none => bodyR (ioOf P) (run P k) F ds
      else .bad := rfl
  rw [e, h]
  simp only [hl, ho, if_true]

/-! ### loops -/
theorem forF_inv {p : Pat} {b : G → R Fl} (I : List D → G → Prop) (hs : ∀ d r g, I (d :: r) g → ∃ g1 g2, stP p d g = .ok g1 ∧ b g1 = .ok (.nx g2) ∧ I r g2) : ∀ (ds : List D) (g : G), I ds g → ∃ g', forF p b ds g = .ok (.nx g') ∧ I [] g'
  | [], g, h => ⟨g, rfl, h⟩
  | d :: r, g, h => by
    obtain ⟨g1, g2, h1, h2, h3⟩ := hs d r g h
    obtain ⟨g', h4, h5⟩ := forF_inv I hs r g2 h3
    refine ⟨g', ?_, h5⟩
    unfold forF
    rw [h1]
    show R.quiet (b g1) _ = _
    rw [h2]
    exact h4
/-- .. that may end early -/
theorem forF_ret {p : Pat} {b : G → R Fl} (I : List D → G → Prop) (J : Vl → G → Prop) (hs : ∀ d r g, I (d :: r) g → ∃ g1, stP p d g = .ok g1 ∧ ((∃ g2, b g1 = .ok (.nx g2) ∧ I r g2) ∨ ∃ v g2, b g1 = .ok (.rt v g2) ∧ J v g2)) : ∀ (ds : List D) (g : G), I ds g → (∃ g', forF p b ds g = .ok (.nx g') ∧ I [] g') ∨ ∃ v g', forF p b ds g = .ok (.rt v g') ∧ J v g'
  | [], g, h => .inl ⟨g, rfl, h⟩
  | d :: r, g, h => by
    obtain ⟨g1, h1, h2⟩ := hs d r g h
    rcases h2 with ⟨g2, h2, h3⟩ | ⟨v, g2, h2, h3⟩
    · rcases forF_ret I J hs r g2 h3 with ⟨g', h4, h5⟩ | ⟨v, g', h4, h5⟩
      · refine .inl ⟨g', ?_, h5⟩
        unfold forF
        rw [h1]
        show R.quiet (b g1) _ = _
        rw [h2]
        exact h4
      · refine .inr ⟨v, g', ?_, h5⟩
        unfold forF
        rw [h1]
        show R.quiet (b g1) _ = _
        rw [h2]
        exact h4
    · refine .inr ⟨v, g2, ?_, h3⟩
      unfold forF
      rw [h1]
      show R.quiet (b g1) _ = _
      rw [h2]
/-- a loop with a measure -/
theorem whileF_inv {c : G → R (Bool × G)} {b : G → R Fl} (I : Nat → G → Prop) (hs : ∀ m g, I m g → (∃ g1, c g = .ok (false, g1) ∧ I 0 g1 ∧ m = 0) ∨ ∃ m' g1 g2, m = m' + 1 ∧ c g = .ok (true, g1) ∧ b g1 = .ok (.nx g2) ∧ I m' g2) : ∀ (m n : Nat) (g : G), m < n → I m g → ∃ g', whileF c b n g = .ok (.nx g') ∧ I 0 g' := by
  intro m
  induction m with
  | zero =>
    intro n g hn h
    obtain ⟨k, rfl⟩ : ∃ k, n = k + 1 := ⟨n - 1, by omega⟩
    rcases hs 0 g h with ⟨g1, h1, h2, _⟩ | ⟨m', _, _, e, _⟩
    · refine ⟨g1, ?_, h2⟩
      unfold whileF
      rw [h1]
    · omega
  | succ m ih =>
    intro n g hn h
    obtain ⟨k, rfl⟩ : ∃ k, n = k + 1 := ⟨n - 1, by omega⟩
    rcases hs (m + 1) g h with ⟨g1, h1, h2, e⟩ | ⟨m', g1, g2, e, h1, h2, h3⟩
    · omega
    · obtain rfl : m = m' := by omega
      obtain ⟨g', h4, h5⟩ := ih k g2 (by omega) h3
      refine ⟨g', ?_, h5⟩
      unfold whileF
      rw [h1]
      show R.quiet (b g1) _ = _
      rw [h2]
      exact h4
/-- a comprehension that maps -/
theorem lcF_map {p : Pat} {ws : List Nat} {c : G → R (Bool × G)} {e : G → R (D × G)} {α : Type} (fd : α → D) (fo : α → D) (K : G → Prop) (hs : ∀ x g, K g → ∃ g1 g2 g3, stP p (fd x) (wipeG ws g) = .ok g1 ∧ c g1 = .ok (true, g2) ∧ e g2 = .ok (fo x, g3) ∧ K g3) :
    ∀ (xs : List α) (g : G) (acc : List D), K g → ∃ g', lcF p ws c e (xs.map fd) g acc = .ok (acc ++ xs.map fo, g') ∧ K g'
  | [], g, acc, h => ⟨g, by simp [lcF], h⟩
  | x :: r, g, acc, h => by
    obtain ⟨g1, g2, g3, h1, h2, h3, h4⟩ := hs x g h
    obtain ⟨g', h5, h6⟩ := lcF_map fd fo K hs r g3 (acc ++ [fo x]) h4
    refine ⟨g', ?_, h6⟩
    rw [List.map_cons]
    unfold lcF
    rw [h1]
    show R.quiet (c g1) _ = _
    rw [h2]
    show R.quiet (e g2) _ = _
    rw [h3]
    show lcF p ws c e (r.map fd) g3 (acc ++ [fo x]) = _
    rw [h5]
    simp
/-- .. with what is known of each -/
theorem lcF_mapM {p : Pat} {ws : List Nat} {c : G → R (Bool × G)} {e : G → R (D × G)} {α : Type} (fd : α → D) (fo : α → D) (K : G → Prop) : ∀ (xs : List α) (hs : ∀ x g, x ∈ xs → K g → ∃ g1 g2 g3, stP p (fd x) (wipeG ws g) = .ok g1 ∧ c g1 = .ok (true, g2) ∧ e g2 = .ok (fo x, g3) ∧ K g3) (g : G) (acc : List D), K g → ∃ g', lcF p ws c e (xs.map fd) g acc = .ok (acc ++ xs.map fo, g') ∧ K g'
  | [], _, g, acc, h => ⟨g, by simp [lcF], h⟩
  | x :: r, hs, g, acc, h => by
    obtain ⟨g1, g2, g3, h1, h2, h3, h4⟩ := hs x g (by simp) h
    obtain ⟨g', h5, h6⟩ := lcF_mapM fd fo K r (fun x g m => hs x g (by simp [m])) g3 (acc ++ [fo x]) h4
    refine ⟨g', ?_, h6⟩
    rw [List.map_cons]
    unfold lcF
    rw [h1]
    show R.quiet (c g1) _ = _
    rw [h2]
    show R.quiet (e g2) _ = _
    rw [h3]
    show lcF p ws c e (r.map fd) g3 (acc ++ [fo x]) = _
    rw [h5]
    simp

theorem set_twice {α : Type} (g : List α) (s : Nat) (a b : α) : (g.set s a).set s b = g.set s b := by
  simp
theorem set_back {α : Type} (g : List (Option α)) (s : Nat) : g.set s ((g[s]?).getD none) = g := by
  apply List.ext_getElem?
  intro i
  rw [List.getElem?_set]
  split
  · rename_i h
    subst h
    split
    · rename_i h
      simp [h]
    · rename_i h
      simp at h
      simp [h]
  · rfl
/-- [e for x in it], e changing nothing -/
theorem ev_lcv {io : Io} {cf : Caller} {e : E} {s : Nat} {i : I} {g g1 : G} {α : Type} {xs : List α} (fd fo : α → D) (h1 : evI io cf i g = .ok (xs.map fd, g1)) (hl : xs.length ≤ 1000) (hs : s < g1.length)
    (ni : ∀ d, g1[s]? ≠ some (some (.io d))) (he : ∀ x ∈ xs, ∃ v, ev io cf e (g1.set s (some (.frz (fd x)))) = .ok (v, g1.set s (some (.frz (fd x)))) ∧ v.fz = .ok (fo x)) :
    ev io cf (.lc e (.v s) i .no) g = .ok (.o (.list (xs.map fo)), g1) := by
  rw [q_ev_29, h1, bd_ok]
  have hz : (xs.map fd).length ≤ LIM := by
    rw [List.length_map]
    have : LIM = 1000000 := rfl
    omega
  rw [if_pos hz]
  obtain ⟨g', h2, o, h3⟩ := lcF_mapM (p := .v s) (ws := (Pat.v s).slots) (c := fun g => evC io cf .no g) (e := fun g => bd (ev io cf e g) fun y => bd y.1.fz fun d => .ok (d, y.2)) fd fo (fun g => ∃ o, g = g1.set s o) xs (fun x g hx ⟨o, hg⟩ => by
    obtain ⟨v, e1, e2⟩ := he x hx
    refine ⟨g1.set s (some (.frz (fd x))), g1.set s (some (.frz (fd x))), g1.set s (some (.frz (fd x))), ?_, rfl, ?_, _, rfl⟩
    · subst hg
      show put ((g1.set s o).set s none) s (.f (fd x)) = _
      rw [set_twice]
      unfold put
      rw [List.getElem?_set_self hs]
      show R.ok ((g1.set s none).set s _) = _
      rw [set_twice]
    · show bd (ev io cf e _) _ = _
      rw [e1, bd_ok]
      show bd v.fz _ = _
      rw [e2, bd_ok]) g1 [] ⟨(g1[s]?).getD none, (set_back g1 s).symm⟩
  rw [h2, bd_ok]
  subst h3
  show R.ok (Vl.o (.list ([] ++ xs.map fo)), (g1.set s o).set s ((g1[s]?).getD none)) = _
  rw [set_twice, set_back, List.nil_append]

theorem lc_map {io : Io} {cf : Caller} {C e : E} {s : Nat} {i : I} {g g1 : G} {α : Type} {xs : List α} (hC : C = .lc e (.v s) i .no) (fd fo : α → D) (h1 : evI io cf i g = .ok (xs.map fd, g1)) (hl : xs.length ≤ 1000) (hs : s < g1.length)
    (ni : ∀ d, g1[s]? ≠ some (some (.io d))) (he : ∀ x ∈ xs, ∃ v, ev io cf e (g1.set s (some (.frz (fd x)))) = .ok (v, g1.set s (some (.frz (fd x)))) ∧ v.fz = .ok (fo x)) :
    ev io cf C g = .ok (.o (.list (xs.map fo)), g1) := by
  subst hC
  exact ev_lcv fd fo h1 hl hs ni he
theorem whl_inv {io : Io} {cf : Caller} {W s : S} {c : E} (hW : W = .whl c s) (I : Nat → G → Prop)
    (hs : ∀ m g, I m g → (∃ g1, tst io cf c g = .ok (false, g1) ∧ I 0 g1 ∧ m = 0) ∨ ∃ m' g1 g2, m = m' + 1 ∧ tst io cf c g = .ok (true, g1) ∧ exec io cf s g1 = .ok (.nx g2) ∧ I m' g2) (m : Nat) (g : G) (hm : m < 1000) (h : I m g) :
    ∃ g', exec io cf W g = .ok (.nx g') ∧ I 0 g' := by
  subst hW
  exact whileF_inv (c := fun g => tst io cf c g) (b := fun g => exec io cf s g) I hs m FUEL g (by have : FUEL = 100000 := rfl; omega) h
theorem for_inv {io : Io} {cf : Caller} {W s : S} {p : Pat} {i : I} {g g1 : G} {ds : List D} (hW : W = .for_ p i s) (hi : evI io cf i g = .ok (ds, g1)) (I : List D → G → Prop)
    (hs : ∀ d r g, I (d :: r) g → ∃ g1 g2, stP p d g = .ok g1 ∧ exec io cf s g1 = .ok (.nx g2) ∧ I r g2) (h : I ds g1) : ∃ g', exec io cf W g = .ok (.nx g') ∧ I [] g' := by
  subst hW
  obtain ⟨g', h1, h2⟩ := forF_inv (p := p) (b := fun g => exec io cf s g) I hs ds g1 h
  refine ⟨g', ?_, h2⟩
  show R.quiet (evI io cf i g) _ = _
  rw [hi]
  exact h1
theorem for_ret {io : Io} {cf : Caller} {W s : S} {p : Pat} {i : I} {g g1 : G} {ds : List D} (hW : W = .for_ p i s) (hi : evI io cf i g = .ok (ds, g1)) (I : List D → G → Prop) (J : Vl → G → Prop)
    (hs : ∀ d r g, I (d :: r) g → ∃ g1, stP p d g = .ok g1 ∧ ((∃ g2, exec io cf s g1 = .ok (.nx g2) ∧ I r g2) ∨ ∃ v g2, exec io cf s g1 = .ok (.rt v g2) ∧ J v g2)) (h : I ds g1) :
    (∃ g', exec io cf W g = .ok (.nx g') ∧ I [] g') ∨ ∃ v g', exec io cf W g = .ok (.rt v g') ∧ J v g' := by
  subst hW
  have e : exec io cf (.for_ p i s) g = forF p (fun g => exec io cf s g) ds g1 := by
    show R.quiet (evI io cf i g) _ = _
    rw [hi]
  rw [e]
  exact forF_ret (p := p) (b := fun g => exec io cf s g) I J hs ds g1 h
/-- a slot of no caller's -/
def nio (j : Option B) : Prop := ∀ d, j ≠ some (.io d)
theorem nio_none : nio none := fun _ h => nomatch h
theorem nio_f (d : D) : nio (some (.frz d)) := fun _ h => nomatch h
theorem nio_o (d : D) : nio (some (.own d)) := fun _ h => nomatch h
theorem nio_cases {j : Option B} (h : nio j) : j = none ∨ (∃ d, j = some (.frz d)) ∨ ∃ d, j = some (.own d) := by
  cases j with
  | none => exact .inl rfl
  | some b => cases b with
    | frz d => exact .inr (.inl ⟨d, rfl⟩)
    | own d => exact .inr (.inr ⟨d, rfl⟩)
    | io d => exact absurd rfl (h d)
theorem qput_f {g : G} {i : Nat} {j : Option B} (h : g[i]? = some j) (hj : nio j) (d : D) : put g i (.f d) = .ok (g.set i (some (.frz d))) := by
  unfold put
  rw [h]
  cases j with
  | none => rfl
  | some b => cases b with
    | io e => exact absurd rfl (hj e)
    | _ => rfl
theorem qput_o {g : G} {i : Nat} {j : Option B} (h : g[i]? = some j) (hj : nio j) (d : D) : put g i (.o d) = .ok (g.set i (some (.own d))) := by
  unfold put
  rw [h]
  cases j with
  | none => rfl
  | some b => cases b with
    | io e => exact absurd rfl (hj e)
    | _ => rfl

/-! ### data -/
theorem upFrom_eq : ∀ (n : Nat) (a : Nat), upFrom (a : Int) n = (List.range' a n).map fun i : Nat => PyData.int (i : Int)
  | 0, a => rfl
  | n + 1, a => by
    show PyData.int a :: upFrom ((a : Int) + 1) n = _
    rw [show ((a : Int) + 1) = ((a + 1 : Nat) : Int) by push_cast; rfl, upFrom_eq n (a + 1)]
    rfl
theorem rng1 (n : Nat) (h : n ≤ 1000) : rngD [.int (n : Int)] = .ok ((List.range n).map fun i : Nat => PyData.int (i : Int)) := by
  have e : rngD [.int (n : Int)] = if (n : Int) ≤ LIM ∧ -1000000 ≤ (n : Int) then R.ok (upFrom 0 (n : Int).toNat) else .bad := rfl
  rw [e, if_pos ⟨by have : LIM = 1000000 := rfl; omega, by omega⟩]
  have := upFrom_eq n 0
  rw [List.range_eq_range']
  exact congrArg R.ok this
theorem ixL_nat {α : Type} (xs : List α) (i : Nat) : ixL xs (i : Int) = xs[i]? := by
  unfold ixL
  rw [if_pos (by omega)]
  rfl
theorem len_tp (p : List Nat) : fn1 .len (tp p) = .ok (.f (.int (p.length : Nat))) := by
  simp [fn1, tp, bI]
theorem len_ls (p : List Nat) : fn1 .len (ls p) = .ok (.f (.int (p.length : Nat))) := by
  simp [fn1, ls, bI]
theorem isTy_tp (p : List Nat) : isTy .tuple (tp p) = true := rfl
theorem isLst_ls (p : List Nat) : isLst (ls p) = true := rfl
theorem items_tp (p : List Nat) : itemsOf (tp p) = .ok (p.map fun n : Nat => PyData.int (n : Int)) := rfl
theorem items_ls (p : List Nat) : itemsOf (ls p) = .ok (p.map fun n : Nat => PyData.int (n : Int)) := rfl
theorem app_ls (p : List Nat) (x : Nat) (h : p.length ≤ 1000) : appD (.int (x : Int)) (ls p) = .ok (ls (p ++ [x])) := by
  have : p.length < LIM := by
    have : LIM = 1000000 := rfl
    omega
  simp [appD, ls, this]
theorem frz_tp (p : List Nat) : frzOk (tp p) = true := rfl
theorem frz_ls (p : List Nat) : frzOk (ls p) = true := rfl
theorem tuple_ls (p : List Nat) : fn1 .tuple (ls p) = .ok (.f (tp p)) := rfl
theorem list_ls (p : List Nat) : fn1 .list (ls p) = .ok (.o (ls p)) := rfl
theorem list_tp (p : List Nat) : fn1 .list (tp p) = .ok (.o (ls p)) := rfl
theorem boolsOf_true {α : Type} (p : List α) : boolsOf (p.map fun _ => PyData.bool true) = some (p.map fun _ => true) := by
  induction p with
  | nil => rfl
  | cons a r ih => simp [boolsOf, ih]
theorem all_true {α : Type} (p : List α) : fn1 .all (.list (p.map fun _ => PyData.bool true)) = .ok (.f (.bool true)) := by
  simp [fn1, boolsOf_true, R.ofO, bB]
theorem ix_tp (p : List Nat) (i : Nat) (h : i < p.length) : ixD (tp p) (.int (i : Int)) = .ok (.int ((p.getD i 0 : Nat) : Int)) := by
  show R.ofO (ixL _ _) = _
  rw [ixL_nat, List.getElem?_map, List.getElem?_eq_getElem h]
  simp [R.ofO, List.getD, h]
theorem ix_ls (p : List Nat) (i : Nat) (h : i < p.length) : ixD (ls p) (.int (i : Int)) = .ok (.int ((p.getD i 0 : Nat) : Int)) := by
  show R.ofO (ixL _ _) = _
  rw [ixL_nat, List.getElem?_map, List.getElem?_eq_getElem h]
  simp [R.ofO, List.getD, h]
theorem plains_int (p : List Nat) : plains (p.map fun n : Nat => PyData.int (n : Int)) = true := by
  induction p with
  | nil => rfl
  | cons a r ih => simpa [plains, plain] using ih
theorem deps_int (p : List Nat) : deps (p.map fun n : Nat => PyData.int (n : Int)) = 0 := by
  induction p with
  | nil => rfl
  | cons a r ih => simp [deps, dep, ih]
theorem eqOk_int (i : Int) : eqOk (.int i) = true := rfl
theorem eqOk_bool (i : Bool) : eqOk (.bool i) = true := rfl
theorem eqOk_tp (p : List Nat) : eqOk (tp p) = true := by
  simp [eqOk, tp, plain, dep, plains_int, deps_int]
theorem eqOk_ls (p : List Nat) : eqOk (ls p) = true := by
  simp [eqOk, ls, plain, dep, plains_int, deps_int]
theorem eqDs_int (p q : List Nat) : eqDs (p.map fun n : Nat => PyData.int (n : Int)) (q.map fun n : Nat => PyData.int (n : Int)) = decide (p = q) := by
  induction p generalizing q with
  | nil => cases q <;> simp [eqDs]
  | cons a r ih =>
    cases q with
    | nil => simp [eqDs]
    | cons b s =>
      simp only [List.map_cons, eqDs, ih, eqD]
      by_cases h1 : a = b <;> by_cases h2 : r = s <;> simp [h1, h2] <;> omega
theorem eqD_tp (p q : List Nat) : eqD (tp p) (tp q) = decide (p = q) := by
  simp only [tp, eqD, eqDs_int]
theorem eqD_ls (p q : List Nat) : eqD (ls p) (ls q) = decide (p = q) := by
  simp only [ls, eqD, eqDs_int]
theorem eqD_int (a b : Nat) : eqD (.int (a : Int)) (.int (b : Int)) = decide (a = b) := by
  simp only [eqD]
  by_cases h : a = b <;> simp [h] <;> omega
theorem qmemD_int (x : Nat) (p : List Nat) : memD (.int (x : Int)) (p.map fun n : Nat => PyData.int (n : Int)) = decide (x ∈ p) := by
  induction p with
  | nil => rfl
  | cons a r ih =>
    simp only [List.map_cons, memD, ih, eqD_int]
    by_cases h1 : a = x <;> by_cases h2 : x ∈ r <;> simp [h1, h2] <;> omega
theorem dedup_nd (p : List Nat) : ∀ acc : List Nat, (acc ++ p).Nodup → dedupD (p.map fun n : Nat => PyData.int (n : Int)) (acc.map fun n : Nat => PyData.int (n : Int)) = (acc ++ p).map fun n : Nat => PyData.int (n : Int) := by
  induction p with
  | nil => intro acc _; simp [dedupD]
  | cons a r ih =>
    intro acc h
    rw [List.map_cons]
    unfold dedupD
    rw [qmemD_int]
    have : a ∉ acc := fun m => by
      have := List.nodup_append.mp h
      exact this.2.2 a m a (by simp) rfl
    simp only [this, decide_false, Bool.false_eq_true, if_false]
    have e := ih (acc ++ [a]) (by simpa using h)
    simpa using e
theorem dedup_eq (p : List Nat) : ∀ acc : List Nat, acc.Nodup → ∃ q : List Nat, dedupD (p.map fun n : Nat => PyData.int (n : Int)) (acc.map fun n : Nat => PyData.int (n : Int)) = q.map (fun n : Nat => PyData.int (n : Int)) ∧ q.Nodup ∧ ∀ x, x ∈ q ↔ x ∈ acc ∨ x ∈ p := by
  induction p with
  | nil => intro acc h; exact ⟨acc, rfl, h, by simp⟩
  | cons a r ih =>
    intro acc h
    rw [List.map_cons]
    unfold dedupD
    rw [qmemD_int]
    by_cases m : a ∈ acc
    · simp only [m, decide_true, if_true]
      obtain ⟨q, h1, h2, h3⟩ := ih acc h
      refine ⟨q, h1, h2, fun x => ?_⟩
      rw [h3]
      constructor
      · rintro (z | z)
        · exact .inl z
        · exact .inr (by simp [z])
      · rintro (z | z)
        · exact .inl z
        · rcases List.mem_cons.mp z with rfl | z
          · exact .inl m
          · exact .inr z
    · simp only [m, decide_false, Bool.false_eq_true, if_false]
      obtain ⟨q, h1, h2, h3⟩ := ih (acc ++ [a]) (by
        rw [List.nodup_append]
        refine ⟨h, by simp, ?_⟩
        intro x hx y hy e
        simp at hy
        subst hy e
        exact m hx)
      refine ⟨q, by simpa using h1, h2, fun x => ?_⟩
      rw [h3]
      simp [or_assoc]
theorem intsOf_int (p : List Nat) : intsOf (p.map fun n : Nat => PyData.int (n : Int)) = some (p.map fun n : Nat => (n : Int)) := by
  induction p with
  | nil => rfl
  | cons a r ih => simp [intsOf, ih]
theorem lenset_tp (p : List Nat) (h : p.Nodup) (hl : p.length ≤ 4000) : fn1 .lenset (tp p) = .ok (.f (.int (p.length : Nat))) := by
  have e := dedup_nd p [] (by simpa using h)
  simp only [List.map_nil, List.nil_append] at e
  simp only [fn1, tp, intsOf_int, R.ofO, R.bind, List.length_map, hl, if_true, bI, e]
theorem setI_ls (p : List Nat) (i x : Nat) (h : i < p.length) : setIx (.int (i : Int)) (.int (x : Int)) (ls p) = .ok (ls (p.set i x)) := by
  simp [setIx, ls]
  omega
/-! ### steps on data, one by one -/
theorem x_items1 (a : List D) : itemsOf (.list a) = .ok a := rfl
theorem x_items2 (a : List D) : itemsOf (.tuple a) = .ok a := rfl
theorem x_ty1 (i : Int) : isTy .int (.int i) = true := rfl
theorem x_ty2 (i : Int) : isTy .bool (.int i) = false := rfl
theorem x_ty3 (a : List D) : isTy .tuple (.tuple a) = true := rfl
theorem x_len1 (a : List D) : fn1 .len (.list a) = .ok (.f (.int (a.length : Nat))) := rfl
theorem x_len2 (a : List D) : fn1 .len (.tuple a) = .ok (.f (.int (a.length : Nat))) := rfl
theorem x_len3 (a : List D) : fn1 .len (scr a) = .ok (.f (.int (a.length : Nat))) := rfl
theorem x_tup1 (a : List D) : fn1 .tuple (.list a) = .ok (.f (.tuple a)) := rfl
theorem x_tup2 (a : List D) : fn1 .tuple (.tuple a) = .ok (.f (.tuple a)) := rfl
theorem x_lst1 (a : List D) : fn1 .list (.list a) = .ok (.o (.list a)) := rfl
theorem x_lst2 (a : List D) : fn1 .list (scr a) = .ok (.o (.list a)) := rfl
theorem x_neg (i : Int) : fn1 .neg (.int i) = .ok (.f (.int (-i))) := rfl
theorem x_add (a b : Int) : op2 .add (.int a) (.int b) = .ok (.f (.int (a + b))) := rfl
theorem x_sub (a b : Int) : op2 .sub (.int a) (.int b) = .ok (.f (.int (a - b))) := rfl
theorem x_mod (a b : Int) (h : 0 < b) : op2 .mod (.int a) (.int b) = .ok (.f (.int (a % b))) := by
  show (if 0 < b then _ else _) = _
  rw [if_pos h]; rfl
theorem x_fdiv (a b : Int) (h : 0 < b) (h2 : b < 1152921504606846976) : op2 .fdiv (.int a) (.int b) = .ok (.f (.int (a / b))) := by
  show (if 0 < b ∧ b < 1152921504606846976 then _ else _) = _
  rw [if_pos ⟨h, h2⟩]; rfl
theorem x_mul (a b : Int) (h : mulOk a b = true) : op2 .mul (.int a) (.int b) = .ok (.f (.int (a * b))) := by
  show (if mulOk a b = true then _ else _) = _
  rw [if_pos h]; rfl
theorem x_pow (a : Int) (b : Int) (h : 0 ≤ b ∧ b ≤ 100 ∧ -18446744073709551616 < a ∧ a < 18446744073709551616) : op2 .pow (.int a) (.int b) = .ok (.f (.int (a ^ b.toNat))) := by
  show (if 0 ≤ b ∧ b ≤ 100 ∧ -18446744073709551616 < a ∧ a < 18446744073709551616 then _ else _) = _
  rw [if_pos h]; rfl
theorem x_lt (a b : Int) : cmpD .lt (.int a) (.int b) = .ok (decide (a < b)) := rfl
theorem x_le (a b : Int) : cmpD .le (.int a) (.int b) = .ok (decide (a ≤ b)) := rfl
theorem x_gt (a b : Int) : cmpD .gt (.int a) (.int b) = .ok (decide (b < a)) := rfl
theorem x_ge (a b : Int) : cmpD .ge (.int a) (.int b) = .ok (decide (b ≤ a)) := rfl
theorem x_eqI (a b : Int) : cmpD .eq (.int a) (.int b) = .ok (decide (a = b)) := rfl
theorem x_neI (a b : Int) : cmpD .ne (.int a) (.int b) = .ok (!decide (a = b)) := rfl
theorem x_eqB (a b : Bool) : cmpD .eq (.bool a) (.bool b) = .ok (a == b) := rfl
theorem x_neB (a b : Bool) : cmpD .ne (.bool a) (.bool b) = .ok (!(a == b)) := rfl
theorem x_eqT (p q : List Nat) : cmpD .eq (tp p) (tp q) = .ok (decide (p = q)) := by
  have e : cmpD .eq (tp p) (tp q) = if eqOk (tp p) = true ∧ eqOk (tp q) = true then .ok (eqD (tp p) (tp q)) else .bad := rfl
  rw [e, eqOk_tp, eqOk_tp, eqD_tp]; simp
theorem x_neT (p q : List Nat) : cmpD .ne (tp p) (tp q) = .ok (!decide (p = q)) := by
  have e : cmpD .ne (tp p) (tp q) = if eqOk (tp p) = true ∧ eqOk (tp q) = true then .ok (!eqD (tp p) (tp q)) else .bad := rfl
  rw [e, eqOk_tp, eqOk_tp, eqD_tp]; simp
theorem x_neL (p q : List Nat) : cmpD .ne (ls p) (ls q) = .ok (!decide (p = q)) := by
  have e : cmpD .ne (ls p) (ls q) = if eqOk (ls p) = true ∧ eqOk (ls q) = true then .ok (!eqD (ls p) (ls q)) else .bad := rfl
  rw [e, eqOk_ls, eqOk_ls, eqD_ls]; simp
theorem x_neL0 (p : List Nat) : cmpD .ne (ls p) (.list []) = .ok (!decide (p = [])) := x_neL p []
theorem x_notin (a b : D) : cmpD .notin a b = bd (isMem a b) fun t => .ok (!t) := rfl
theorem x_memL (x : Nat) (f : List Nat) : isMem (.int (x : Int)) (ls f) = .ok (decide (x ∈ f)) := by
  have e : isMem (.int (x : Int)) (ls f) = if eqOk (.int (x : Int)) = true ∧ eqOk (ls f) = true then .ok (memD (.int (x : Int)) (f.map fun n : Nat => PyData.int (n : Int))) else .bad := rfl
  rw [e, eqOk_int, eqOk_ls, qmemD_int]
  simp
theorem x_frz1 (a : List D) : frzOk (.list a) = true := rfl
theorem x_frz2 (a : List D) : frzOk (.tuple a) = true := rfl
theorem x_isL (a : List D) : isLst (.list a) = true := rfl
theorem x_seq1 (p : List Nat) : seqOf (tp p) = .ok (p.map fun n : Nat => PyData.int (n : Int)) := rfl
theorem x_all {α : Type} (p : List α) : fn1 .all (.list (p.map fun _ => PyData.bool true)) = .ok (.f (.bool true)) := all_true p
theorem x_slot (i j : Nat) : notSlot i (.r j) = decide (i ≠ j) := rfl
theorem x_slotf (i : Nat) (d : D) : notSlot i (.f d) = true := rfl
theorem x_sloto (i : Nat) (d : D) : notSlot i (.o d) = true := rfl
theorem x_app (v : D) (a : List D) (h : a.length ≤ 1000) : appD v (.list a) = .ok (.list (a ++ [v])) := by
  have : a.length < LIM := by
    have : LIM = 1000000 := rfl
    omega
  simp [appD, this]
theorem repL_rep {α : Type} (x : α) : ∀ n, repL [x] n = List.replicate n x
  | 0 => rfl
  | n + 1 => by
    show [x] ++ repL [x] n = _
    rw [repL_rep x n, List.replicate_succ]
    rfl
theorem x_rep0 (n : Nat) (h : n ≤ 1000) : op2 .mul (.list [.int 0]) (.int (n : Int)) = .ok (.o (ls (List.replicate n 0))) := by
  show (if 0 ≤ (n : Int) ∧ (n : Int) ≤ 1000 ∧ 1 ≤ 1000 then _ else _) = _
  rw [if_pos ⟨by omega, by omega, by omega⟩]
  show R.ok (Vl.o (.list (repL [_] (n : Int).toNat))) = _
  rw [repL_rep]
  simp [ls]
theorem x_rep1 (n : Nat) (h0 : 1 ≤ n) (h : n ≤ 1000) : op2 .mul (.tuple [.int 1]) (.int (n : Int)) = .ok (.f (tp (List.replicate n 1))) := by
  show (if 1 ≤ (n : Int) ∧ (n : Int) ≤ 1000 ∧ 1 ≤ 1000 ∧ 1 ≠ 0 then _ else _) = _
  rw [if_pos ⟨by omega, by omega, by omega, by omega⟩]
  show R.ok (Vl.f (.tuple (repL [_] (n : Int).toNat))) = _
  rw [repL_rep]
  simp [tp]
theorem idxD_eq (k : Nat) : ∀ (p : List Nat) (m : Nat), k ∈ p → idxD (.int (k : Int)) (p.map fun n : Nat => PyData.int (n : Int)) m = some (m + p.idxOf k)
  | [], m, h => by simp at h
  | a :: r, m, h => by
    rw [List.map_cons]
    unfold idxD
    rw [eqD_int, List.idxOf_cons]
    by_cases e : a = k
    · simp [e]
    · have : k ∈ r := by
        rcases List.mem_cons.mp h with q | q
        · exact absurd q.symm e
        · exact q
      have z : (a == k) = false := by simpa using e
      simp only [e, decide_false, Bool.false_eq_true, if_false, z, cond_false]
      rw [idxD_eq k r (m + 1) this]
      congr 1
      omega
theorem x_kind (p : List Nat) : meKind .index (tp p) = true := rfl
theorem x_index (p : List Nat) (k : Nat) (h : k ∈ p) : meth .index (tp p) (.int (k : Int)) = .ok (.f (.int (p.idxOf k : Nat))) := by
  have e : meth .index (tp p) (.int (k : Int)) = if eqOk (.int (k : Int)) = true ∧ eqOk (tp p) = true then R.bind (.ofO (idxD (.int (k : Int)) (p.map fun n : Nat => PyData.int (n : Int)) 0)) fun n => bI n else .bad := rfl
  rw [e, eqOk_int, eqOk_tp, idxD_eq k p 0 h]
  simp [R.ofO, R.bind, bI]
/-! ### a dict of numbers -/
def mp (l : List Nat) : D := .dict (l.map fun x : Nat => (PyData.int (x : Int), PyData.bool true))
def add1 (x : Nat) (f : List Nat) : List Nat := if x ∈ f then f else f ++ [x]
theorem dLook_mp (x : Nat) (l : List Nat) : (dLook (.int (x : Int)) (l.map fun x : Nat => (PyData.int (x : Int), PyData.bool true))).isSome = decide (x ∈ l) := by
  induction l with
  | nil => rfl
  | cons a r ih =>
    rw [List.map_cons]
    unfold dLook
    rw [eqD_int]
    by_cases e : a = x
    · simp [e]
    · have : ¬ x = a := fun z => e z.symm
      simp only [e, decide_false, Bool.false_eq_true, if_false, ih, List.mem_cons, this, false_or]
theorem kOks_mp (l : List Nat) : kOks (l.map fun x : Nat => (PyData.int (x : Int), PyData.bool true)) = true := by
  unfold kOks
  rw [List.all_map]
  exact List.all_eq_true.mpr fun _ _ => rfl
theorem x_memD (x : Nat) (l : List Nat) : isMem (.int (x : Int)) (mp l) = .ok (decide (x ∈ l)) := by
  have e : isMem (.int (x : Int)) (mp l) = if kOk (.int (x : Int)) (l.map fun x : Nat => (PyData.int (x : Int), PyData.bool true)) = true then .ok (dHas (.int (x : Int)) (l.map fun x : Nat => (PyData.int (x : Int), PyData.bool true))) else .bad := rfl
  have k : kOk (.int (x : Int)) (l.map fun x : Nat => (PyData.int (x : Int), PyData.bool true)) = true := by
    unfold kOk
    have := kOks_mp l
    unfold kOks at this
    rw [this]; rfl
  rw [e, k]
  simp only [if_true]
  unfold dHas
  rw [dLook_mp]
theorem dPut_mp (y : Nat) (l : List Nat) : dPut (.int (y : Int)) (.bool true) (l.map fun x : Nat => (PyData.int (x : Int), PyData.bool true)) = (add1 y l).map fun x : Nat => (PyData.int (x : Int), PyData.bool true) := by
  induction l with
  | nil => rfl
  | cons a r ih =>
    rw [List.map_cons]
    unfold dPut
    rw [eqD_int]
    unfold add1 at ih ⊢
    by_cases e : a = y
    · simp [e]
    · have : ¬ y = a := fun z => e z.symm
      simp only [e, decide_false, Bool.false_eq_true, if_false, ih, List.mem_cons, this, false_or]
      by_cases m : y ∈ r <;> simp [m]
def adds (l a : List Nat) : List Nat := l.foldl (fun a y => add1 y a) a
theorem dMerge_mp (l : List Nat) : ∀ a : List Nat, dMerge (a.map fun x : Nat => (PyData.int (x : Int), PyData.bool true)) (l.map fun x : Nat => (PyData.int (x : Int), PyData.bool true)) = (adds l a).map fun x : Nat => (PyData.int (x : Int), PyData.bool true) := by
  induction l with
  | nil => intro a; rfl
  | cons y r ih =>
    intro a
    rw [List.map_cons]
    unfold dMerge
    rw [dPut_mp, ih]
    rfl
theorem pairs_mp (l : List Nat) : pairsOf (l.map fun x : Nat => PyData.tuple [.int (x : Int), .bool true]) = some (l.map fun x : Nat => (PyData.int (x : Int), PyData.bool true)) := by
  induction l with
  | nil => rfl
  | cons y r ih => simp [pairsOf, ih]
theorem x_dict (l : List Nat) (h : l.length ≤ 1000) : fn1 .dict (.list (l.map fun x : Nat => PyData.tuple [.int (x : Int), .bool true])) = .ok (.o (mp (adds l []))) := by
  have hl : (l.map fun x : Nat => (PyData.int (x : Int), PyData.bool true)).length ≤ LIM := by
    rw [List.length_map]
    have : LIM = 1000000 := rfl
    omega
  have e : fn1 .dict (.list (l.map fun x : Nat => PyData.tuple [.int (x : Int), .bool true])) = R.bind (.ofO (pairsOf (l.map fun x : Nat => PyData.tuple [.int (x : Int), .bool true]))) fun l => if kOks l = true ∧ l.length ≤ LIM then .ok (.o (.dict (dMerge [] l))) else .bad := rfl
  rw [e, pairs_mp]
  show (if _ then _ else _) = _
  rw [if_pos ⟨kOks_mp l, hl⟩]
  have := dMerge_mp l []
  simp only [List.map_nil] at this
  rw [this]
  rfl
theorem x_upd (l a : List Nat) (h : l.length + a.length ≤ 1000) : updD (mp l) (mp a) = .ok (mp (adds l a)) := by
  have e : updD (mp l) (mp a) = if (kOks ((a.map fun x : Nat => (PyData.int (x : Int), PyData.bool true)) ++ (l.map fun x : Nat => (PyData.int (x : Int), PyData.bool true)))) = true ∧ (a.map fun x : Nat => (PyData.int (x : Int), PyData.bool true)).length + (l.map fun x : Nat => (PyData.int (x : Int), PyData.bool true)).length ≤ LIM then .ok (.dict (dMerge (a.map fun x : Nat => (PyData.int (x : Int), PyData.bool true)) (l.map fun x : Nat => (PyData.int (x : Int), PyData.bool true)))) else .bad := rfl
  rw [e, if_pos ⟨by rw [← List.map_append]; exact kOks_mp _, by rw [List.length_map, List.length_map]; have : LIM = 1000000 := rfl; omega⟩, dMerge_mp]
  rfl
theorem x_isD (l : List Nat) : isDct (mp l) = true := kOks_mp l
/-! ### sorting numbers -/
def insN' (x : Nat) : List Nat → List Nat
  | [] => [x]
  | y :: ys => if y < x then y :: insN' x ys else x :: y :: ys
def srtN' : List Nat → List Nat
  | [] => []
  | x :: xs => insN' x (srtN' xs)
theorem insD_int (x : Nat) (l : List Nat) : insD (.int (x : Int)) (l.map fun n : Nat => PyData.int (n : Int)) = (insN' x l).map fun n : Nat => PyData.int (n : Int) := by
  induction l with
  | nil => rfl
  | cons y r ih =>
    rw [List.map_cons]
    unfold insD insN'
    have e : ltD (.int (y : Int)) (.int (x : Int)) = decide ((y : Int) < (x : Int)) := rfl
    rw [e]
    by_cases h : y < x
    · have : decide ((y : Int) < (x : Int)) = true := decide_eq_true (by omega)
      rw [this, ih]
      simp [h]
    · have : decide ((y : Int) < (x : Int)) = false := decide_eq_false (by omega)
      rw [this]
      simp [h]
theorem sortD_int (l : List Nat) : sortD (l.map fun n : Nat => PyData.int (n : Int)) = (srtN' l).map fun n : Nat => PyData.int (n : Int) := by
  induction l with
  | nil => rfl
  | cons y r ih =>
    rw [List.map_cons]
    unfold sortD srtN'
    rw [ih, insD_int]
theorem ord_int (l : List Nat) : ordOk (l.map fun n : Nat => PyData.int (n : Int)) = true := by
  unfold ordOk alkAll
  have h1 : ((l.map fun n : Nat => PyData.int (n : Int)).all fun x => (l.map fun n : Nat => PyData.int (n : Int)).all fun y => alk x y) = true := by
    rw [List.all_map]
    refine List.all_eq_true.mpr fun x _ => ?_
    show ((l.map fun n : Nat => PyData.int (n : Int)).all fun y => alk (.int (x : Int)) y) = true
    rw [List.all_map]
    exact List.all_eq_true.mpr fun y _ => rfl
  rw [h1, plains_int, deps_int]
  rfl
theorem x_sort (l : List Nat) (h : l.length ≤ 1000) : fn1 .sorted (ls l) = .ok (.o (ls (srtN' l))) := by
  have e : fn1 .sorted (ls l) = if srtOk (l.map fun n : Nat => PyData.int (n : Int)) = true ∧ (l.map fun n : Nat => PyData.int (n : Int)).length ≤ LIM then .ok (.o (.list (sortD (l.map fun n : Nat => PyData.int (n : Int))))) else .bad := rfl
  have k : srtOk (l.map fun n : Nat => PyData.int (n : Int)) = true := by
    unfold srtOk
    rw [ord_int]
    have : (l.map fun n : Nat => PyData.int (n : Int)).all noTup = true := by
      rw [List.all_map]
      exact List.all_eq_true.mpr fun y _ => rfl
    rw [this]
    simp
  rw [e, if_pos ⟨k, by rw [List.length_map]; have : LIM = 1000000 := rfl; omega⟩, sortD_int]
  rfl
theorem min_int : ∀ (l : List Nat) (x : Nat), minDs (.int (x : Int)) (l.map fun n : Nat => PyData.int (n : Int)) = .int ((l.foldl (fun a y => if y < a then y else a) x : Nat) : Int)
  | [], x => rfl
  | y :: r, x => by
    rw [List.map_cons, List.foldl_cons, ← min_int r]
    show minDs (if decide ((y : Int) < (x : Int)) = true then .int (y : Int) else .int (x : Int)) _ = _
    by_cases h : y < x
    · have : decide ((y : Int) < (x : Int)) = true := decide_eq_true (by omega)
      rw [this, if_pos rfl, if_pos h]
    · have : decide ((y : Int) < (x : Int)) = false := decide_eq_false (by omega)
      rw [this, if_neg h]
      rfl
theorem x_min (x : Nat) (l : List Nat) : fn1 .min (ls (x :: l)) = .ok (.f (.int ((l.foldl (fun a y => if y < a then y else a) x : Nat) : Int))) := by
  have e : fn1 .min (ls (x :: l)) = if ordOk ((x :: l).map fun n : Nat => PyData.int (n : Int)) = true then .ok (.f (minDs (.int (x : Int)) (l.map fun n : Nat => PyData.int (n : Int)))) else .bad := rfl
  rw [e, ord_int, if_pos rfl, min_int]
theorem sum_int (l : List Nat) : (l.map fun n : Nat => (n : Int)).sum = ((l.sum : Nat) : Int) := by
  induction l with
  | nil => rfl
  | cons a r ih => simp [ih]
theorem x_sum (l : List Nat) : fn1 .sum (ls l) = .ok (.f (.int ((l.sum : Nat) : Int))) := by
  have e : fn1 .sum (ls l) = R.bind (.ofO (intsOf (l.map fun n : Nat => PyData.int (n : Int)))) fun l => bI l.sum := rfl
  rw [e, intsOf_int]
  show bI _ = _
  rw [sum_int]
  rfl
end Dat

/-! Plain: exchanges of up to seven squares. -/
namespace Plain
abbrev at' (p : List Nat) (i : Nat) : Nat := p.getD i 0
structure IsP (n : Nat) (p : List Nat) : Prop where
  len : p.length = n
  lt : ∀ x ∈ p, x < n
  nd : p.Nodup
theorem sub_len : ∀ (l m : List Nat), l.Nodup → (∀ x ∈ l, x ∈ m) → l.length ≤ m.length
  | [], m, _, _ => by simp
  | x :: l, m, nd, hs => by
    have hx : x ∈ m := hs x (by simp)
    have nd' := List.nodup_cons.mp nd
    have h := sub_len l (m.erase x) nd'.2 fun y hy => by
      have : y ≠ x := fun e => nd'.1 (e ▸ hy)
      exact (List.mem_erase_of_ne this).mpr (hs y (by simp [hy]))
    rw [List.length_erase_of_mem hx] at h
    have : 0 < m.length := List.length_pos_of_mem hx
    simp only [List.length_cons]
    omega
theorem nd_le {n : Nat} {l : List Nat} (h : l.Nodup) (hl : ∀ x ∈ l, x < n) : l.length ≤ n := by
  have := sub_len l (List.range n) h fun x hx => List.mem_range.mpr (hl x hx)
  simpa using this
theorem nd_ge {n : Nat} {l : List Nat} (hl : ∀ x, x < n → x ∈ l) : n ≤ l.length := by
  have := sub_len (List.range n) l List.nodup_range fun x hx => hl x (List.mem_range.mp hx)
  simpa using this
theorem nd_all {n : Nat} {l : List Nat} (h : l.Nodup) (hl : ∀ x ∈ l, x < n) (e : l.length = n) : ∀ x, x < n → x ∈ l := fun x hx => by
  apply Classical.byContradiction
  intro hn
  have := nd_le (n := n) (l := x :: l) (List.nodup_cons.mpr ⟨hn, h⟩) fun y hy => by
    rcases List.mem_cons.mp hy with rfl | hy
    · exact hx
    · exact hl y hy
  simp only [List.length_cons] at this
  omega
theorem IsP.all {n : Nat} {p : List Nat} (h : IsP n p) : ∀ x, x < n → x ∈ p := nd_all h.nd h.lt h.len
theorem IsP.atlt {n : Nat} {p : List Nat} (h : IsP n p) {i : Nat} (hi : i < n) : at' p i < n := by
  have hi' : i < p.length := by rw [h.len]; exact hi
  have : at' p i = p[i] := by simp [at', List.getD, hi']
  rw [this]
  exact h.lt _ (List.getElem_mem hi')
theorem IsP.inj {n : Nat} {p : List Nat} (h : IsP n p) {i j : Nat} (hi : i < n) (hj : j < n) (e : at' p i = at' p j) : i = j := by
  have hi' : i < p.length := by rw [h.len]; exact hi
  have hj' : j < p.length := by rw [h.len]; exact hj
  have e1 : at' p i = p[i] := by simp [at', List.getD, hi']
  have e2 : at' p j = p[j] := by simp [at', List.getD, hj']
  rw [e1, e2] at e
  exact (List.getElem_inj h.nd).mp e
theorem IsP.sur {n : Nat} {p : List Nat} (h : IsP n p) {x : Nat} (hx : x < n) : ∃ i, i < n ∧ at' p i = x := by
  obtain ⟨i, hi, e⟩ := List.mem_iff_getElem.mp (h.all x hx)
  refine ⟨i, by rw [← h.len]; exact hi, ?_⟩
  simp [at', List.getD, hi, e]
/-- told by its places -/
def ofF (n : Nat) (f : Nat → Nat) : List Nat := (List.range n).map f
theorem at_ofF {n : Nat} {f : Nat → Nat} {i : Nat} (h : i < n) : at' (ofF n f) i = f i := by
  simp [at', List.getD, ofF, h]
theorem ofF_len (n : Nat) (f : Nat → Nat) : (ofF n f).length = n := by simp [ofF]
theorem isP_ofF {n : Nat} {f : Nat → Nat} (h : ∀ i, i < n → f i < n) (hi : ∀ i j, i < n → j < n → f i = f j → i = j) : IsP n (ofF n f) where
  len := ofF_len n f
  lt := fun x hx => by
    obtain ⟨i, hi, rfl⟩ := List.mem_map.mp hx
    exact h i (List.mem_range.mp hi)
  nd := by
    unfold ofF
    refine List.Pairwise.map f (R := fun a b => a < n ∧ b < n ∧ a ≠ b) (fun a b ⟨h1, h2, h3⟩ e => h3 (hi a b h1 h2 e)) ?_
    rw [List.pairwise_iff_getElem]
    intro i j hi hj hij
    simp at hi hj ⊢
    omega
theorem ext_at {n : Nat} {p q : List Nat} (hp : p.length = n) (hq : q.length = n) (h : ∀ i, i < n → at' p i = at' q i) : p = q := by
  apply List.ext_getElem (by omega)
  intro i h1 h2
  have := h i (by omega)
  simpa [at', List.getD, h1, h2] using this
/-- the way back -/
def inv (p : List Nat) : List Nat := (List.range p.length).map fun k => p.idxOf k
theorem inv_len (p : List Nat) : (inv p).length = p.length := by simp [inv]
theorem at_inv {n : Nat} {p : List Nat} (h : IsP n p) {i : Nat} (hi : i < n) : at' (inv p) i = p.idxOf i := by
  have := at_ofF (n := p.length) (f := fun k => p.idxOf k) (i := i) (by rw [h.len]; exact hi)
  exact this
theorem inv_r {n : Nat} {p : List Nat} (h : IsP n p) {i : Nat} (hi : i < n) : at' p (at' (inv p) i) = i := by
  rw [at_inv h hi]
  have m := h.all i hi
  have l := List.idxOf_lt_length_of_mem m
  have : at' p (p.idxOf i) = p[p.idxOf i] := by simp [at', List.getD, l]
  rw [this]
  simp
theorem inv_lt {n : Nat} {p : List Nat} (h : IsP n p) {i : Nat} (hi : i < n) : at' (inv p) i < n := by
  rw [at_inv h hi]
  have m := h.all i hi
  have l := List.idxOf_lt_length_of_mem m
  rw [h.len] at l
  exact l
theorem inv_l {n : Nat} {p : List Nat} (h : IsP n p) {i : Nat} (hi : i < n) : at' (inv p) (at' p i) = i :=
  h.inj (inv_lt h (h.atlt hi)) hi (inv_r h (h.atlt hi))
theorem inv_isP {n : Nat} {p : List Nat} (h : IsP n p) : IsP n (inv p) := by
  have e : inv p = ofF n fun k => p.idxOf k := by simp [inv, ofF, h.len]
  rw [e]
  refine isP_ofF (fun i hi => ?_) fun i j hi hj q => ?_
  · have := inv_lt h hi; rw [at_inv h hi] at this; exact this
  · have a := inv_r h hi; have b := inv_r h hj
    rw [at_inv h hi] at a; rw [at_inv h hj] at b
    rw [← a, ← b, q]
theorem inv_uniq {n : Nat} {p : List Nat} (h : IsP n p) {i x : Nat} (hi : i < n) (hx : x < n) (e : at' p x = i) : x = at' (inv p) i := by
  rw [← e, inv_l h hx]
/-- the commutator, as the program goes round a corner -/
def com (r u : List Nat) : List Nat := ofF r.length fun s => at' (inv u) (at' (inv r) (at' u (at' r s)))
theorem com_isP {n : Nat} {r u : List Nat} (hr : IsP n r) (hu : IsP n u) : IsP n (com r u) := by
  unfold com
  rw [hr.len]
  refine isP_ofF (fun i hi => inv_lt hu (inv_lt hr (hu.atlt (hr.atlt hi)))) fun i j hi hj e => ?_
  have e := (inv_isP hu).inj (inv_lt hr (hu.atlt (hr.atlt hi))) (inv_lt hr (hu.atlt (hr.atlt hj))) e
  have e := (inv_isP hr).inj (hu.atlt (hr.atlt hi)) (hu.atlt (hr.atlt hj)) e
  have e := hu.inj (hr.atlt hi) (hr.atlt hj) e
  exact hr.inj hi hj e
theorem at_com {n : Nat} {r u : List Nat} (hr : IsP n r) {s : Nat} (h : s < n) : at' (com r u) s = at' (inv u) (at' (inv r) (at' u (at' r s))) := by
  unfold com
  rw [hr.len]
  exact at_ofF h

/-! ### sums -/
def sm (g : Nat → Nat) (n : Nat) : Nat := Nat.rec (motive := fun _ => Nat) 0 (fun i a => Nat.add a (g i)) n
theorem sm_zero (g : Nat → Nat) : sm g 0 = 0 := rfl
theorem sm_succ (g : Nat → Nat) (n : Nat) : sm g (n + 1) = sm g n + g n := rfl
theorem sm_list (g : Nat → Nat) : ∀ n, sm g n = ((List.range n).map g).sum
  | 0 => rfl
  | n + 1 => by rw [sm_succ, List.range_succ, List.map_append, List.sum_append_nat, sm_list g n]; simp
theorem sm_congr {g h : Nat → Nat} : ∀ n, (∀ i, i < n → g i = h i) → sm g n = sm h n
  | 0, _ => rfl
  | n + 1, e => by rw [sm_succ, sm_succ, sm_congr n fun i hi => e i (by omega), e n (by omega)]
theorem sm_add (g h : Nat → Nat) : ∀ n, sm (fun i => g i + h i) n = sm g n + sm h n
  | 0 => rfl
  | n + 1 => by rw [sm_succ, sm_succ, sm_succ, sm_add g h n]; omega
theorem sm_mod {g h : Nat → Nat} : ∀ n, (∀ i, i < n → g i % 2 = h i % 2) → sm g n % 2 = sm h n % 2
  | 0, _ => rfl
  | n + 1, e => by
    rw [sm_succ, sm_succ]
    have a := sm_mod n fun i hi => e i (by omega)
    have b := e n (by omega)
    omega
def Pm (n : Nat) (f : Nat → Nat) : Prop := (∀ i, i < n → f i < n) ∧ ∀ i j, i < n → j < n → f i = f j → i = j
theorem IsP.pm {n : Nat} {p : List Nat} (h : IsP n p) : Pm n (at' p) := ⟨fun _ => h.atlt, fun _ _ => h.inj⟩
theorem pm_perm {n : Nat} {f : Nat → Nat} (h : Pm n f) : List.Perm ((List.range n).map f) (List.range n) := by
  have q := isP_ofF h.1 h.2
  refine (List.perm_ext_iff_of_nodup (l₁ := (List.range n).map f) q.nd List.nodup_range).mpr fun a => ?_
  rw [List.mem_range]
  exact ⟨q.lt a, q.all a⟩
theorem sm_re {n : Nat} {f : Nat → Nat} (h : Pm n f) (g : Nat → Nat) : sm (fun i => g (f i)) n = sm g n := by
  rw [sm_list, sm_list]
  have e : (List.range n).map (fun i => g (f i)) = ((List.range n).map f).map g := by simp
  rw [e]
  exact ((pm_perm h).map g).sum_nat
/-! ### pairs -/
def T2 (h : Nat → Nat → Nat) (n : Nat) : Nat := sm (fun j => sm (fun i => h i j) j) n
def D2 (h : Nat → Nat → Nat) (n m : Nat) : Nat := sm (fun j => sm (fun i => h i j) m) n
theorem D2_col (h : Nat → Nat → Nat) (m : Nat) : ∀ n, D2 h n (m + 1) = D2 h n m + sm (fun j => h m j) n
  | 0 => rfl
  | n + 1 => by
    have e := D2_col h m n
    unfold D2 at e ⊢
    rw [sm_succ, sm_succ, sm_succ, sm_succ, e]
    omega
theorem D2_T2 (h : Nat → Nat → Nat) (hs : ∀ i j, h i j = h j i) (h0 : ∀ i, h i i = 0) : ∀ n, D2 h n n = 2 * T2 h n
  | 0 => rfl
  | n + 1 => by
    have e := D2_T2 h hs h0 n
    rw [D2_col]
    have e1 : D2 h (n + 1) n = D2 h n n + sm (fun i => h i n) n := rfl
    have e2 : T2 h (n + 1) = T2 h n + sm (fun i => h i n) n := rfl
    rw [e1, e2, sm_succ, e, h0, sm_congr n fun i _ => hs n i]
    omega
theorem T2_re {n : Nat} {f : Nat → Nat} (hf : Pm n f) (h : Nat → Nat → Nat) (hs : ∀ i j, h i j = h j i) (h0 : ∀ i, h i i = 0) : T2 (fun i j => h (f i) (f j)) n = T2 h n := by
  have a := D2_T2 h hs h0 n
  have b := D2_T2 (fun i j => h (f i) (f j)) (fun i j => hs _ _) (fun i => h0 _) n
  have c : D2 (fun i j => h (f i) (f j)) n n = D2 h n n := by
    unfold D2
    rw [← sm_re hf fun j => sm (fun i => h i j) n]
    exact sm_congr n fun j _ => sm_re hf fun i => h i (f j)
  omega
/-- inversions -/
def iv (f : Nat → Nat) (n : Nat) : Nat := sm (fun j => sm (fun i => bif Nat.ble (f i) (f j) then 0 else 1) j) n
def less (a b : Nat) : Nat := bif Nat.ble a b then 0 else 1
theorem less_le {a b : Nat} (h : a ≤ b) : less a b = 0 := by
  unfold less
  rw [Nat.ble_eq_true_of_le h]; rfl
theorem less_lt {a b : Nat} (h : b < a) : less a b = 1 := by
  unfold less
  have : Nat.ble a b = false := by
    cases e : Nat.ble a b
    · rfl
    · have := Nat.le_of_ble_eq_true e; omega
  rw [this]; rfl
theorem iv_comp {n : Nat} {p q : Nat → Nat} (hp : Pm n p) (hq : Pm n q) : iv (fun i => p (q i)) n % 2 = (iv p n + iv q n) % 2 := by
  let h : Nat → Nat → Nat := fun a b => if a < b then less (p a) (p b) else if b < a then less (p b) (p a) else 0
  have hs : ∀ i j, h i j = h j i := fun i j => by
    simp only [h]
    by_cases h1 : i < j
    · have : ¬ j < i := by omega
      simp [h1, this]
    · by_cases h2 : j < i
      · simp [h1, h2]
      · simp [h1, h2]
  have h0 : ∀ i, h i i = 0 := fun i => by simp [h]
  have e1 : T2 h n = iv p n := by
    unfold T2 iv
    refine sm_congr n fun j _ => sm_congr j fun i hi => ?_
    simp only [h, hi, if_true]
    rfl
  have e2 : iv (fun i => p (q i)) n % 2 = (T2 (fun i j => h (q i) (q j) + less (q i) (q j)) n) % 2 := by
    unfold T2 iv
    refine sm_mod n fun j hj => sm_mod j fun i hi => ?_
    show less (p (q i)) (p (q j)) % 2 = (h (q i) (q j) + less (q i) (q j)) % 2
    have ne : q i ≠ q j := fun e => by have := hq.2 i j (by omega) hj e; omega
    have qi := hq.1 i (by omega)
    have qj := hq.1 j hj
    have np : p (q i) ≠ p (q j) := fun e => ne (hp.2 _ _ qi qj e)
    by_cases c : q i < q j
    · simp only [h, c, if_true]
      rw [less_le (Nat.le_of_lt c)]
      rfl
    · have c' : q j < q i := by omega
      have e : h (q i) (q j) = less (p (q j)) (p (q i)) := by simp only [h, c, c', if_true, if_false]
      rw [e, less_lt c']
      by_cases d : p (q i) < p (q j)
      · rw [less_le (Nat.le_of_lt d), less_lt d]
      · have d' : p (q j) < p (q i) := by omega
        rw [less_lt d', less_le (Nat.le_of_lt d')]
  have e3 : T2 (fun i j => h (q i) (q j) + less (q i) (q j)) n = T2 (fun i j => h (q i) (q j)) n + iv q n := by
    unfold T2 iv
    rw [← sm_add]
    exact sm_congr n fun j _ => sm_add _ _ j
  rw [e2, e3, T2_re hq h hs h0, e1]
theorem iv_id {n : Nat} {f : Nat → Nat} (h : ∀ i, i < n → f i = i) : iv f n = 0 := by
  have e : iv f n = sm (fun _ => 0) n := sm_congr n fun j hj => by
    have : sm (fun i => bif Nat.ble (f i) (f j) then 0 else 1) j = sm (fun _ => 0) j := sm_congr j fun i hi => by
      show less (f i) (f j) = 0
      rw [h i (by omega), h j hj]
      exact less_le (by omega)
    rw [this]
    have z : ∀ m, sm (fun _ => 0) m = 0 := fun m => by
      induction m with
      | zero => rfl
      | succ m ih => rw [sm_succ, ih]
    exact z j
  have z : ∀ m, sm (fun _ => 0) m = 0 := fun m => by
    induction m with
    | zero => rfl
    | succ m ih => rw [sm_succ, ih]
  rw [e, z]
theorem pm_comp {n : Nat} {p q : Nat → Nat} (hp : Pm n p) (hq : Pm n q) : Pm n fun i => p (q i) := ⟨fun i hi => hp.1 _ (hq.1 i hi), fun i j hi hj e => hq.2 i j hi hj (hp.2 _ _ (hq.1 i hi) (hq.1 j hj) e)⟩
/-- a commutator is even -/
theorem com_even {n : Nat} {r u : List Nat} (hr : IsP n r) (hu : IsP n u) : iv (at' (com r u)) n % 2 = 0 := by
  have il := inv_isP hr
  have id' := inv_isP hu
  have a1 := iv_comp (n := n) (p := at' u) (q := at' r) hu.pm hr.pm
  have a2 := iv_comp (n := n) (p := at' (inv r)) (q := fun i => at' u (at' r i)) il.pm (pm_comp hu.pm hr.pm)
  have a3 := iv_comp (n := n) (p := at' (inv u)) (q := fun i => at' (inv r) (at' u (at' r i))) id'.pm (pm_comp il.pm (pm_comp hu.pm hr.pm))
  have b1 := iv_comp (n := n) (p := at' (inv r)) (q := at' r) il.pm hr.pm
  have b2 := iv_comp (n := n) (p := at' (inv u)) (q := at' u) id'.pm hu.pm
  rw [iv_id fun i hi => inv_l hr hi] at b1
  rw [iv_id fun i hi => inv_l hu hi] at b2
  have e : iv (at' (com r u)) n = iv (fun i => at' (inv u) (at' (inv r) (at' u (at' r i)))) n := by
    refine sm_congr n fun j hj => sm_congr j fun i hi => ?_
    rw [at_com hr hj, at_com hr (show i < n by omega)]
  rw [e]
  omega

/-! ### going round -/
def it (f : Nat → Nat) : Nat → Nat → Nat
  | 0, s => s
  | k + 1, s => f (it f k s)
theorem it_lt {n : Nat} {f : Nat → Nat} (h : Pm n f) {s : Nat} (hs : s < n) : ∀ k, it f k s < n
  | 0 => hs
  | k + 1 => h.1 _ (it_lt h hs k)
theorem it_add (f : Nat → Nat) (s : Nat) (a : Nat) : ∀ b, it f (b + a) s = it f b (it f a s)
  | 0 => by rw [Nat.zero_add]; rfl
  | b + 1 => by
    rw [Nat.succ_add]
    show f (it f (b + a) s) = f (it f b (it f a s))
    rw [it_add f s a b]
theorem it_inj {n : Nat} {f : Nat → Nat} (h : Pm n f) {s t : Nat} (hs : s < n) (ht : t < n) : ∀ k, it f k s = it f k t → s = t
  | 0, e => e
  | k + 1, e => it_inj h hs ht k (h.2 _ _ (it_lt h hs k) (it_lt h ht k) e)
/-- it comes back -/
theorem per_ex {n : Nat} {f : Nat → Nat} (h : Pm n f) {s : Nat} (hs : s < n) : ∃ m, 1 ≤ m ∧ m ≤ n ∧ it f m s = s := by
  apply Classical.byContradiction
  intro hn
  have nd : ((List.range (n + 1)).map fun k => it f k s).Nodup := by
    refine List.Pairwise.map _ (R := fun a b => a < b ∧ b ≤ n) (fun a b ⟨h1, h2⟩ e => ?_) ?_
    · refine hn ⟨b - a, by omega, by omega, ?_⟩
      have e2 : it f b s = it f a (it f (b - a) s) := by rw [← it_add]; congr 1; omega
      exact (it_inj h hs (it_lt h hs _) a (e.trans e2)).symm
    · rw [List.pairwise_iff_getElem]
      intro i j hi hj hij
      simp at hi hj ⊢
      omega
  have := nd_le (n := n) nd fun x hx => by
    obtain ⟨k, _, rfl⟩ := List.mem_map.mp hx
    exact it_lt h hs k
  simp at this
  omega
/-- the first return -/
def isPer (f : Nat → Nat) (s m : Nat) : Prop := 1 ≤ m ∧ it f m s = s ∧ ∀ k, 1 ≤ k → k < m → it f k s ≠ s
theorem per_first {f : Nat → Nat} {s : Nat} : ∀ m, 1 ≤ m → it f m s = s → ∃ k, k ≤ m ∧ isPer f s k := by
  intro m
  induction m using Nat.strongRecOn with
  | ind m ih =>
    intro h1 h2
    by_cases hh : ∃ k, 1 ≤ k ∧ k < m ∧ it f k s = s
    · obtain ⟨k, a, b, c⟩ := hh
      obtain ⟨k', h3, h4⟩ := ih k b a c
      exact ⟨k', by omega, h4⟩
    · exact ⟨m, Nat.le_refl _, h1, h2, fun k a b c => hh ⟨k, a, b, c⟩⟩
theorem isPer_uniq {f : Nat → Nat} {s m k : Nat} (a : isPer f s m) (b : isPer f s k) : m = k := by
  rcases Nat.lt_trichotomy m k with h | h | h
  · exact absurd a.2.1 (b.2.2 m a.1 h)
  · exact h
  · exact absurd b.2.1 (a.2.2 k b.1 h)
def go (c : List Nat) (s : Nat) : Nat → Nat → List Nat
  | 0, _ => []
  | k + 1, h => if h = s then [] else h :: go c s k (at' c h)
/-- whether it has come back within k -/
def ends (c : List Nat) (s : Nat) : Nat → Nat → Bool
  | 0, _ => false
  | k + 1, h => if h = s then true else ends c s k (at' c h)
/-- the ring from s -/
def orb (c : List Nat) (s : Nat) : List Nat := s :: go c s 8 (at' c s)
theorem go_eq (c : List Nat) (s m : Nat) (h : isPer (at' c) s m) : ∀ (k j : Nat), j + 1 ≤ m → m - j ≤ k → go c s k (it (at' c) (j + 1) s) = (List.range' (j + 1) (m - 1 - j)).map (fun i => it (at' c) i s) ∧ ends c s k (it (at' c) (j + 1) s) = true
  | 0, j, h1, h2 => by omega
  | k + 1, j, h1, h2 => by
    unfold go ends
    by_cases e : j + 1 = m
    · have : it (at' c) (j + 1) s = s := by rw [e]; exact h.2.1
      have z : m - 1 - j = 0 := by omega
      simp [this, z]
    · have ne : it (at' c) (j + 1) s ≠ s := h.2.2 (j + 1) (by omega) (by omega)
      have ih := go_eq c s m h k (j + 1) (by omega) (by omega)
      have z : m - 1 - j = (m - 1 - (j + 1)) + 1 := by omega
      simp only [ne, if_false]
      refine ⟨?_, ih.2⟩
      rw [z, List.range'_succ, List.map_cons]
      exact congrArg _ ih.1
section
variable {n : Nat} {c : List Nat} (h7 : n ≤ 7) (hc : IsP n c) {s : Nat} (hs : s < n)
include h7 hc hs
theorem orb_per : ∃ m, m ≤ n ∧ isPer (at' c) s m ∧ orb c s = (List.range m).map (fun i => it (at' c) i s) ∧ ends c s 8 (at' c s) = true := by
  obtain ⟨m0, a1, a2, a3⟩ := per_ex hc.pm hs
  obtain ⟨m, b1, b2⟩ := per_first m0 a1 a3
  have g := go_eq c s m b2 8 0 b2.1 (by omega)
  refine ⟨m, by omega, b2, ?_, g.2⟩
  unfold orb
  have e := g.1
  have e0 : it (at' c) (0 + 1) s = at' c s := rfl
  rw [e0] at e
  rw [e, List.range_eq_range']
  have z : m = (m - 1 - 0) + 1 := by have := b2.1; omega
  conv => rhs; rw [z, List.range'_succ, List.map_cons]
  rfl
theorem orb_mem {x : Nat} : x ∈ orb c s ↔ ∃ k, x = it (at' c) k s := by
  obtain ⟨m, h1, h2, h3, _⟩ := orb_per h7 hc hs
  rw [h3]
  constructor
  · intro h
    obtain ⟨k, _, rfl⟩ := List.mem_map.mp h
    exact ⟨k, rfl⟩
  · rintro ⟨k, rfl⟩
    induction k using Nat.strongRecOn with
    | ind k ih =>
      by_cases hk : k < m
      · exact List.mem_map.mpr ⟨k, List.mem_range.mpr hk, rfl⟩
      · have e : it (at' c) k s = it (at' c) (k - m) s := by
          have : k = (k - m) + m := by omega
          conv => lhs; rw [this, it_add, h2.2.1]
        rw [e]
        exact ih (k - m) (by have := h2.1; omega)
theorem orb_len : isPer (at' c) s (orb c s).length := by
  obtain ⟨m, h1, h2, h3, _⟩ := orb_per h7 hc hs
  rw [h3]
  simpa using h2
theorem orb_lt {x : Nat} (hx : x ∈ orb c s) : x < n := by
  obtain ⟨k, rfl⟩ := (orb_mem h7 hc hs).mp hx
  exact it_lt hc.pm hs k
theorem orb_sym {x : Nat} (hx : x ∈ orb c s) : s ∈ orb c x := by
  have hx' := orb_lt h7 hc hs hx
  obtain ⟨k, rfl⟩ := (orb_mem h7 hc hs).mp hx
  have per := orb_len h7 hc hs
  rw [orb_mem h7 hc hx']
  -- go on to a multiple of the length
  have mul : ∀ j, it (at' c) (j * (orb c s).length) s = s := fun j => by
    induction j with
    | zero => rw [Nat.zero_mul]; rfl
    | succ j ih => rw [Nat.succ_mul, Nat.add_comm, it_add, ih, per.2.1]
  have hk : k ≤ k * (orb c s).length := Nat.le_mul_of_pos_right k per.1
  refine ⟨k * (orb c s).length - k, ?_⟩
  rw [← it_add]
  have : k * (orb c s).length - k + k = k * (orb c s).length := by omega
  rw [this, mul]
theorem orb_trans {x y : Nat} (hx : x ∈ orb c s) (hy : y ∈ orb c x) : y ∈ orb c s := by
  have hx' := orb_lt h7 hc hs hx
  obtain ⟨k, rfl⟩ := (orb_mem h7 hc hs).mp hx
  obtain ⟨j, rfl⟩ := (orb_mem h7 hc hx').mp hy
  rw [orb_mem h7 hc hs]
  exact ⟨j + k, (it_add _ _ _ _).symm⟩
theorem orb_le {x : Nat} (hx : x ∈ orb c s) : (orb c x).length ≤ (orb c s).length := by
  have hx' := orb_lt h7 hc hs hx
  obtain ⟨k, rfl⟩ := (orb_mem h7 hc hs).mp hx
  have per := orb_len h7 hc hs
  have p2 := orb_len h7 hc hx'
  apply Classical.byContradiction
  intro hn
  refine p2.2.2 (orb c s).length per.1 (by omega) ?_
  rw [← it_add, Nat.add_comm, it_add, per.2.1]
theorem orb_same {x : Nat} (hx : x ∈ orb c s) : (orb c x).length = (orb c s).length :=
  Nat.le_antisymm (orb_le h7 hc hs hx) (orb_le h7 hc (orb_lt h7 hc hs hx) (orb_sym h7 hc hs hx))
theorem orb_ends : ends c s 8 (at' c s) = true := by
  obtain ⟨m, _, _, _, h⟩ := orb_per h7 hc hs
  exact h
theorem orb_le7 : (orb c s).length ≤ n := by
  obtain ⟨m, h1, _, h3, _⟩ := orb_per h7 hc hs
  rw [h3]
  simpa using h1
theorem orb_nd : (orb c s).Nodup := by
  obtain ⟨m, h1, h2, h3, _⟩ := orb_per h7 hc hs
  rw [h3]
  refine List.Pairwise.map _ (R := fun a b => a < b ∧ b < m) (fun a b ⟨q1, q2⟩ e => ?_) ?_
  · have e2 : it (at' c) b s = it (at' c) a (it (at' c) (b - a) s) := by rw [← it_add]; congr 1; omega
    exact h2.2.2 (b - a) (by omega) (by omega) (it_inj hc.pm hs (it_lt hc.pm hs _) a (e.trans e2)).symm
  · rw [List.pairwise_iff_getElem]
    intro i j hi hj hij
    simp at hi hj ⊢
    omega
end
/-- a part that is closed is closed backwards -/
theorem closed_inv {n : Nat} {c : List Nat} (h7 : n ≤ 7) (hc : IsP n c) {S : Nat → Prop} (h : ∀ x, x < n → S x → S (at' c x)) {s : Nat} (hs : s < n) (a : S s) : S (at' (inv c) s) := by
  obtain ⟨m, h1, h2, _⟩ := orb_per h7 hc hs
  have all : ∀ k, S (it (at' c) k s) := fun k => by
    induction k with
    | zero => exact a
    | succ k ih => exact h _ (it_lt hc.pm hs k) ih
  have e : it (at' c) (m - 1) s = at' (inv c) s := by
    refine inv_uniq hc hs (it_lt hc.pm hs _) ?_
    have : at' c (it (at' c) (m - 1) s) = it (at' c) (m - 1 + 1) s := rfl
    rw [this]
    have z : m - 1 + 1 = m := by have := h2.1; omega
    rw [z]
    exact h2.2.1
  rw [← e]
  exact all _
/-- renamed: as long -/
theorem orb_conj {n : Nat} {c c' : List Nat} (h7 : n ≤ 7) (hc : IsP n c) (hc' : IsP n c') {σ : Nat → Nat} (hσ : Pm n σ) (h : ∀ s, s < n → at' c' (σ s) = σ (at' c s)) {s : Nat} (hs : s < n) : (orb c' (σ s)).length = (orb c s).length := by
  have e : ∀ k, it (at' c') k (σ s) = σ (it (at' c) k s) := fun k => by
    induction k with
    | zero => rfl
    | succ k ih =>
      show at' c' (it (at' c') k (σ s)) = σ (at' c (it (at' c) k s))
      rw [ih]
      exact h _ (it_lt hc.pm hs k)
  have a := orb_len h7 hc hs
  have b := orb_len h7 hc' (hσ.1 s hs)
  refine isPer_uniq b ⟨a.1, ?_, fun k h1 h2 e2 => a.2.2 k h1 h2 ?_⟩
  · rw [e, a.2.1]
  · rw [e] at e2
    exact hσ.2 _ _ (it_lt hc.pm hs k) hs e2
theorem orb_inv {n : Nat} {c : List Nat} (h7 : n ≤ 7) (hc : IsP n c) {s : Nat} (hs : s < n) : (orb (inv c) s).length = (orb c s).length := by
  have hi := inv_isP hc
  have e : ∀ k x, x < n → it (at' c) k (it (at' (inv c)) k x) = x := fun k => by
    induction k with
    | zero => intro x _; rfl
    | succ k ih =>
      intro x hx
      have e1 : it (at' c) (k + 1) (it (at' (inv c)) (k + 1) x) = it (at' c) k (at' c (at' (inv c) (it (at' (inv c)) k x))) := it_add (at' c) _ 1 k
      rw [e1, inv_r hc (it_lt hi.pm hx k)]
      exact ih x hx
  have a := orb_len h7 hc hs
  have b := orb_len h7 hi hs
  refine isPer_uniq b ⟨a.1, ?_, fun k h1 h2 e2 => a.2.2 k h1 h2 ?_⟩
  · have := e (orb c s).length s hs
    exact it_inj hc.pm (it_lt hi.pm hs _) hs (orb c s).length (this.trans a.2.1.symm)
  · have := e k s hs
    rw [e2] at this
    exact this
end Plain

/-! Plain: corners and turns of an exchange of up to seven squares. -/
namespace Plain
def lenF (f : Nat → Nat) (s : Nat) (k : Nat) : Nat → Nat := Nat.rec (motive := fun _ => Nat → Nat) (fun _ => 0) (fun _ ih h => bif Nat.beq h s then 1 else Nat.succ (ih (f h))) k
def minF (f : Nat → Nat) (s : Nat) (k : Nat) : Nat → Bool := Nat.rec (motive := fun _ => Nat → Bool) (fun _ => true) (fun _ ih h => bif Nat.beq h s then true else bif Nat.ble s h then ih (f h) else false) k
def dig (c i : Nat) : Nat := Nat.mod (Nat.shiftRight c (Nat.mul 3 i)) 8
def chkF (n : Nat) (f : Nat → Nat) : Bool :=
  ((Nat.beq (sm (fun s => Nat.pow 16 (lenF f s 8 (f s))) n) (sm (fun s => bif minF f s 8 (f s) then Nat.mul (lenF f s 8 (f s)) (Nat.pow 16 (lenF f s 8 (f s))) else 0) n)).and
  (Nat.beq (Nat.mod (Nat.add (sm (fun s => bif minF f s 8 (f s) then 1 else 0) n) (iv f n)) 2) (Nat.mod n 2))).and
  (Nat.beq (sm (fun s => bif minF f s 8 (f s) then lenF f s 8 (f s) else 0) n) n)
def ers (x : Nat) : List Nat → List Nat
  | [] => []
  | y :: r => bif Nat.beq x y then r else y :: ers x r
def dfs (n : Nat) : Nat → Nat → List Nat → Bool
  | 0, c, _ => chkF n (dig c)
  | k + 1, c, av => av.all fun x => dfs n k (Nat.add (Nat.mul c 8) x) (ers x av)
theorem beq_iff {a b : Nat} : Nat.beq a b = true ↔ a = b := ⟨Nat.eq_of_beq_eq_true, fun h => by rw [h]; exact Nat.beq_refl b⟩
theorem ers_mem {x y : Nat} (h : y ≠ x) : ∀ {l : List Nat}, y ∈ l → y ∈ ers x l
  | z :: r, m => by
    unfold ers
    cases e : Nat.beq x z
    · rcases List.mem_cons.mp m with rfl | m
      · exact List.mem_cons_self
      · exact List.mem_cons_of_mem _ (ers_mem h m)
    · have := beq_iff.mp e
      subst this
      rcases List.mem_cons.mp m with rfl | m
      · exact absurd rfl h
      · exact m
theorem dfs_ok (n : Nat) : ∀ (k c : Nat) (av : List Nat), dfs n k c av = true → ∀ q : List Nat, q.length = k → q.Nodup → (∀ x ∈ q, x ∈ av) → chkF n (dig (q.foldl (fun c x => c * 8 + x) c)) = true
  | 0, c, av, h, q, hl, _, _ => by
    have : q = [] := List.length_eq_zero_iff.mp hl
    subst this
    exact h
  | k + 1, c, av, h, [], hl, _, _ => by simp at hl
  | k + 1, c, av, h, x :: q, hl, nd, hs => by
    have nd' := List.nodup_cons.mp nd
    have h2 := List.all_eq_true.mp h x (hs x (by simp))
    exact dfs_ok n k _ _ h2 q (by simpa using hl) nd'.2 fun y hy => ers_mem (fun e => nd'.1 (by rw [← e]; exact hy)) (hs y (by simp [hy]))
def enc : List Nat → Nat
  | [] => 0
  | x :: r => enc r * 8 + x
theorem enc_rev (p : List Nat) : p.reverse.foldl (fun c x => c * 8 + x) 0 = enc p := by
  rw [List.foldl_reverse]
  induction p with
  | nil => rfl
  | cons x r ih => rw [List.foldr_cons, ih]; rfl
theorem dig_enc : ∀ (p : List Nat), (∀ x ∈ p, x < 8) → ∀ i, dig (enc p) i = at' p i
  | [], _, i => by
    show (0 >>> (3 * i)) % 8 = 0
    simp
  | x :: r, h, 0 => by
    show (enc r * 8 + x) >>> 0 % 8 = x
    have := h x (by simp)
    rw [Nat.shiftRight_zero]
    omega
  | x :: r, h, i + 1 => by
    have ih := dig_enc r (fun y hy => h y (by simp [hy])) i
    have hx := h x (by simp)
    show (enc r * 8 + x) >>> (3 * (i + 1)) % 8 = r.getD i 0
    have e : 3 * (i + 1) = 3 + 3 * i := by omega
    rw [e, Nat.shiftRight_add]
    have e2 : (enc r * 8 + x) >>> 3 = enc r := by
      rw [Nat.shiftRight_eq_div_pow]
      omega
    rw [e2]
    exact ih
theorem dfs_all : ([1, 2, 3, 4, 5, 6, 7].all fun n => dfs n n 0 (List.range n)) = true := by decide +kernel
theorem chk_p {n : Nat} (h1 : 1 ≤ n) (h7 : n ≤ 7) {p : List Nat} (hp : IsP n p) : chkF n (at' p) = true := by
  have h := List.all_eq_true.mp dfs_all n (by simp; omega)
  have := dfs_ok n n 0 (List.range n) h p.reverse (by simp [hp.len]) (List.pairwise_reverse.mpr (hp.nd.imp fun h => Ne.symm h)) fun x hx => List.mem_range.mpr (hp.lt x (by simpa using hx))
  rw [enc_rev] at this
  have e : dig (enc p) = at' p := funext fun i => dig_enc p (fun x hx => by have := hp.lt x hx; omega) i
  rw [e] at this
  exact this

/-! ### what is checked, of rings -/
def minO (c : List Nat) (s : Nat) : Bool := (orb c s).all fun x => Nat.ble s x
def rings (c : List Nat) : List (List Nat) := ((List.range c.length).filter (minO c)).map (orb c)
def gl (c : List Nat) : List Nat := (rings c).map (·.length)
def turnL (c : List Nat) : List Nat := (List.range c.length).map fun s => (orb c s).length
def insN (x : Nat) : List Nat → List Nat
  | [] => [x]
  | y :: ys => if y < x then y :: insN x ys else x :: y :: ys
def srtN : List Nat → List Nat
  | [] => []
  | x :: xs => insN x (srtN xs)
def corn (c : List Nat) : List Nat := srtN (gl c)
theorem lenF_eq (c : List Nat) (s : Nat) : ∀ k h, ends c s k h = true → lenF (at' c) s k h = (go c s k h).length + 1
  | 0, h, e => by simp [ends] at e
  | k + 1, h, e => by
    show (bif Nat.beq h s then 1 else Nat.succ (lenF (at' c) s k (at' c h))) = _
    unfold go
    unfold ends at e
    by_cases q : h = s
    · rw [beq_iff.mpr q]; simp [q]
    · have : Nat.beq h s = false := by
        cases z : Nat.beq h s
        · rfl
        · exact absurd (beq_iff.mp z) q
      rw [this]
      simp only [q, if_false] at e ⊢
      show Nat.succ _ = _
      rw [lenF_eq c s k _ e]
      rfl
theorem minF_eq (c : List Nat) (s : Nat) : ∀ k h, minF (at' c) s k h = (go c s k h).all fun x => Nat.ble s x
  | 0, h => rfl
  | k + 1, h => by
    show (bif Nat.beq h s then true else bif Nat.ble s h then minF (at' c) s k (at' c h) else false) = _
    unfold go
    by_cases q : h = s
    · rw [beq_iff.mpr q]; simp [q]
    · have : Nat.beq h s = false := by
        cases z : Nat.beq h s
        · rfl
        · exact absurd (beq_iff.mp z) q
      rw [this]
      simp only [q, if_false]
      show (bif Nat.ble s h then minF (at' c) s k (at' c h) else false) = _
      rw [minF_eq c s k, List.all_cons]
      cases Nat.ble s h <;> rfl
theorem minO_eq (c : List Nat) (s : Nat) : minO c s = minF (at' c) s 8 (at' c s) := by
  rw [minF_eq]
  unfold minO orb
  rw [List.all_cons, Nat.ble_eq_true_of_le (Nat.le_refl s)]
  rfl
theorem sm_filter (p : Nat → Bool) (g : Nat → Nat) : ∀ n, sm (fun s => bif p s then g s else 0) n = (((List.range n).filter p).map g).sum
  | 0 => rfl
  | n + 1 => by
    rw [sm_succ, sm_filter p g n, List.range_succ, List.filter_append, List.map_append, List.sum_append_nat]
    cases h : p n <;> simp [h]
section
variable {n : Nat} {c : List Nat} (h1 : 1 ≤ n) (h7 : n ≤ 7) (hc : IsP n c)
include h1 h7 hc
theorem len_or {s : Nat} (hs : s < n) : lenF (at' c) s 8 (at' c s) = (orb c s).length := by
  rw [lenF_eq c s 8 _ (orb_ends h7 hc hs)]
  rfl
theorem chk_use : ((turnL c).map fun L => 16 ^ L).sum = ((gl c).map fun L => L * 16 ^ L).sum ∧ ((gl c).length + iv (at' c) n) % 2 = n % 2 ∧ (gl c).sum = n := by
  have h := chk_p h1 h7 hc
  unfold chkF at h
  rw [Bool.and_eq_true, Bool.and_eq_true] at h
  obtain ⟨⟨a, b⟩, d⟩ := h
  have a := beq_iff.mp a
  have b := beq_iff.mp b
  have d := beq_iff.mp d
  have em : ∀ s, minF (at' c) s 8 (at' c s) = minO c s := fun s => (minO_eq c s).symm
  refine ⟨?_, ?_, ?_⟩
  · have e1 : sm (fun s => Nat.pow 16 (lenF (at' c) s 8 (at' c s))) n = ((turnL c).map fun L => 16 ^ L).sum := by
      rw [sm_congr n (h := fun s => 16 ^ (orb c s).length) fun s hs => by rw [len_or h1 h7 hc hs]; rfl, sm_list]
      unfold turnL
      rw [List.map_map, hc.len]
      rfl
    have e2 : sm (fun s => bif minF (at' c) s 8 (at' c s) then Nat.mul (lenF (at' c) s 8 (at' c s)) (Nat.pow 16 (lenF (at' c) s 8 (at' c s))) else 0) n = ((gl c).map fun L => L * 16 ^ L).sum := by
      rw [sm_congr n (h := fun s => bif minO c s then (fun s => (orb c s).length * 16 ^ (orb c s).length) s else 0) fun s hs => by rw [len_or h1 h7 hc hs, em]; rfl, sm_filter]
      unfold gl rings
      rw [List.map_map, List.map_map, hc.len]
      rfl
    rw [← e1, ← e2]
    exact a
  · have e : sm (fun s => bif minF (at' c) s 8 (at' c s) then 1 else 0) n = (gl c).length := by
      rw [sm_congr n (h := fun s => bif minO c s then (fun _ => 1) s else 0) fun s hs => by rw [em], sm_filter]
      unfold gl rings
      rw [List.length_map, List.length_map, hc.len]
      have z : ∀ l : List Nat, (l.map fun _ => 1).sum = l.length := fun l => by
        induction l with
        | nil => rfl
        | cons x r ih => simp [ih]; omega
      exact z _
    have b : (sm (fun s => bif minF (at' c) s 8 (at' c s) then 1 else 0) n + iv (at' c) n) % 2 = n % 2 := b
    rw [e] at b
    exact b
  · have e : sm (fun s => bif minF (at' c) s 8 (at' c s) then lenF (at' c) s 8 (at' c s) else 0) n = (gl c).sum := by
      rw [sm_congr n (h := fun s => bif minO c s then (fun s => (orb c s).length) s else 0) fun s hs => by rw [len_or h1 h7 hc hs, em], sm_filter]
      unfold gl rings
      rw [List.map_map, hc.len]
      rfl
    rw [← e]
    exact d
theorem gl_in {x : Nat} (hx : x ∈ gl c) : 1 ≤ x ∧ x ≤ 7 := by
  unfold gl rings at hx
  rw [List.map_map] at hx
  obtain ⟨s, hs, rfl⟩ := List.mem_map.mp hx
  have hs := (List.mem_filter.mp hs).1
  rw [hc.len] at hs
  have hs := List.mem_range.mp hs
  exact ⟨(orb_len h7 hc hs).1, Nat.le_trans (orb_le7 h7 hc hs) h7⟩
end
def W7 (k : Nat → Nat) : Nat := 1 * k 1 * 16 ^ 1 + 2 * k 2 * 16 ^ 2 + 3 * k 3 * 16 ^ 3 + 4 * k 4 * 16 ^ 4 + 5 * k 5 * 16 ^ 5 + 6 * k 6 * 16 ^ 6 + 7 * k 7 * 16 ^ 7
def V7 (k : Nat → Nat) : Nat := 1 * k 1 + 2 * k 2 + 3 * k 3 + 4 * k 4 + 5 * k 5 + 6 * k 6 + 7 * k 7
theorem w7 : ∀ l : List Nat, (∀ x ∈ l, 1 ≤ x ∧ x ≤ 7) → (l.map fun L => L * 16 ^ L).sum = W7 (fun L => l.count L) ∧ l.sum = V7 (fun L => l.count L)
  | [], _ => ⟨rfl, rfl⟩
  | x :: r, h => by
    obtain ⟨a, b⟩ := w7 r fun y hy => h y (by simp [hy])
    have hx := h x (by simp)
    rw [List.map_cons, List.sum_cons, List.sum_cons, a, b]
    simp only [W7, V7, List.count_cons]
    rcases (show x = 1 ∨ x = 2 ∨ x = 3 ∨ x = 4 ∨ x = 5 ∨ x = 6 ∨ x = 7 by omega) with rfl | rfl | rfl | rfl | rfl | rfl | rfl <;> simp <;> omega
theorem insN_comm (x y : Nat) : ∀ l, insN x (insN y l) = insN y (insN x l)
  | [] => by
    simp only [insN]
    by_cases a : x < y <;> by_cases b : y < x
    · omega
    · simp [a, b]
    · simp [a, b]
    · have : x = y := by omega
      simp [this]
  | z :: l => by
    have ih := insN_comm x y l
    by_cases a : z < x <;> by_cases b : z < y
    · simp [insN, a, b, ih]
    · have : y < x := by omega
      simp [insN, a, b, this]
    · have : x < y := by omega
      simp [insN, a, b, this]
    · by_cases d : x < y <;> by_cases e : y < x
      · omega
      · simp [insN, a, b, d, e]
      · simp [insN, a, b, d, e]
      · have : x = y := by omega
        simp [this]
theorem srtN_perm {l m : List Nat} (h : List.Perm l m) : srtN l = srtN m := by
  induction h with
  | nil => rfl
  | cons x _ ih => simp [srtN, ih]
  | swap x y l => simp [srtN, insN_comm]
  | trans _ _ a b => exact a.trans b
theorem stp {x y x' y' : Nat} (h : x < 16) (h' : x' < 16) (e : x + 16 * y = x' + 16 * y') : x = x' ∧ y = y' := by omega
theorem dig7' {a1 a2 a3 a4 a5 a6 a7 b1 b2 b3 b4 b5 b6 b7 : Nat} (p1 : a1 < 16) (p2 : a2 < 16) (p3 : a3 < 16) (p4 : a4 < 16) (p5 : a5 < 16) (p6 : a6 < 16) (q1 : b1 < 16) (q2 : b2 < 16) (q3 : b3 < 16) (q4 : b4 < 16) (q5 : b5 < 16) (q6 : b6 < 16)
    (e : a1 + 16 * (a2 + 16 * (a3 + 16 * (a4 + 16 * (a5 + 16 * (a6 + 16 * a7))))) = b1 + 16 * (b2 + 16 * (b3 + 16 * (b4 + 16 * (b5 + 16 * (b6 + 16 * b7)))))) :
    a1 = b1 ∧ a2 = b2 ∧ a3 = b3 ∧ a4 = b4 ∧ a5 = b5 ∧ a6 = b6 ∧ a7 = b7 := by
  obtain ⟨x1, e⟩ := stp p1 q1 e
  obtain ⟨x2, e⟩ := stp p2 q2 e
  obtain ⟨x3, e⟩ := stp p3 q3 e
  obtain ⟨x4, e⟩ := stp p4 q4 e
  obtain ⟨x5, e⟩ := stp p5 q5 e
  obtain ⟨x6, e⟩ := stp p6 q6 e
  exact ⟨x1, x2, x3, x4, x5, x6, e⟩
theorem dig7 {a1 a2 a3 a4 a5 a6 a7 b1 b2 b3 b4 b5 b6 b7 n : Nat} (h7 : n ≤ 7) (va : n = 1 * a1 + 2 * a2 + 3 * a3 + 4 * a4 + 5 * a5 + 6 * a6 + 7 * a7) (vb : n = 1 * b1 + 2 * b2 + 3 * b3 + 4 * b4 + 5 * b5 + 6 * b6 + 7 * b7)
    (e : 1 * a1 * 16 + 2 * a2 * 256 + 3 * a3 * 4096 + 4 * a4 * 65536 + 5 * a5 * 1048576 + 6 * a6 * 16777216 + 7 * a7 * 268435456 = 1 * b1 * 16 + 2 * b2 * 256 + 3 * b3 * 4096 + 4 * b4 * 65536 + 5 * b5 * 1048576 + 6 * b6 * 16777216 + 7 * b7 * 268435456) :
    a1 = b1 ∧ a2 = b2 ∧ a3 = b3 ∧ a4 = b4 ∧ a5 = b5 ∧ a6 = b6 ∧ a7 = b7 := by
  have e' : 1 * a1 + 16 * (2 * a2 + 16 * (3 * a3 + 16 * (4 * a4 + 16 * (5 * a5 + 16 * (6 * a6 + 16 * (7 * a7)))))) = 1 * b1 + 16 * (2 * b2 + 16 * (3 * b3 + 16 * (4 * b4 + 16 * (5 * b5 + 16 * (6 * b6 + 16 * (7 * b7)))))) := by
    clear va vb
    have l : ∀ x1 x2 x3 x4 x5 x6 x7 : Nat, 16 * (1 * x1 + 16 * (2 * x2 + 16 * (3 * x3 + 16 * (4 * x4 + 16 * (5 * x5 + 16 * (6 * x6 + 16 * (7 * x7))))))) = 1 * x1 * 16 + 2 * x2 * 256 + 3 * x3 * 4096 + 4 * x4 * 65536 + 5 * x5 * 1048576 + 6 * x6 * 16777216 + 7 * x7 * 268435456 := fun x1 x2 x3 x4 x5 x6 x7 => by omega
    exact Nat.eq_of_mul_eq_mul_left (by decide : 0 < 16) ((l a1 a2 a3 a4 a5 a6 a7).trans (e.trans (l b1 b2 b3 b4 b5 b6 b7).symm))
  clear e
  obtain ⟨x1, x2, x3, x4, x5, x6, x7⟩ := dig7' (by clear vb e'; omega) (by clear vb e'; omega) (by clear vb e'; omega) (by clear vb e'; omega) (by clear vb e'; omega) (by clear vb e'; omega) (by clear va e'; omega) (by clear va e'; omega) (by clear va e'; omega) (by clear va e'; omega) (by clear va e'; omega) (by clear va e'; omega) e'
  clear va vb e'
  exact ⟨by omega, by omega, by omega, by omega, by omega, by omega, by omega⟩
/-- corners are known from turns -/
theorem corn_of {n : Nat} {c d : List Nat} (h1 : 1 ≤ n) (h7 : n ≤ 7) (hc : IsP n c) (hd : IsP n d) (h : List.Perm (turnL c) (turnL d)) : corn c = corn d := by
  obtain ⟨a1, _, a3⟩ := chk_use h1 h7 hc
  obtain ⟨b1, _, b3⟩ := chk_use h1 h7 hd
  have e := ((h.map fun L => 16 ^ L)).sum_nat
  rw [a1, b1] at e
  obtain ⟨wa, va⟩ := w7 (gl c) fun x hx => gl_in h1 h7 hc hx
  obtain ⟨wb, vb⟩ := w7 (gl d) fun x hx => gl_in h1 h7 hd hx
  rw [wa, wb] at e
  rw [a3] at va
  rw [b3] at vb
  simp only [W7, Nat.reducePow] at e
  simp only [V7] at va vb
  refine srtN_perm (List.perm_iff_count.mpr fun L => ?_)
  by_cases hL : 1 ≤ L ∧ L ≤ 7
  · have : (gl c).count 1 = (gl d).count 1 ∧ (gl c).count 2 = (gl d).count 2 ∧ (gl c).count 3 = (gl d).count 3 ∧ (gl c).count 4 = (gl d).count 4 ∧ (gl c).count 5 = (gl d).count 5 ∧ (gl c).count 6 = (gl d).count 6 ∧ (gl c).count 7 = (gl d).count 7 := dig7 h7 va vb e
    rcases (show L = 1 ∨ L = 2 ∨ L = 3 ∨ L = 4 ∨ L = 5 ∨ L = 6 ∨ L = 7 by omega) with rfl | rfl | rfl | rfl | rfl | rfl | rfl
    · exact this.1
    · exact this.2.1
    · exact this.2.2.1
    · exact this.2.2.2.1
    · exact this.2.2.2.2.1
    · exact this.2.2.2.2.2.1
    · exact this.2.2.2.2.2.2
  · rw [List.count_eq_zero.mpr fun m => hL (gl_in h1 h7 hc m), List.count_eq_zero.mpr fun m => hL (gl_in h1 h7 hd m)]
theorem corn_conj {n : Nat} {c c' : List Nat} (h1 : 1 ≤ n) (h7 : n ≤ 7) (hc : IsP n c) (hc' : IsP n c') {σ : Nat → Nat} (hσ : Pm n σ) (h : ∀ s, s < n → at' c' (σ s) = σ (at' c s)) : corn c' = corn c := by
  refine corn_of h1 h7 hc' hc ?_
  unfold turnL
  rw [hc'.len, hc.len]
  have e : (List.range n).map (fun s => (orb c s).length) = ((List.range n).map σ).map fun s => (orb c' s).length := by
    rw [List.map_map]
    refine List.map_congr_left fun s hs => ?_
    exact (orb_conj h7 hc hc' hσ h (List.mem_range.mp hs)).symm
  rw [e]
  exact ((pm_perm hσ).map _).symm
theorem corn_inv {n : Nat} {c : List Nat} (h1 : 1 ≤ n) (h7 : n ≤ 7) (hc : IsP n c) : corn (inv c) = corn c := by
  refine corn_of h1 h7 (inv_isP hc) hc ?_
  have e : turnL (inv c) = turnL c := by
    unfold turnL
    rw [(inv_isP hc).len, hc.len]
    exact List.map_congr_left fun s hs => orb_inv h7 hc (List.mem_range.mp hs)
  rw [e]
/-- the least one of a ring is met -/
theorem min_ex {n : Nat} {c : List Nat} (h7 : n ≤ 7) (hc : IsP n c) : ∀ s, s < n → ∃ m, m ≤ s ∧ minO c m = true ∧ s ∈ orb c m := by
  intro s
  induction s using Nat.strongRecOn with
  | ind s ih =>
    intro hs
    have self : s ∈ orb c s := List.mem_cons_self
    by_cases h : minO c s = true
    · exact ⟨s, Nat.le_refl _, h, self⟩
    · obtain ⟨y, hy, hlt⟩ : ∃ y, y ∈ orb c s ∧ y < s := by
        apply Classical.byContradiction
        intro hn
        refine h (List.all_eq_true.mpr fun x hx => Nat.ble_eq_true_of_le ?_)
        apply Classical.byContradiction
        intro hh
        exact hn ⟨x, hx, by omega⟩
      obtain ⟨m, h1, h2, h3⟩ := ih y hlt (orb_lt h7 hc hs hy)
      exact ⟨m, by omega, h2, orb_trans h7 hc (by omega) h3 (orb_sym h7 hc hs hy)⟩
theorem min_iff {n : Nat} {c : List Nat} (h7 : n ≤ 7) (hc : IsP n c) {s : Nat} (hs : s < n) : minO c s = true ↔ ¬ ∃ m, m < s ∧ minO c m = true ∧ s ∈ orb c m := by
  constructor
  · rintro h ⟨m, h1, _, h3⟩
    have := List.all_eq_true.mp h m (orb_sym h7 hc (by omega) h3)
    have := Nat.le_of_ble_eq_true this
    omega
  · intro h
    obtain ⟨m, h1, h2, h3⟩ := min_ex h7 hc s hs
    by_cases e : m = s
    · exact e ▸ h2
    · exact absurd ⟨m, by omega, h2, h3⟩ h
end Plain

namespace Law_shearsquares_k12_corners
open PySem (PyData)
open Dat
def F_is_between : Fn := ⟨⟨#[105, 115, 95, 98, 101, 116, 119, 101, 101, 110]⟩, [false, false, false], 3, (.ret (.and (.cons (.isi (.pv 0) .int) (.cons (.not (.isi (.pv 0) .bool)) (.cons (.chn (.pv 1) (.pv 0) (.pv 2)) .nil))))), none⟩
def C_is_exchange_1 : E := (.lc (.call 0 (.cons (.var 2) (.cons (.cst (.int 0)) (.cons (.bin .sub (.pv 1) (.cst (.int 1))) .nil)))) (.v 2) (.e (.var 0)) .no)
def F_is_exchange : Fn := ⟨⟨#[105, 115, 95, 101, 120, 99, 104, 97, 110, 103, 101]⟩, [false, false], 3, (.seq (.ite (.or (.cons (.not (.isi (.pv 0) .tuple)) (.cons (.cmp .ne (.b1 .len (.pv 0)) (.pv 1)) (.cons (.not (.b1 .all C_is_exchange_1)) .nil)))) (.ret (.cst (.bool false))) .skip)
      (.ret (.cmp .eq (.b1 .lenset (.pv 0)) (.pv 1)))), none⟩
def W_walk_1 : S := (.for_ (.v 5) (.e (.tup (.cons (.sub (.pv 0) (.sub (.pv 3) (.pv 4))) (.cons (.sub (.pv 1) (.sub (.pv 3) (.pv 4))) .nil)))) (.ite (.cmp .notin (.pv 5) (.pv 3)) (.app 3 (.var 5)) .skip))
def W_walk_2 : S := (.whl (.cmp .lt (.pv 4) (.b1 .len (.pv 3))) (.seq W_walk_1
      (.asg (.v 4) (.bin .add (.pv 4) (.cst (.int 1))))))
def F_walk : Fn := ⟨⟨#[119, 97, 108, 107]⟩, [false, false, false], 6, (.seq (.par (.tc (.v 3) (.tc (.v 4) .t0)) (.cons (.lst (.cons (.var 2) .nil)) (.cons (.cst (.int 0)) .nil)))
      (.seq W_walk_2
      (.ret (.mv 3)))), none⟩
def F_is_round : Fn := ⟨⟨#[105, 115, 95, 114, 111, 117, 110, 100]⟩, [false], 2, (.seq (.ite (.or (.cons (.not (.isi (.pv 0) .tuple)) (.cons (.cmp .ne (.b1 .len (.pv 0)) (.cst (.int 2))) (.cons (.not (.isi (.sub (.pv 0) (.cst (.int 0))) .tuple)) .nil)))) (.ret (.cst (.bool false))) .skip)
      (.seq (.asg (.v 1) (.b1 .len (.sub (.pv 0) (.cst (.int 0)))))
      (.seq (.ite (.or (.cons (.not (.chn (.cst (.int 1)) (.pv 1) (.cst (.int 7)))) (.cons (.not (.call 1 (.cons (.sub (.pv 0) (.cst (.int 0))) (.cons (.var 1) .nil)))) (.cons (.not (.call 1 (.cons (.sub (.pv 0) (.cst (.int 1))) (.cons (.var 1) .nil)))) .nil)))) (.ret (.cst (.bool false))) .skip)
      (.ret (.cmp .eq (.b1 .len (.call 2 (.cons (.sub (.pv 0) (.cst (.int 0))) (.cons (.sub (.pv 0) (.cst (.int 1))) (.cons (.cst (.int 0)) .nil))))) (.pv 1)))))), none⟩
def F_check_round : Fn := ⟨⟨#[99, 104, 101, 99, 107, 95, 114, 111, 117, 110, 100]⟩, [false], 1, (.ite (.not (.call 3 (.cons (.var 0) .nil))) (.rse ⟨#[73, 110, 118, 97, 108, 105, 100, 82, 111, 117, 110, 100]⟩ ⟨#[110, 111, 116, 32, 97, 32, 114, 111, 117, 110, 100]⟩) .skip), none⟩
def W_back_1 : S := (.for_ (.tc (.v 2) (.tc (.v 3) .t0)) (.enu (.var 0)) (.seti 1 (.var 3) (.var 2)))
def F_back : Fn := ⟨⟨#[98, 97, 99, 107]⟩, [false], 4, (.seq (.asg (.v 1) (.bin .mul (.lst (.cons (.cst (.int 0)) .nil)) (.b1 .len (.pv 0))))
      (.seq W_back_1
      (.ret (.b1 .tuple (.pv 1))))), none⟩
def C_with_names_1 : E := (.lc (.sub (.pv 1) (.sub (.pv 2) (.pv 3))) (.v 3) (.e (.call 5 (.cons (.var 1) .nil))) .no)
def C_with_names_2 : E := (.lc (.b1 .tuple C_with_names_1) (.v 2) (.e (.var 0)) .no)
def F_with_names : Fn := ⟨⟨#[119, 105, 116, 104, 95, 110, 97, 109, 101, 115]⟩, [false, false], 4, (.ret (.b1 .tuple C_with_names_2)), none⟩
def F_renamed : Fn := ⟨⟨#[114, 101, 110, 97, 109, 101, 100]⟩, [false, false], 2, (.seq (.ex (.call 4 (.cons (.var 0) .nil)))
      (.seq (.ite (.not (.call 1 (.cons (.var 1) (.cons (.b1 .len (.sub (.pv 0) (.cst (.int 0)))) .nil)))) (.rse ⟨#[73, 110, 118, 97, 108, 105, 100, 78, 97, 109, 101, 115]⟩ ⟨#[110, 111, 116, 32, 97, 32, 114, 101, 110, 97, 109, 105, 110, 103, 32, 111, 102, 32, 116, 104, 101, 32, 115, 113, 117, 97, 114, 101, 115]⟩) .skip)
      (.ret (.call 6 (.cons (.var 0) (.cons (.var 1) .nil)))))), none⟩
def W_ring_from_1 : S := (.whl (.cmp .ne (.pv 3) (.pv 1)) (.seq (.app 2 (.var 3))
      (.asg (.v 3) (.sub (.pv 0) (.pv 3)))))
def F_ring_from : Fn := ⟨⟨#[114, 105, 110, 103, 95, 102, 114, 111, 109]⟩, [false, false], 4, (.seq (.par (.tc (.v 2) (.tc (.v 3) .t0)) (.cons (.lst (.cons (.var 1) .nil)) (.cons (.sub (.pv 0) (.pv 1)) .nil)))
      (.seq W_ring_from_1
      (.ret (.mv 2)))), none⟩
def C_rings_of_1 : E := (.lc (.tup (.cons (.var 4) (.cons (.cst (.bool true)) .nil))) (.v 4) (.e (.sub (.pv 1) (.b1 .neg (.cst (.int 1))))) .no)
def W_rings_of_1 : S := (.for_ (.v 3) (.rng (.cons (.b1 .len (.pv 0)) .nil)) (.ite (.cmp .notin (.pv 3) (.pv 2)) (.seq (.app 1 (.call 8 (.cons (.var 0) (.cons (.var 3) .nil))))
      (.upd 2 (.b1 .dict C_rings_of_1))) .skip))
def F_rings_of : Fn := ⟨⟨#[114, 105, 110, 103, 115, 95, 111, 102]⟩, [false], 5, (.seq (.par (.tc (.v 1) (.tc (.v 2) .t0)) (.cons (.lst .nil) (.cons (.dct .nil) .nil)))
      (.seq W_rings_of_1
      (.ret (.mv 1)))), none⟩
def C_around_1 : E := (.lc (.sub (.pv 4) (.sub (.pv 3) (.sub (.pv 2) (.sub (.pv 1) (.pv 5))))) (.v 5) (.rng (.cons (.b1 .len (.pv 1)) .nil)) .no)
def F_around : Fn := ⟨⟨#[97, 114, 111, 117, 110, 100]⟩, [false], 6, (.seq (.asg (.tc (.v 1) (.tc (.v 2) .t0)) (.var 0))
      (.seq (.par (.tc (.v 3) (.tc (.v 4) .t0)) (.cons (.call 5 (.cons (.var 1) .nil)) (.cons (.call 5 (.cons (.var 2) .nil)) .nil)))
      (.ret (.b1 .tuple C_around_1)))), none⟩
def W_found_turns_1 : S := (.for_ (.v 3) (.e (.var 2)) (.seti 1 (.var 3) (.b1 .len (.pv 2))))
def W_found_turns_2 : S := (.for_ (.v 2) (.e (.call 9 (.cons (.call 10 (.cons (.var 0) .nil)) .nil))) W_found_turns_1)
def F_found_turns : Fn := ⟨⟨#[102, 111, 117, 110, 100, 95, 116, 117, 114, 110, 115]⟩, [false], 4, (.seq (.asg (.v 1) (.bin .mul (.lst (.cons (.cst (.int 0)) .nil)) (.b1 .len (.sub (.pv 0) (.cst (.int 0))))))
      (.seq W_found_turns_2
      (.ret (.mv 1)))), none⟩
def C_found_corners_1 : E := (.lc (.b1 .len (.pv 1)) (.v 1) (.e (.call 9 (.cons (.call 10 (.cons (.var 0) .nil)) .nil))) .no)
def F_found_corners : Fn := ⟨⟨#[102, 111, 117, 110, 100, 95, 99, 111, 114, 110, 101, 114, 115]⟩, [false], 2, (.ret (.b1 .tuple (.b1 .sorted C_found_corners_1))), none⟩
def F_corners : Fn := ⟨⟨#[99, 111, 114, 110, 101, 114, 115]⟩, [false], 1, (.seq (.ex (.call 4 (.cons (.var 0) .nil)))
      (.ret (.call 12 (.cons (.var 0) .nil)))), none⟩
def F_check_square : Fn := ⟨⟨#[99, 104, 101, 99, 107, 95, 115, 113, 117, 97, 114, 101]⟩, [false, false], 2, (.ite (.not (.call 0 (.cons (.var 1) (.cons (.cst (.int 0)) (.cons (.bin .sub (.b1 .len (.sub (.pv 0) (.cst (.int 0)))) (.cst (.int 1))) .nil))))) (.rse ⟨#[73, 110, 118, 97, 108, 105, 100, 78, 117, 109, 98, 101, 114]⟩ ⟨#[110, 111, 116, 32, 97, 32, 115, 113, 117, 97, 114, 101, 32, 111, 102, 32, 116, 104, 101, 32, 114, 111, 117, 110, 100]⟩) .skip), none⟩
def F_turns : Fn := ⟨⟨#[116, 117, 114, 110, 115]⟩, [false, false], 2, (.seq (.ex (.call 4 (.cons (.var 0) .nil)))
      (.seq (.ex (.call 14 (.cons (.var 0) (.cons (.var 1) .nil))))
      (.ret (.sub (.call 11 (.cons (.var 0) .nil)) (.pv 1))))), none⟩
def F__law_town : Fn := ⟨⟨#[95, 108, 97, 119, 95, 116, 111, 119, 110]⟩, [false], 1, (.ret (.bin .add (.lst (.cons (.cst (.int 0)) .nil)) (.b1 .list (.pv 0)))), none⟩
def F__law_draw : Fn := ⟨⟨#[95, 108, 97, 119, 95, 100, 114, 97, 119]⟩, [false, true, false], 6, (.seq (.seti 1 (.cst (.int 0)) (.bin .add (.sub (.pv 1) (.cst (.int 0))) (.cst (.int 1))))
      (.seq (.ite (.cmp .eq (.pv 0) (.lst .nil)) (.ret (.bin .mod (.bin .fdiv (.bin .mul (.bin .mul (.sub (.pv 1) (.cst (.int 0))) (.sub (.pv 1) (.cst (.int 0)))) (.cst (.int 7))) (.cst (.int 3))) (.pv 2))) .skip)
      (.seq (.asg (.v 3) (.bin .mod (.sub (.pv 1) (.cst (.int 0))) (.b1 .len (.pv 0))))
      (.seq (.asg (.v 4) (.sub (.pv 1) (.bin .add (.cst (.int 1)) (.pv 3))))
      (.seq (.ite (.and (.cons (.cmp .ge (.sub (.pv 0) (.pv 3)) (.bin .pow (.cst (.int 10)) (.cst (.int 18)))) (.cons (.cmp .gt (.pv 4) (.cst (.int 0))) .nil))) (.seq (.seti 1 (.bin .add (.cst (.int 1)) (.pv 3)) (.bin .fdiv (.pv 4) (.pv 2)))
      (.ret (.bin .mod (.pv 4) (.pv 2)))) .skip)
      (.seq (.asg (.v 5) (.bin .mod (.bin .add (.sub (.pv 0) (.pv 3)) (.bin .mul (.cst (.int 104729)) (.sub (.pv 1) (.cst (.int 0))))) (.cst (.int 4294967291))))
      (.seq (.asg (.v 5) (.bin .mod (.bin .pow (.pv 5) (.cst (.int 5))) (.cst (.int 4294967279))))
      (.ret (.bin .mod (.bin .fdiv (.bin .mod (.bin .add (.bin .mul (.bin .fdiv (.pv 5) (.cst (.int 64))) (.cst (.int 69621))) (.pv 5)) (.cst (.int 4294967231))) (.cst (.int 8))) (.pv 2)))))))))), none⟩
def W__law_order_1 : S := (.whl (.cmp .ne (.pv 4) (.lst .nil)) (.app 3 (.popi 4 (.call 17 (.cons (.var 0) (.cons (.pv 1) (.cons (.b1 .len (.pv 4)) .nil)))))))
def F__law_order : Fn := ⟨⟨#[95, 108, 97, 119, 95, 111, 114, 100, 101, 114]⟩, [false, true, false], 5, (.seq (.par (.tc (.v 3) (.tc (.v 4) .t0)) (.cons (.lst .nil) (.cons (.rngl false (.cons (.var 2) .nil)) .nil)))
      (.seq W__law_order_1
      (.ret (.b1 .tuple (.pv 3))))), none⟩
def C__law_hangs_1 : E := (.lc (.var 5) (.v 5) (.e (.tup (.cons (.sub (.pv 0) (.pv 4)) (.cons (.sub (.pv 1) (.pv 4)) .nil)))) (.yes (.cmp .notin (.pv 5) (.pv 2))))
def W__law_hangs_1 : S := (.for_ (.v 4) (.e (.b1 .list (.pv 2))) (.asg (.v 2) (.bin .add (.pv 2) C__law_hangs_1)))
def W__law_hangs_2 : S := (.for_ (.v 3) (.rng (.cons (.b1 .len (.pv 0)) .nil)) W__law_hangs_1)
def F__law_hangs : Fn := ⟨⟨#[95, 108, 97, 119, 95, 104, 97, 110, 103, 115]⟩, [false, false], 6, (.seq (.asg (.v 2) (.lst (.cons (.cst (.int 0)) .nil)))
      (.seq W__law_hangs_2
      (.ret (.cmp .eq (.b1 .lenset (.pv 2)) (.b1 .len (.pv 0)))))), none⟩
def C__law_round_1 : E := (.lc (.bin .mod (.bin .add (.pv 7) (.cst (.int 1))) (.pv 3)) (.v 7) (.rng (.cons (.var 3) .nil)) .no)
def C__law_round_2 : E := (.lc (.bin .mod (.bin .add (.pv 7) (.cst (.int 1))) (.pv 3)) (.v 7) (.rng (.cons (.var 3) .nil)) .no)
def W__law_round_1 : S := (.for_ (.v 4) (.rng (.cons (.cst (.int 6)) .nil)) (.seq (.par (.tc (.v 5) (.tc (.v 6) .t0)) (.cons (.call 18 (.cons (.var 0) (.cons (.pv 1) (.cons (.var 3) .nil)))) (.cons (.call 18 (.cons (.var 0) (.cons (.pv 1) (.cons (.var 3) .nil)))) .nil)))
      (.seq (.ite (.cmp .eq (.call 17 (.cons (.var 0) (.cons (.pv 1) (.cons (.cst (.int 4)) .nil)))) (.cst (.int 0))) (.asg (.v 5) (.b1 .tuple C__law_round_2)) .skip)
      (.ite (.call 19 (.cons (.var 5) (.cons (.var 6) .nil))) (.ret (.tup (.cons (.var 5) (.cons (.var 6) .nil)))) .skip))))
def F__law_round : Fn := ⟨⟨#[95, 108, 97, 119, 95, 114, 111, 117, 110, 100]⟩, [false, true, false], 8, (.seq (.asg (.v 3) (.bin .add (.cst (.int 1)) (.call 17 (.cons (.var 0) (.cons (.pv 1) (.cons (.var 2) .nil))))))
      (.seq W__law_round_1
      (.ret (.tup (.cons (.b1 .tuple C__law_round_1) (.cons (.call 18 (.cons (.var 0) (.cons (.pv 1) (.cons (.var 3) .nil)))) .nil)))))), none⟩
def C__law_back_1 : E := (.lc (.me .index (.var 0) (.var 1)) (.v 1) (.rng (.cons (.b1 .len (.pv 0)) .nil)) .no)
def F__law_back : Fn := ⟨⟨#[95, 108, 97, 119, 95, 98, 97, 99, 107]⟩, [false], 2, (.ret (.b1 .tuple C__law_back_1)), none⟩
def C_law_1 : E := (.lc (.bin .mod (.bin .add (.pv 16) (.cst (.int 1))) (.pv 5)) (.v 16) (.rng (.cons (.var 5) .nil)) .no)
def C_law_2 : E := (.lc (.call 15 (.cons (.var 12) (.cons (.sub (.pv 11) (.pv 10)) .nil))) (.v 10) (.rng (.cons (.var 5) .nil)) .no)
def W_law_1 : S := (.whl (.cmp .ne (.pv 15) (.pv 10)) (.seq (.app 14 (.var 15))
      (.asg (.v 15) (.sub (.pv 7) (.sub (.pv 6) (.sub (.pv 4) (.sub (.pv 3) (.pv 15))))))))
def W_law_2 : S := (.for_ (.v 10) (.rng (.cons (.var 5) .nil)) (.seq (.par (.tc (.v 14) (.tc (.v 15) .t0)) (.cons (.lst (.cons (.var 10) .nil)) (.cons (.sub (.pv 7) (.sub (.pv 6) (.sub (.pv 4) (.sub (.pv 3) (.pv 10))))) .nil)))
      (.seq W_law_1
      (.seq (.app 8 (.b1 .len (.pv 14)))
      (.seq (.ite (.cmp .eq (.pv 10) (.b1 .min (.pv 14))) (.app 9 (.b1 .len (.pv 14))) .skip)
      (.seq (.ite (.cmp .ne (.call 15 (.cons (.var 2) (.cons (.var 10) .nil))) (.b1 .len (.pv 14))) (.ret (.cst (.bool false))) .skip)
      (.ite (.cmp .ne (.cmp .eq (.call 15 (.cons (.var 2) (.cons (.var 10) .nil))) (.cst (.int 1))) (.cmp .eq (.sub (.pv 4) (.sub (.pv 3) (.pv 10))) (.sub (.pv 3) (.sub (.pv 4) (.pv 10))))) (.ret (.cst (.bool false))) .skip)))))))
def F_law : Fn := ⟨⟨#[108, 97, 119]⟩, [false], 17, (.seq (.asg (.v 1) (.call 16 (.cons (.var 0) .nil)))
      (.seq (.asg (.v 2) (.call 20 (.cons (.var 0) (.cons (.pv 1) (.cons (.cst (.int 7)) .nil)))))
      (.seq (.asg (.tc (.tc (.v 3) (.tc (.v 4) .t0)) (.tc (.v 5) .t0)) (.tup (.cons (.var 2) (.cons (.b1 .len (.sub (.pv 2) (.cst (.int 0)))) .nil))))
      (.seq (.par (.tc (.v 6) (.tc (.v 7) .t0)) (.cons (.call 21 (.cons (.var 3) .nil)) (.cons (.call 21 (.cons (.var 4) .nil)) .nil)))
      (.seq (.par (.tc (.v 8) (.tc (.v 9) .t0)) (.cons (.lst .nil) (.cons (.lst .nil) .nil)))
      (.seq W_law_2
      (.seq (.ite (.or (.cons (.cmp .ne (.call 13 (.cons (.var 2) .nil)) (.b1 .tuple (.b1 .sorted (.pv 9)))) (.cons (.cmp .ne (.b1 .sum (.pv 9)) (.pv 5)) (.cons (.cmp .ne (.bin .mod (.bin .sub (.pv 5) (.b1 .len (.pv 9))) (.cst (.int 2))) (.cst (.int 0))) .nil)))) (.ret (.cst (.bool false))) .skip)
      (.seq (.asg (.v 11) (.call 18 (.cons (.var 0) (.cons (.pv 1) (.cons (.var 5) .nil)))))
      (.seq (.asg (.v 12) (.call 7 (.cons (.var 2) (.cons (.var 11) .nil))))
      (.seq (.ite (.or (.cons (.cmp .ne C_law_2 (.pv 8)) (.cons (.cmp .ne (.call 13 (.cons (.var 12) .nil)) (.call 13 (.cons (.var 2) .nil))) .nil))) (.ret (.cst (.bool false))) .skip)
      (.seq (.ite (.or (.cons (.cmp .ne (.call 13 (.cons (.tup (.cons (.var 4) (.cons (.var 3) .nil))) .nil)) (.call 13 (.cons (.var 2) .nil))) (.cons (.cmp .ne (.call 13 (.cons (.tup (.cons (.var 6) (.cons (.var 7) .nil))) .nil)) (.call 13 (.cons (.var 2) .nil))) .nil))) (.ret (.cst (.bool false))) .skip)
      (.seq (.asg (.v 13) (.tup (.cons (.b1 .tuple C_law_1) (.cons (.b1 .tuple (.rngl false (.cons (.var 5) .nil))) .nil))))
      (.ret (.and (.cons (.cmp .eq (.call 13 (.cons (.var 13) .nil)) (.bin .mul (.tup (.cons (.cst (.int 1)) .nil)) (.pv 5))) (.cons (.cmp .eq (.call 13 (.cons (.tup (.cons (.sub (.pv 13) (.cst (.int 0))) (.cons (.sub (.pv 13) (.cst (.int 0))) .nil))) .nil)) (.bin .mul (.tup (.cons (.cst (.int 1)) .nil)) (.pv 5))) .nil)))))))))))))))), none⟩
def P : List Fn := [F_is_between, F_is_exchange, F_walk, F_is_round, F_check_round, F_back, F_with_names, F_renamed, F_ring_from, F_rings_of, F_around, F_found_turns, F_found_corners, F_corners, F_check_square, F_turns, F__law_town, F__law_draw, F__law_order, F__law_hangs, F__law_round, F__law_back, F_law]
theorem io_is_between : ioOf P 0 = [false, false, false] := rfl
theorem at_is_between : P[0]? = some F_is_between := rfl
theorem io_is_exchange : ioOf P 1 = [false, false] := rfl
theorem at_is_exchange : P[1]? = some F_is_exchange := rfl
theorem io_walk : ioOf P 2 = [false, false, false] := rfl
theorem at_walk : P[2]? = some F_walk := rfl
theorem io_is_round : ioOf P 3 = [false] := rfl
theorem at_is_round : P[3]? = some F_is_round := rfl
theorem io_check_round : ioOf P 4 = [false] := rfl
theorem at_check_round : P[4]? = some F_check_round := rfl
theorem io_back : ioOf P 5 = [false] := rfl
theorem at_back : P[5]? = some F_back := rfl
theorem io_with_names : ioOf P 6 = [false, false] := rfl
theorem at_with_names : P[6]? = some F_with_names := rfl
theorem io_renamed : ioOf P 7 = [false, false] := rfl
theorem at_renamed : P[7]? = some F_renamed := rfl
theorem io_ring_from : ioOf P 8 = [false, false] := rfl
theorem at_ring_from : P[8]? = some F_ring_from := rfl
theorem io_rings_of : ioOf P 9 = [false] := rfl
theorem at_rings_of : P[9]? = some F_rings_of := rfl
theorem io_around : ioOf P 10 = [false] := rfl
theorem at_around : P[10]? = some F_around := rfl
theorem io_found_turns : ioOf P 11 = [false] := rfl
theorem at_found_turns : P[11]? = some F_found_turns := rfl
theorem io_found_corners : ioOf P 12 = [false] := rfl
theorem at_found_corners : P[12]? = some F_found_corners := rfl
theorem io_corners : ioOf P 13 = [false] := rfl
theorem at_corners : P[13]? = some F_corners := rfl
theorem io_check_square : ioOf P 14 = [false, false] := rfl
theorem at_check_square : P[14]? = some F_check_square := rfl
theorem io_turns : ioOf P 15 = [false, false] := rfl
theorem at_turns : P[15]? = some F_turns := rfl
theorem io__law_town : ioOf P 16 = [false] := rfl
theorem at__law_town : P[16]? = some F__law_town := rfl
theorem io__law_draw : ioOf P 17 = [false, true, false] := rfl
theorem at__law_draw : P[17]? = some F__law_draw := rfl
theorem io__law_order : ioOf P 18 = [false, true, false] := rfl
theorem at__law_order : P[18]? = some F__law_order := rfl
theorem io__law_hangs : ioOf P 19 = [false, false] := rfl
theorem at__law_hangs : P[19]? = some F__law_hangs := rfl
theorem io__law_round : ioOf P 20 = [false, true, false] := rfl
theorem at__law_round : P[20]? = some F__law_round := rfl
theorem io__law_back : ioOf P 21 = [false] := rfl
theorem at__law_back : P[21]? = some F__law_back := rfl
theorem io_law : ioOf P 22 = [false] := rfl
theorem at_law : P[22]? = some F_law := rfl
end Law_shearsquares_k12_corners

namespace Law_shearsquares_k12_corners
open PySem (PyData)
open Dat Plain
theorem r_between (k : Nat) (v lo hi : Int) : run P (k + 1) 0 [.int v, .int lo, .int hi] = .ok (.f (.bool (decide (lo ≤ v) && decide (v ≤ hi))), []) := by
  rw [run_at at_is_between rfl rfl]
  by_cases h : lo ≤ v <;> by_cases h' : v ≤ hi <;> simp only [bodyR, F_is_between, h, h', q_ev_0, q_ev_1, q_ev_2, q_ev_3, q_ev_4, q_ev_5, q_ev_6, q_ev_7, q_ev_8, q_ev_9, q_ev_10, q_ev_11, q_ev_12, q_ev_13, q_ev_14, q_ev_15, q_ev_16, q_ev_17, q_ev_18, q_ev_19, q_ev_20, q_ev_21, q_ev_22, q_ev_23, q_ev_24, q_ev_25, q_ev_26, q_ev_27, q_ev_29, q_ev_30, q_evC_0, q_evC_1, q_evAnd_0, q_evAnd_1, q_evOr_0, q_evOr_1, q_evO_0, q_evO_1, q_evA_0, q_evA_1, q_evD_0, q_evD_1, q_evI_0, q_evI_1, q_evI_2, q_evI_3, q_evI_4, q_exec_0, q_exec_1, q_exec_2, q_exec_3, q_exec_4, q_exec_5, q_exec_6, q_exec_7, q_exec_8, q_exec_9, q_exec_10, q_exec_11, q_exec_12, q_exec_13, q_exec_14, q_tst, bd_ok, bq_ok, R.bind, rdv, mvv, pkv, put, chg, Vl.fz, Vl.res, B.dat, asBool, Dat.asInt?, handed, Dat.backTo, refsOf, noDup, okO, newIo, newCount, startG, outsG, stP, stQ, stVs, x_items1, x_items2, items_tp, items_ls, x_ty1, x_ty2, x_ty3, isTy_tp, x_len1, x_len2, x_len3, len_tp, len_ls, x_tup1, x_tup2, tuple_ls, x_lst1, x_lst2, list_ls, list_tp, x_neg, x_add, x_sub, x_lt, x_le, x_gt, x_ge, x_eqI, x_neI, x_eqB, x_neB, x_eqT, x_neT, x_neL, x_neL0, x_notin, x_memL, x_frz1, x_frz2, frz_tp, frz_ls, x_isL, isLst_ls, x_seq1, x_slot, x_slotf, x_sloto,
  List.getElem?_cons_zero, List.getElem?_cons_succ, List.set_cons_zero, List.set_cons_succ, List.zip_cons_cons, List.zip_nil_right, List.zip_nil_left, List.map_cons, List.map_nil, List.nil_append, List.cons_append, List.length_cons, List.length_nil, List.replicate, if_true, if_false, ite_true, ite_false, Bool.not_true, Bool.not_false, Bool.not_eq_true', Bool.true_or, Bool.false_or, Bool.or_true, Bool.or_false, Bool.true_and, Bool.false_and, Bool.and_true, Bool.and_false, reduceCtorEq, Nat.reduceSub, Nat.reduceAdd, Nat.zero_add, Nat.reduceLeDiff, List.contains_nil, List.contains_cons, decide_true, decide_false, Bool.false_eq_true, and_self, and_true, true_and, ↓reduceIte, io_is_between, io_is_exchange, io_walk, io_is_round, io_check_round, io_back, io_with_names, io_renamed, io_ring_from, io_rings_of, io_around, io_found_turns, io_found_corners, io_corners, io_check_square, io_turns, io__law_town, io__law_draw, io__law_order, io__law_hangs, io__law_round, io__law_back, io_law]
theorem c_exch (k n : Nat) (p : List Nat) (hl : p.length ≤ 1000) (hp : ∀ x ∈ p, x < n) : ev (ioOf P) (run P (k + 1)) C_is_exchange_1 [some (.frz (tp p)), some (.frz (.int (n : Int))), none] = .ok (.o (.list (p.map fun _ => .bool true)), [some (.frz (tp p)), some (.frz (.int (n : Int))), none]) := by
  unfold C_is_exchange_1
  refine ev_lcv (fun i : Nat => .int (i : Int)) (fun _ => .bool true) (by simp only [items_tp, q_ev_0, q_ev_1, q_ev_2, q_ev_3, q_ev_4, q_ev_5, q_ev_6, q_ev_7, q_ev_8, q_ev_9, q_ev_10, q_ev_11, q_ev_12, q_ev_13, q_ev_14, q_ev_15, q_ev_16, q_ev_17, q_ev_18, q_ev_19, q_ev_20, q_ev_21, q_ev_22, q_ev_23, q_ev_24, q_ev_25, q_ev_26, q_ev_27, q_ev_29, q_ev_30, q_evC_0, q_evC_1, q_evAnd_0, q_evAnd_1, q_evOr_0, q_evOr_1, q_evO_0, q_evO_1, q_evA_0, q_evA_1, q_evD_0, q_evD_1, q_evI_0, q_evI_1, q_evI_2, q_evI_3, q_evI_4, q_exec_0, q_exec_1, q_exec_2, q_exec_3, q_exec_4, q_exec_5, q_exec_6, q_exec_7, q_exec_8, q_exec_9, q_exec_10, q_exec_11, q_exec_12, q_exec_13, q_exec_14, q_tst, bd_ok, bq_ok, R.bind, rdv, mvv, pkv, put, chg, Vl.fz, Vl.res, B.dat, asBool, Dat.asInt?, handed, Dat.backTo, refsOf, noDup, okO, newIo, newCount, startG, outsG, stP, stQ, stVs, x_items1, x_items2, items_tp, items_ls, x_ty1, x_ty2, x_ty3, isTy_tp, x_len1, x_len2, x_len3, len_tp, len_ls, x_tup1, x_tup2, tuple_ls, x_lst1, x_lst2, list_ls, list_tp, x_neg, x_add, x_sub, x_lt, x_le, x_gt, x_ge, x_eqI, x_neI, x_eqB, x_neB, x_eqT, x_neT, x_neL, x_neL0, x_notin, x_memL, x_frz1, x_frz2, frz_tp, frz_ls, x_isL, isLst_ls, x_seq1, x_slot, x_slotf, x_sloto,
  List.getElem?_cons_zero, List.getElem?_cons_succ, List.set_cons_zero, List.set_cons_succ, List.zip_cons_cons, List.zip_nil_right, List.zip_nil_left, List.map_cons, List.map_nil, List.nil_append, List.cons_append, List.length_cons, List.length_nil, List.replicate, if_true, if_false, ite_true, ite_false, Bool.not_true, Bool.not_false, Bool.not_eq_true', Bool.true_or, Bool.false_or, Bool.or_true, Bool.or_false, Bool.true_and, Bool.false_and, Bool.and_true, Bool.and_false, reduceCtorEq, Nat.reduceSub, Nat.reduceAdd, Nat.zero_add, Nat.reduceLeDiff, List.contains_nil, List.contains_cons, decide_true, decide_false, Bool.false_eq_true, and_self, and_true, true_and, ↓reduceIte, io_is_between, io_is_exchange, io_walk, io_is_round, io_check_round, io_back, io_with_names, io_renamed, io_ring_from, io_rings_of, io_around, io_found_turns, io_found_corners, io_corners, io_check_square, io_turns, io__law_town, io__law_draw, io__law_order, io__law_hangs, io__law_round, io__law_back, io_law]) hl (by simp) (by simp) fun x hx => ⟨.f (.bool true), ?_, rfl⟩
  have h1 : decide ((0 : Int) ≤ (x : Int)) = true := decide_eq_true (by omega)
  have h2 : decide ((x : Int) ≤ (n : Int) - 1) = true := decide_eq_true (by have := hp x hx; omega)
  simp only [r_between, h1, h2, q_ev_0, q_ev_1, q_ev_2, q_ev_3, q_ev_4, q_ev_5, q_ev_6, q_ev_7, q_ev_8, q_ev_9, q_ev_10, q_ev_11, q_ev_12, q_ev_13, q_ev_14, q_ev_15, q_ev_16, q_ev_17, q_ev_18, q_ev_19, q_ev_20, q_ev_21, q_ev_22, q_ev_23, q_ev_24, q_ev_25, q_ev_26, q_ev_27, q_ev_29, q_ev_30, q_evC_0, q_evC_1, q_evAnd_0, q_evAnd_1, q_evOr_0, q_evOr_1, q_evO_0, q_evO_1, q_evA_0, q_evA_1, q_evD_0, q_evD_1, q_evI_0, q_evI_1, q_evI_2, q_evI_3, q_evI_4, q_exec_0, q_exec_1, q_exec_2, q_exec_3, q_exec_4, q_exec_5, q_exec_6, q_exec_7, q_exec_8, q_exec_9, q_exec_10, q_exec_11, q_exec_12, q_exec_13, q_exec_14, q_tst, bd_ok, bq_ok, R.bind, rdv, mvv, pkv, put, chg, Vl.fz, Vl.res, B.dat, asBool, Dat.asInt?, handed, Dat.backTo, refsOf, noDup, okO, newIo, newCount, startG, outsG, stP, stQ, stVs, x_items1, x_items2, items_tp, items_ls, x_ty1, x_ty2, x_ty3, isTy_tp, x_len1, x_len2, x_len3, len_tp, len_ls, x_tup1, x_tup2, tuple_ls, x_lst1, x_lst2, list_ls, list_tp, x_neg, x_add, x_sub, x_lt, x_le, x_gt, x_ge, x_eqI, x_neI, x_eqB, x_neB, x_eqT, x_neT, x_neL, x_neL0, x_notin, x_memL, x_frz1, x_frz2, frz_tp, frz_ls, x_isL, isLst_ls, x_seq1, x_slot, x_slotf, x_sloto,
  List.getElem?_cons_zero, List.getElem?_cons_succ, List.set_cons_zero, List.set_cons_succ, List.zip_cons_cons, List.zip_nil_right, List.zip_nil_left, List.map_cons, List.map_nil, List.nil_append, List.cons_append, List.length_cons, List.length_nil, List.replicate, if_true, if_false, ite_true, ite_false, Bool.not_true, Bool.not_false, Bool.not_eq_true', Bool.true_or, Bool.false_or, Bool.or_true, Bool.or_false, Bool.true_and, Bool.false_and, Bool.and_true, Bool.and_false, reduceCtorEq, Nat.reduceSub, Nat.reduceAdd, Nat.zero_add, Nat.reduceLeDiff, List.contains_nil, List.contains_cons, decide_true, decide_false, Bool.false_eq_true, and_self, and_true, true_and, ↓reduceIte, io_is_between, io_is_exchange, io_walk, io_is_round, io_check_round, io_back, io_with_names, io_renamed, io_ring_from, io_rings_of, io_around, io_found_turns, io_found_corners, io_corners, io_check_square, io_turns, io__law_town, io__law_draw, io__law_order, io__law_hangs, io__law_round, io__law_back, io_law]
theorem r_exch (k n : Nat) (p : List Nat) (hp : IsP n p) (h7 : n ≤ 7) : run P (k + 2) 1 [tp p, .int (n : Int)] = .ok (.f (.bool true), []) := by
  rw [run_at at_is_exchange rfl rfl]
  have hl : p.length ≤ 1000 := by have := hp.len; omega
  have e : decide ((n : Int) = (n : Int)) = true := decide_eq_true rfl
  simp only [bodyR, F_is_exchange, isTy_tp, len_tp, hp.len, c_exch k n p hl hp.lt, all_true, lenset_tp p hp.nd (by omega), eqOk_int, eqD, e, q_ev_0, q_ev_1, q_ev_2, q_ev_3, q_ev_4, q_ev_5, q_ev_6, q_ev_7, q_ev_8, q_ev_9, q_ev_10, q_ev_11, q_ev_12, q_ev_13, q_ev_14, q_ev_15, q_ev_16, q_ev_17, q_ev_18, q_ev_19, q_ev_20, q_ev_21, q_ev_22, q_ev_23, q_ev_24, q_ev_25, q_ev_26, q_ev_27, q_ev_29, q_ev_30, q_evC_0, q_evC_1, q_evAnd_0, q_evAnd_1, q_evOr_0, q_evOr_1, q_evO_0, q_evO_1, q_evA_0, q_evA_1, q_evD_0, q_evD_1, q_evI_0, q_evI_1, q_evI_2, q_evI_3, q_evI_4, q_exec_0, q_exec_1, q_exec_2, q_exec_3, q_exec_4, q_exec_5, q_exec_6, q_exec_7, q_exec_8, q_exec_9, q_exec_10, q_exec_11, q_exec_12, q_exec_13, q_exec_14, q_tst, bd_ok, bq_ok, R.bind, rdv, mvv, pkv, put, chg, Vl.fz, Vl.res, B.dat, asBool, Dat.asInt?, handed, Dat.backTo, refsOf, noDup, okO, newIo, newCount, startG, outsG, stP, stQ, stVs, x_items1, x_items2, items_tp, items_ls, x_ty1, x_ty2, x_ty3, isTy_tp, x_len1, x_len2, x_len3, len_tp, len_ls, x_tup1, x_tup2, tuple_ls, x_lst1, x_lst2, list_ls, list_tp, x_neg, x_add, x_sub, x_lt, x_le, x_gt, x_ge, x_eqI, x_neI, x_eqB, x_neB, x_eqT, x_neT, x_neL, x_neL0, x_notin, x_memL, x_frz1, x_frz2, frz_tp, frz_ls, x_isL, isLst_ls, x_seq1, x_slot, x_slotf, x_sloto,
  List.getElem?_cons_zero, List.getElem?_cons_succ, List.set_cons_zero, List.set_cons_succ, List.zip_cons_cons, List.zip_nil_right, List.zip_nil_left, List.map_cons, List.map_nil, List.nil_append, List.cons_append, List.length_cons, List.length_nil, List.replicate, if_true, if_false, ite_true, ite_false, Bool.not_true, Bool.not_false, Bool.not_eq_true', Bool.true_or, Bool.false_or, Bool.or_true, Bool.or_false, Bool.true_and, Bool.false_and, Bool.and_true, Bool.and_false, reduceCtorEq, Nat.reduceSub, Nat.reduceAdd, Nat.zero_add, Nat.reduceLeDiff, List.contains_nil, List.contains_cons, decide_true, decide_false, Bool.false_eq_true, and_self, and_true, true_and, ↓reduceIte, io_is_between, io_is_exchange, io_walk, io_is_round, io_check_round, io_back, io_with_names, io_renamed, io_ring_from, io_rings_of, io_around, io_found_turns, io_found_corners, io_corners, io_check_square, io_turns, io__law_town, io__law_draw, io__law_order, io__law_hangs, io__law_round, io__law_back, io_law]
theorem w_walk1 (io : Io) (cf : Caller) (r u f : List Nat) (pl : Nat) (j : Option B) (hj : nio j) (hf : f.length ≤ 100) (hp : pl < f.length) (hr : at' f pl < r.length) (hu : at' f pl < u.length) :
    Dat.exec io cf W_walk_1 [some (.frz (tp r)), some (.frz (tp u)), some (.frz (.int 0)), some (.own (ls f)), some (.frz (.int (pl : Int))), j] = .ok (.nx [some (.frz (tp r)), some (.frz (tp u)), some (.frz (.int 0)), some (.own (ls (add1 (at' u (at' f pl)) (add1 (at' r (at' f pl)) f)))), some (.frz (.int (pl : Int))), some (.frz (.int ((at' u (at' f pl) : Nat) : Int)))]) := by
  have hl : f.length ≤ 1000 := by omega
  have hl2 : (f ++ [at' r (at' f pl)]).length ≤ 1000 := by simp; omega
  unfold add1
  rcases nio_cases hj with rfl | ⟨d, rfl⟩ | ⟨d, rfl⟩ <;> by_cases h1 : at' r (at' f pl) ∈ f
  all_goals simp only [W_walk_1, ix_ls f pl hp, ix_tp r _ hr, ix_tp u _ hu, h1, forF, R.quiet, app_ls f _ hl, q_ev_0, q_ev_1, q_ev_2, q_ev_3, q_ev_4, q_ev_5, q_ev_6, q_ev_7, q_ev_8, q_ev_9, q_ev_10, q_ev_11, q_ev_12, q_ev_13, q_ev_14, q_ev_15, q_ev_16, q_ev_17, q_ev_18, q_ev_19, q_ev_20, q_ev_21, q_ev_22, q_ev_23, q_ev_24, q_ev_25, q_ev_26, q_ev_27, q_ev_29, q_ev_30, q_evC_0, q_evC_1, q_evAnd_0, q_evAnd_1, q_evOr_0, q_evOr_1, q_evO_0, q_evO_1, q_evA_0, q_evA_1, q_evD_0, q_evD_1, q_evI_0, q_evI_1, q_evI_2, q_evI_3, q_evI_4, q_exec_0, q_exec_1, q_exec_2, q_exec_3, q_exec_4, q_exec_5, q_exec_6, q_exec_7, q_exec_8, q_exec_9, q_exec_10, q_exec_11, q_exec_12, q_exec_13, q_exec_14, q_tst, bd_ok, bq_ok, R.bind, rdv, mvv, pkv, put, chg, Vl.fz, Vl.res, B.dat, asBool, Dat.asInt?, handed, Dat.backTo, refsOf, noDup, okO, newIo, newCount, startG, outsG, stP, stQ, stVs, x_items1, x_items2, items_tp, items_ls, x_ty1, x_ty2, x_ty3, isTy_tp, x_len1, x_len2, x_len3, len_tp, len_ls, x_tup1, x_tup2, tuple_ls, x_lst1, x_lst2, list_ls, list_tp, x_neg, x_add, x_sub, x_lt, x_le, x_gt, x_ge, x_eqI, x_neI, x_eqB, x_neB, x_eqT, x_neT, x_neL, x_neL0, x_notin, x_memL, x_frz1, x_frz2, frz_tp, frz_ls, x_isL, isLst_ls, x_seq1, x_slot, x_slotf, x_sloto,
  List.getElem?_cons_zero, List.getElem?_cons_succ, List.set_cons_zero, List.set_cons_succ, List.zip_cons_cons, List.zip_nil_right, List.zip_nil_left, List.map_cons, List.map_nil, List.nil_append, List.cons_append, List.length_cons, List.length_nil, List.replicate, if_true, if_false, ite_true, ite_false, Bool.not_true, Bool.not_false, Bool.not_eq_true', Bool.true_or, Bool.false_or, Bool.or_true, Bool.or_false, Bool.true_and, Bool.false_and, Bool.and_true, Bool.and_false, reduceCtorEq, Nat.reduceSub, Nat.reduceAdd, Nat.zero_add, Nat.reduceLeDiff, List.contains_nil, List.contains_cons, decide_true, decide_false, Bool.false_eq_true, and_self, and_true, true_and, ↓reduceIte, io_is_between, io_is_exchange, io_walk, io_is_round, io_check_round, io_back, io_with_names, io_renamed, io_ring_from, io_rings_of, io_around, io_found_turns, io_found_corners, io_corners, io_check_square, io_turns, io__law_town, io__law_draw, io__law_order, io__law_hangs, io__law_round, io__law_back, io_law]
  any_goals (by_cases h2 : at' u (at' f pl) ∈ f <;> simp only [h2, app_ls f _ hl, q_ev_0, q_ev_1, q_ev_2, q_ev_3, q_ev_4, q_ev_5, q_ev_6, q_ev_7, q_ev_8, q_ev_9, q_ev_10, q_ev_11, q_ev_12, q_ev_13, q_ev_14, q_ev_15, q_ev_16, q_ev_17, q_ev_18, q_ev_19, q_ev_20, q_ev_21, q_ev_22, q_ev_23, q_ev_24, q_ev_25, q_ev_26, q_ev_27, q_ev_29, q_ev_30, q_evC_0, q_evC_1, q_evAnd_0, q_evAnd_1, q_evOr_0, q_evOr_1, q_evO_0, q_evO_1, q_evA_0, q_evA_1, q_evD_0, q_evD_1, q_evI_0, q_evI_1, q_evI_2, q_evI_3, q_evI_4, q_exec_0, q_exec_1, q_exec_2, q_exec_3, q_exec_4, q_exec_5, q_exec_6, q_exec_7, q_exec_8, q_exec_9, q_exec_10, q_exec_11, q_exec_12, q_exec_13, q_exec_14, q_tst, bd_ok, bq_ok, R.bind, rdv, mvv, pkv, put, chg, Vl.fz, Vl.res, B.dat, asBool, Dat.asInt?, handed, Dat.backTo, refsOf, noDup, okO, newIo, newCount, startG, outsG, stP, stQ, stVs, x_items1, x_items2, items_tp, items_ls, x_ty1, x_ty2, x_ty3, isTy_tp, x_len1, x_len2, x_len3, len_tp, len_ls, x_tup1, x_tup2, tuple_ls, x_lst1, x_lst2, list_ls, list_tp, x_neg, x_add, x_sub, x_lt, x_le, x_gt, x_ge, x_eqI, x_neI, x_eqB, x_neB, x_eqT, x_neT, x_neL, x_neL0, x_notin, x_memL, x_frz1, x_frz2, frz_tp, frz_ls, x_isL, isLst_ls, x_seq1, x_slot, x_slotf, x_sloto,
  List.getElem?_cons_zero, List.getElem?_cons_succ, List.set_cons_zero, List.set_cons_succ, List.zip_cons_cons, List.zip_nil_right, List.zip_nil_left, List.map_cons, List.map_nil, List.nil_append, List.cons_append, List.length_cons, List.length_nil, List.replicate, if_true, if_false, ite_true, ite_false, Bool.not_true, Bool.not_false, Bool.not_eq_true', Bool.true_or, Bool.false_or, Bool.or_true, Bool.or_false, Bool.true_and, Bool.false_and, Bool.and_true, Bool.and_false, reduceCtorEq, Nat.reduceSub, Nat.reduceAdd, Nat.zero_add, Nat.reduceLeDiff, List.contains_nil, List.contains_cons, decide_true, decide_false, Bool.false_eq_true, and_self, and_true, true_and, ↓reduceIte, io_is_between, io_is_exchange, io_walk, io_is_round, io_check_round, io_back, io_with_names, io_renamed, io_ring_from, io_rings_of, io_around, io_found_turns, io_found_corners, io_corners, io_check_square, io_turns, io__law_town, io__law_draw, io__law_order, io__law_hangs, io__law_round, io__law_back, io_law] <;> done)
  all_goals (by_cases h2 : at' u (at' f pl) ∈ f ++ [at' r (at' f pl)] <;> simp only [h2, app_ls _ _ hl2, q_ev_0, q_ev_1, q_ev_2, q_ev_3, q_ev_4, q_ev_5, q_ev_6, q_ev_7, q_ev_8, q_ev_9, q_ev_10, q_ev_11, q_ev_12, q_ev_13, q_ev_14, q_ev_15, q_ev_16, q_ev_17, q_ev_18, q_ev_19, q_ev_20, q_ev_21, q_ev_22, q_ev_23, q_ev_24, q_ev_25, q_ev_26, q_ev_27, q_ev_29, q_ev_30, q_evC_0, q_evC_1, q_evAnd_0, q_evAnd_1, q_evOr_0, q_evOr_1, q_evO_0, q_evO_1, q_evA_0, q_evA_1, q_evD_0, q_evD_1, q_evI_0, q_evI_1, q_evI_2, q_evI_3, q_evI_4, q_exec_0, q_exec_1, q_exec_2, q_exec_3, q_exec_4, q_exec_5, q_exec_6, q_exec_7, q_exec_8, q_exec_9, q_exec_10, q_exec_11, q_exec_12, q_exec_13, q_exec_14, q_tst, bd_ok, bq_ok, R.bind, rdv, mvv, pkv, put, chg, Vl.fz, Vl.res, B.dat, asBool, Dat.asInt?, handed, Dat.backTo, refsOf, noDup, okO, newIo, newCount, startG, outsG, stP, stQ, stVs, x_items1, x_items2, items_tp, items_ls, x_ty1, x_ty2, x_ty3, isTy_tp, x_len1, x_len2, x_len3, len_tp, len_ls, x_tup1, x_tup2, tuple_ls, x_lst1, x_lst2, list_ls, list_tp, x_neg, x_add, x_sub, x_lt, x_le, x_gt, x_ge, x_eqI, x_neI, x_eqB, x_neB, x_eqT, x_neT, x_neL, x_neL0, x_notin, x_memL, x_frz1, x_frz2, frz_tp, frz_ls, x_isL, isLst_ls, x_seq1, x_slot, x_slotf, x_sloto,
  List.getElem?_cons_zero, List.getElem?_cons_succ, List.set_cons_zero, List.set_cons_succ, List.zip_cons_cons, List.zip_nil_right, List.zip_nil_left, List.map_cons, List.map_nil, List.nil_append, List.cons_append, List.length_cons, List.length_nil, List.replicate, if_true, if_false, ite_true, ite_false, Bool.not_true, Bool.not_false, Bool.not_eq_true', Bool.true_or, Bool.false_or, Bool.or_true, Bool.or_false, Bool.true_and, Bool.false_and, Bool.and_true, Bool.and_false, reduceCtorEq, Nat.reduceSub, Nat.reduceAdd, Nat.zero_add, Nat.reduceLeDiff, List.contains_nil, List.contains_cons, decide_true, decide_false, Bool.false_eq_true, and_self, and_true, true_and, ↓reduceIte, io_is_between, io_is_exchange, io_walk, io_is_round, io_check_round, io_back, io_with_names, io_renamed, io_ring_from, io_rings_of, io_around, io_found_turns, io_found_corners, io_corners, io_check_square, io_turns, io__law_town, io__law_draw, io__law_order, io__law_hangs, io__law_round, io__law_back, io_law])
theorem mem_add1 {x y : Nat} {f : List Nat} : y ∈ add1 x f ↔ y = x ∨ y ∈ f := by
  unfold add1
  by_cases h : x ∈ f
  · simp only [h, if_true]
    exact ⟨.inr, fun z => by rcases z with rfl | z; exact h; exact z⟩
  · simp only [h, if_false, List.mem_append, List.mem_singleton]
    exact ⟨fun z => z.symm, fun z => z.symm⟩
theorem nd_add1 {x : Nat} {f : List Nat} (h : f.Nodup) : (add1 x f).Nodup := by
  unfold add1
  by_cases e : x ∈ f
  · simpa [e] using h
  · simp only [e, if_false]
    rw [List.nodup_append]
    refine ⟨h, by simp, fun a ha b hb q => ?_⟩
    simp at hb
    subst hb q
    exact e ha
theorem at_add1 {x i : Nat} {f : List Nat} (h : i < f.length) : at' (add1 x f) i = at' f i := by
  unfold add1
  by_cases e : x ∈ f
  · simp [e]
  · simp only [e, if_false]
    simp [at', List.getD, List.getElem?_append_left h]
theorem len_add1 {x : Nat} {f : List Nat} : f.length ≤ (add1 x f).length := by
  unfold add1
  by_cases e : x ∈ f <;> simp [e]
/-- hangs together -/
def conn (n : Nat) (r u : List Nat) : Prop := ∀ S : Nat → Prop, S 0 → (∀ x, x < n → S x → S (at' r x) ∧ S (at' u x)) → ∀ x, x < n → S x
theorem w_walk2 (io : Io) (cf : Caller) {n : Nat} {r u : List Nat} (h1 : 1 ≤ n) (h7 : n ≤ 7) (hr : IsP n r) (hu : IsP n u) (cn : conn n r u) :
    ∃ f pl j, Dat.exec io cf W_walk_2 [some (.frz (tp r)), some (.frz (tp u)), some (.frz (.int 0)), some (.own (ls [0])), some (.frz (.int 0)), none] = .ok (.nx [some (.frz (tp r)), some (.frz (tp u)), some (.frz (.int 0)), some (.own (ls f)), some (.frz (.int ((pl : Nat) : Int))), j]) ∧ f.length = n := by
  obtain ⟨g', e, f, pl, j, hg, hj, nd, lt, _, hpl, cl, hm⟩ := whl_inv (io := io) (cf := cf) (W := W_walk_2) rfl
    (fun m g => ∃ (f : List Nat) (pl : Nat) (j : Option B), g = [some (.frz (tp r)), some (.frz (tp u)), some (.frz (.int 0)), some (.own (ls f)), some (.frz (.int (pl : Int))), j] ∧ nio j ∧ f.Nodup ∧ (∀ x ∈ f, x < n) ∧ 0 ∈ f ∧ pl ≤ f.length ∧ (∀ i, i < pl → at' r (at' f i) ∈ f ∧ at' u (at' f i) ∈ f) ∧ m = n - pl)
    (fun m g ⟨f, pl, j, hg, hj, nd, lt, h0, hpl, cl, hm⟩ => by
      subst hg
      have fl : f.length ≤ n := nd_le nd lt
      by_cases hp : pl < f.length
      · right
        have d1 : decide ((pl : Int) < (f.length : Int)) = true := decide_eq_true (by omega)
        have xl : at' f pl < n := lt _ (by simp [at', List.getD, hp])
        refine ⟨n - (pl + 1), _, _, by omega, by simp only [d1, q_ev_0, q_ev_1, q_ev_2, q_ev_3, q_ev_4, q_ev_5, q_ev_6, q_ev_7, q_ev_8, q_ev_9, q_ev_10, q_ev_11, q_ev_12, q_ev_13, q_ev_14, q_ev_15, q_ev_16, q_ev_17, q_ev_18, q_ev_19, q_ev_20, q_ev_21, q_ev_22, q_ev_23, q_ev_24, q_ev_25, q_ev_26, q_ev_27, q_ev_29, q_ev_30, q_evC_0, q_evC_1, q_evAnd_0, q_evAnd_1, q_evOr_0, q_evOr_1, q_evO_0, q_evO_1, q_evA_0, q_evA_1, q_evD_0, q_evD_1, q_evI_0, q_evI_1, q_evI_2, q_evI_3, q_evI_4, q_exec_0, q_exec_1, q_exec_2, q_exec_3, q_exec_4, q_exec_5, q_exec_6, q_exec_7, q_exec_8, q_exec_9, q_exec_10, q_exec_11, q_exec_12, q_exec_13, q_exec_14, q_tst, bd_ok, bq_ok, R.bind, rdv, mvv, pkv, put, chg, Vl.fz, Vl.res, B.dat, asBool, Dat.asInt?, handed, Dat.backTo, refsOf, noDup, okO, newIo, newCount, startG, outsG, stP, stQ, stVs, x_items1, x_items2, items_tp, items_ls, x_ty1, x_ty2, x_ty3, isTy_tp, x_len1, x_len2, x_len3, len_tp, len_ls, x_tup1, x_tup2, tuple_ls, x_lst1, x_lst2, list_ls, list_tp, x_neg, x_add, x_sub, x_lt, x_le, x_gt, x_ge, x_eqI, x_neI, x_eqB, x_neB, x_eqT, x_neT, x_neL, x_neL0, x_notin, x_memL, x_frz1, x_frz2, frz_tp, frz_ls, x_isL, isLst_ls, x_seq1, x_slot, x_slotf, x_sloto,
  List.getElem?_cons_zero, List.getElem?_cons_succ, List.set_cons_zero, List.set_cons_succ, List.zip_cons_cons, List.zip_nil_right, List.zip_nil_left, List.map_cons, List.map_nil, List.nil_append, List.cons_append, List.length_cons, List.length_nil, List.replicate, if_true, if_false, ite_true, ite_false, Bool.not_true, Bool.not_false, Bool.not_eq_true', Bool.true_or, Bool.false_or, Bool.or_true, Bool.or_false, Bool.true_and, Bool.false_and, Bool.and_true, Bool.and_false, reduceCtorEq, Nat.reduceSub, Nat.reduceAdd, Nat.zero_add, Nat.reduceLeDiff, List.contains_nil, List.contains_cons, decide_true, decide_false, Bool.false_eq_true, and_self, and_true, true_and, ↓reduceIte, io_is_between, io_is_exchange, io_walk, io_is_round, io_check_round, io_back, io_with_names, io_renamed, io_ring_from, io_rings_of, io_around, io_found_turns, io_found_corners, io_corners, io_check_square, io_turns, io__law_town, io__law_draw, io__law_order, io__law_hangs, io__law_round, io__law_back, io_law]; rfl, ?_, add1 (at' u (at' f pl)) (add1 (at' r (at' f pl)) f), pl + 1, some (.frz (.int ((at' u (at' f pl) : Nat) : Int))), rfl, nio_f _, nd_add1 (nd_add1 nd), ?_, ?_, ?_, ?_, rfl⟩
        · have e := w_walk1 io cf r u f pl j hj (by omega) hp (by rw [hr.len]; exact xl) (by rw [hu.len]; exact xl)
          simp only [e, q_ev_0, q_ev_1, q_ev_2, q_ev_3, q_ev_4, q_ev_5, q_ev_6, q_ev_7, q_ev_8, q_ev_9, q_ev_10, q_ev_11, q_ev_12, q_ev_13, q_ev_14, q_ev_15, q_ev_16, q_ev_17, q_ev_18, q_ev_19, q_ev_20, q_ev_21, q_ev_22, q_ev_23, q_ev_24, q_ev_25, q_ev_26, q_ev_27, q_ev_29, q_ev_30, q_evC_0, q_evC_1, q_evAnd_0, q_evAnd_1, q_evOr_0, q_evOr_1, q_evO_0, q_evO_1, q_evA_0, q_evA_1, q_evD_0, q_evD_1, q_evI_0, q_evI_1, q_evI_2, q_evI_3, q_evI_4, q_exec_0, q_exec_1, q_exec_2, q_exec_3, q_exec_4, q_exec_5, q_exec_6, q_exec_7, q_exec_8, q_exec_9, q_exec_10, q_exec_11, q_exec_12, q_exec_13, q_exec_14, q_tst, bd_ok, bq_ok, R.bind, rdv, mvv, pkv, put, chg, Vl.fz, Vl.res, B.dat, asBool, Dat.asInt?, handed, Dat.backTo, refsOf, noDup, okO, newIo, newCount, startG, outsG, stP, stQ, stVs, x_items1, x_items2, items_tp, items_ls, x_ty1, x_ty2, x_ty3, isTy_tp, x_len1, x_len2, x_len3, len_tp, len_ls, x_tup1, x_tup2, tuple_ls, x_lst1, x_lst2, list_ls, list_tp, x_neg, x_add, x_sub, x_lt, x_le, x_gt, x_ge, x_eqI, x_neI, x_eqB, x_neB, x_eqT, x_neT, x_neL, x_neL0, x_notin, x_memL, x_frz1, x_frz2, frz_tp, frz_ls, x_isL, isLst_ls, x_seq1, x_slot, x_slotf, x_sloto,
  List.getElem?_cons_zero, List.getElem?_cons_succ, List.set_cons_zero, List.set_cons_succ, List.zip_cons_cons, List.zip_nil_right, List.zip_nil_left, List.map_cons, List.map_nil, List.nil_append, List.cons_append, List.length_cons, List.length_nil, List.replicate, if_true, if_false, ite_true, ite_false, Bool.not_true, Bool.not_false, Bool.not_eq_true', Bool.true_or, Bool.false_or, Bool.or_true, Bool.or_false, Bool.true_and, Bool.false_and, Bool.and_true, Bool.and_false, reduceCtorEq, Nat.reduceSub, Nat.reduceAdd, Nat.zero_add, Nat.reduceLeDiff, List.contains_nil, List.contains_cons, decide_true, decide_false, Bool.false_eq_true, and_self, and_true, true_and, ↓reduceIte, io_is_between, io_is_exchange, io_walk, io_is_round, io_check_round, io_back, io_with_names, io_renamed, io_ring_from, io_rings_of, io_around, io_found_turns, io_found_corners, io_corners, io_check_square, io_turns, io__law_town, io__law_draw, io__law_order, io__law_hangs, io__law_round, io__law_back, io_law]
          rfl
        · intro x hx
          rcases mem_add1.mp hx with rfl | hx
          · exact hu.atlt xl
          · rcases mem_add1.mp hx with rfl | hx
            · exact hr.atlt xl
            · exact lt x hx
        · exact mem_add1.mpr (.inr (mem_add1.mpr (.inr h0)))
        · have a := len_add1 (x := at' u (at' f pl)) (f := add1 (at' r (at' f pl)) f)
          have b := len_add1 (x := at' r (at' f pl)) (f := f)
          omega
        · intro i hi
          have hif : i < f.length := by omega
          have hif2 : i < (add1 (at' r (at' f pl)) f).length := Nat.lt_of_lt_of_le hif len_add1
          rw [at_add1 hif2, at_add1 hif]
          by_cases q : i = pl
          · subst q
            exact ⟨mem_add1.mpr (.inr (mem_add1.mpr (.inl rfl))), mem_add1.mpr (.inl rfl)⟩
          · have := cl i (by omega)
            exact ⟨mem_add1.mpr (.inr (mem_add1.mpr (.inr this.1))), mem_add1.mpr (.inr (mem_add1.mpr (.inr this.2)))⟩
      · left
        have pe : pl = f.length := by omega
        have all := cn (fun x => x ∈ f) h0 fun x _ hx => by
          obtain ⟨i, hi, rfl⟩ := List.mem_iff_getElem.mp hx
          have := cl i (by omega)
          simpa [at', List.getD, hi] using this
        have ge := nd_ge all
        have d1 : decide ((pl : Int) < (f.length : Int)) = false := decide_eq_false (by omega)
        refine ⟨_, by simp only [d1, q_ev_0, q_ev_1, q_ev_2, q_ev_3, q_ev_4, q_ev_5, q_ev_6, q_ev_7, q_ev_8, q_ev_9, q_ev_10, q_ev_11, q_ev_12, q_ev_13, q_ev_14, q_ev_15, q_ev_16, q_ev_17, q_ev_18, q_ev_19, q_ev_20, q_ev_21, q_ev_22, q_ev_23, q_ev_24, q_ev_25, q_ev_26, q_ev_27, q_ev_29, q_ev_30, q_evC_0, q_evC_1, q_evAnd_0, q_evAnd_1, q_evOr_0, q_evOr_1, q_evO_0, q_evO_1, q_evA_0, q_evA_1, q_evD_0, q_evD_1, q_evI_0, q_evI_1, q_evI_2, q_evI_3, q_evI_4, q_exec_0, q_exec_1, q_exec_2, q_exec_3, q_exec_4, q_exec_5, q_exec_6, q_exec_7, q_exec_8, q_exec_9, q_exec_10, q_exec_11, q_exec_12, q_exec_13, q_exec_14, q_tst, bd_ok, bq_ok, R.bind, rdv, mvv, pkv, put, chg, Vl.fz, Vl.res, B.dat, asBool, Dat.asInt?, handed, Dat.backTo, refsOf, noDup, okO, newIo, newCount, startG, outsG, stP, stQ, stVs, x_items1, x_items2, items_tp, items_ls, x_ty1, x_ty2, x_ty3, isTy_tp, x_len1, x_len2, x_len3, len_tp, len_ls, x_tup1, x_tup2, tuple_ls, x_lst1, x_lst2, list_ls, list_tp, x_neg, x_add, x_sub, x_lt, x_le, x_gt, x_ge, x_eqI, x_neI, x_eqB, x_neB, x_eqT, x_neT, x_neL, x_neL0, x_notin, x_memL, x_frz1, x_frz2, frz_tp, frz_ls, x_isL, isLst_ls, x_seq1, x_slot, x_slotf, x_sloto,
  List.getElem?_cons_zero, List.getElem?_cons_succ, List.set_cons_zero, List.set_cons_succ, List.zip_cons_cons, List.zip_nil_right, List.zip_nil_left, List.map_cons, List.map_nil, List.nil_append, List.cons_append, List.length_cons, List.length_nil, List.replicate, if_true, if_false, ite_true, ite_false, Bool.not_true, Bool.not_false, Bool.not_eq_true', Bool.true_or, Bool.false_or, Bool.or_true, Bool.or_false, Bool.true_and, Bool.false_and, Bool.and_true, Bool.and_false, reduceCtorEq, Nat.reduceSub, Nat.reduceAdd, Nat.zero_add, Nat.reduceLeDiff, List.contains_nil, List.contains_cons, decide_true, decide_false, Bool.false_eq_true, and_self, and_true, true_and, ↓reduceIte, io_is_between, io_is_exchange, io_walk, io_is_round, io_check_round, io_back, io_with_names, io_renamed, io_ring_from, io_rings_of, io_around, io_found_turns, io_found_corners, io_corners, io_check_square, io_turns, io__law_town, io__law_draw, io__law_order, io__law_hangs, io__law_round, io__law_back, io_law], ⟨f, pl, j, rfl, hj, nd, lt, h0, hpl, cl, by omega⟩, by omega⟩)
    n _ (by omega) ⟨[0], 0, none, rfl, nio_none, by simp, by simp; omega, by simp, by simp, fun i hi => by omega, rfl⟩
  subst hg
  have fl : f.length ≤ n := nd_le nd lt
  exact ⟨f, pl, j, e, by omega⟩
theorem r_walk (k : Nat) {n : Nat} {r u : List Nat} (h1 : 1 ≤ n) (h7 : n ≤ 7) (hr : IsP n r) (hu : IsP n u) (cn : conn n r u) : ∃ f, run P (k + 1) 2 [tp r, tp u, .int 0] = .ok (.o (ls f), []) ∧ f.length = n := by
  obtain ⟨f, pl, j, e, hl⟩ := w_walk2 (ioOf P) (run P k) h1 h7 hr hu cn
  refine ⟨f, ?_, hl⟩
  rw [run_at at_walk rfl rfl]
  have e0 : ls [0] = .list [.int 0] := rfl
  rw [e0] at e
  simp only [bodyR, F_walk, e, q_ev_0, q_ev_1, q_ev_2, q_ev_3, q_ev_4, q_ev_5, q_ev_6, q_ev_7, q_ev_8, q_ev_9, q_ev_10, q_ev_11, q_ev_12, q_ev_13, q_ev_14, q_ev_15, q_ev_16, q_ev_17, q_ev_18, q_ev_19, q_ev_20, q_ev_21, q_ev_22, q_ev_23, q_ev_24, q_ev_25, q_ev_26, q_ev_27, q_ev_29, q_ev_30, q_evC_0, q_evC_1, q_evAnd_0, q_evAnd_1, q_evOr_0, q_evOr_1, q_evO_0, q_evO_1, q_evA_0, q_evA_1, q_evD_0, q_evD_1, q_evI_0, q_evI_1, q_evI_2, q_evI_3, q_evI_4, q_exec_0, q_exec_1, q_exec_2, q_exec_3, q_exec_4, q_exec_5, q_exec_6, q_exec_7, q_exec_8, q_exec_9, q_exec_10, q_exec_11, q_exec_12, q_exec_13, q_exec_14, q_tst, bd_ok, bq_ok, R.bind, rdv, mvv, pkv, put, chg, Vl.fz, Vl.res, B.dat, asBool, Dat.asInt?, handed, Dat.backTo, refsOf, noDup, okO, newIo, newCount, startG, outsG, stP, stQ, stVs, x_items1, x_items2, items_tp, items_ls, x_ty1, x_ty2, x_ty3, isTy_tp, x_len1, x_len2, x_len3, len_tp, len_ls, x_tup1, x_tup2, tuple_ls, x_lst1, x_lst2, list_ls, list_tp, x_neg, x_add, x_sub, x_lt, x_le, x_gt, x_ge, x_eqI, x_neI, x_eqB, x_neB, x_eqT, x_neT, x_neL, x_neL0, x_notin, x_memL, x_frz1, x_frz2, frz_tp, frz_ls, x_isL, isLst_ls, x_seq1, x_slot, x_slotf, x_sloto,
  List.getElem?_cons_zero, List.getElem?_cons_succ, List.set_cons_zero, List.set_cons_succ, List.zip_cons_cons, List.zip_nil_right, List.zip_nil_left, List.map_cons, List.map_nil, List.nil_append, List.cons_append, List.length_cons, List.length_nil, List.replicate, if_true, if_false, ite_true, ite_false, Bool.not_true, Bool.not_false, Bool.not_eq_true', Bool.true_or, Bool.false_or, Bool.or_true, Bool.or_false, Bool.true_and, Bool.false_and, Bool.and_true, Bool.and_false, reduceCtorEq, Nat.reduceSub, Nat.reduceAdd, Nat.zero_add, Nat.reduceLeDiff, List.contains_nil, List.contains_cons, decide_true, decide_false, Bool.false_eq_true, and_self, and_true, true_and, ↓reduceIte, io_is_between, io_is_exchange, io_walk, io_is_round, io_check_round, io_back, io_with_names, io_renamed, io_ring_from, io_rings_of, io_around, io_found_turns, io_found_corners, io_corners, io_check_square, io_turns, io__law_town, io__law_draw, io__law_order, io__law_hangs, io__law_round, io__law_back, io_law]
def pr (r u : List Nat) : D := .tuple [tp r, tp u]
theorem ix_pr0 (r u : List Nat) : ixD (pr r u) (.int 0) = .ok (tp r) := rfl
theorem ix_pr1 (r u : List Nat) : ixD (pr r u) (.int 1) = .ok (tp u) := rfl
theorem len_pr (r u : List Nat) : fn1 .len (pr r u) = .ok (.f (.int 2)) := rfl
theorem ty_pr (r u : List Nat) : isTy .tuple (pr r u) = true := rfl
theorem r_round (k : Nat) {n : Nat} {r u : List Nat} (h1 : 1 ≤ n) (h7 : n ≤ 7) (hr : IsP n r) (hu : IsP n u) (cn : conn n r u) : run P (k + 3) 3 [pr r u] = .ok (.f (.bool true), []) := by
  obtain ⟨f, e, hl⟩ := r_walk (k + 1) h1 h7 hr hu cn
  rw [run_at at_is_round rfl rfl]
  have d1 : decide ((1 : Int) ≤ (n : Int)) = true := decide_eq_true (by omega)
  have d2 : decide ((n : Int) ≤ 7) = true := decide_eq_true (by omega)
  have d3 : decide ((2 : Int) = 2) = true := rfl
  have d4 : decide ((n : Int) = (n : Int)) = true := decide_eq_true rfl
  simp only [bodyR, F_is_round, ty_pr, len_pr, ix_pr0, ix_pr1, hr.len, hu.len, d1, d2, d3, d4, r_exch k n r hr h7, r_exch k n u hu h7, e, hl, q_ev_0, q_ev_1, q_ev_2, q_ev_3, q_ev_4, q_ev_5, q_ev_6, q_ev_7, q_ev_8, q_ev_9, q_ev_10, q_ev_11, q_ev_12, q_ev_13, q_ev_14, q_ev_15, q_ev_16, q_ev_17, q_ev_18, q_ev_19, q_ev_20, q_ev_21, q_ev_22, q_ev_23, q_ev_24, q_ev_25, q_ev_26, q_ev_27, q_ev_29, q_ev_30, q_evC_0, q_evC_1, q_evAnd_0, q_evAnd_1, q_evOr_0, q_evOr_1, q_evO_0, q_evO_1, q_evA_0, q_evA_1, q_evD_0, q_evD_1, q_evI_0, q_evI_1, q_evI_2, q_evI_3, q_evI_4, q_exec_0, q_exec_1, q_exec_2, q_exec_3, q_exec_4, q_exec_5, q_exec_6, q_exec_7, q_exec_8, q_exec_9, q_exec_10, q_exec_11, q_exec_12, q_exec_13, q_exec_14, q_tst, bd_ok, bq_ok, R.bind, rdv, mvv, pkv, put, chg, Vl.fz, Vl.res, B.dat, asBool, Dat.asInt?, handed, Dat.backTo, refsOf, noDup, okO, newIo, newCount, startG, outsG, stP, stQ, stVs, x_items1, x_items2, items_tp, items_ls, x_ty1, x_ty2, x_ty3, isTy_tp, x_len1, x_len2, x_len3, len_tp, len_ls, x_tup1, x_tup2, tuple_ls, x_lst1, x_lst2, list_ls, list_tp, x_neg, x_add, x_sub, x_lt, x_le, x_gt, x_ge, x_eqI, x_neI, x_eqB, x_neB, x_eqT, x_neT, x_neL, x_neL0, x_notin, x_memL, x_frz1, x_frz2, frz_tp, frz_ls, x_isL, isLst_ls, x_seq1, x_slot, x_slotf, x_sloto,
  List.getElem?_cons_zero, List.getElem?_cons_succ, List.set_cons_zero, List.set_cons_succ, List.zip_cons_cons, List.zip_nil_right, List.zip_nil_left, List.map_cons, List.map_nil, List.nil_append, List.cons_append, List.length_cons, List.length_nil, List.replicate, if_true, if_false, ite_true, ite_false, Bool.not_true, Bool.not_false, Bool.not_eq_true', Bool.true_or, Bool.false_or, Bool.or_true, Bool.or_false, Bool.true_and, Bool.false_and, Bool.and_true, Bool.and_false, reduceCtorEq, Nat.reduceSub, Nat.reduceAdd, Nat.zero_add, Nat.reduceLeDiff, List.contains_nil, List.contains_cons, decide_true, decide_false, Bool.false_eq_true, and_self, and_true, true_and, ↓reduceIte, io_is_between, io_is_exchange, io_walk, io_is_round, io_check_round, io_back, io_with_names, io_renamed, io_ring_from, io_rings_of, io_around, io_found_turns, io_found_corners, io_corners, io_check_square, io_turns, io__law_town, io__law_draw, io__law_order, io__law_hangs, io__law_round, io__law_back, io_law]
theorem r_check (k : Nat) {n : Nat} {r u : List Nat} (h1 : 1 ≤ n) (h7 : n ≤ 7) (hr : IsP n r) (hu : IsP n u) (cn : conn n r u) : run P (k + 4) 4 [pr r u] = .ok (.f .none, []) := by
  rw [run_at at_check_round rfl rfl]
  simp only [bodyR, F_check_round, r_round k h1 h7 hr hu cn, q_ev_0, q_ev_1, q_ev_2, q_ev_3, q_ev_4, q_ev_5, q_ev_6, q_ev_7, q_ev_8, q_ev_9, q_ev_10, q_ev_11, q_ev_12, q_ev_13, q_ev_14, q_ev_15, q_ev_16, q_ev_17, q_ev_18, q_ev_19, q_ev_20, q_ev_21, q_ev_22, q_ev_23, q_ev_24, q_ev_25, q_ev_26, q_ev_27, q_ev_29, q_ev_30, q_evC_0, q_evC_1, q_evAnd_0, q_evAnd_1, q_evOr_0, q_evOr_1, q_evO_0, q_evO_1, q_evA_0, q_evA_1, q_evD_0, q_evD_1, q_evI_0, q_evI_1, q_evI_2, q_evI_3, q_evI_4, q_exec_0, q_exec_1, q_exec_2, q_exec_3, q_exec_4, q_exec_5, q_exec_6, q_exec_7, q_exec_8, q_exec_9, q_exec_10, q_exec_11, q_exec_12, q_exec_13, q_exec_14, q_tst, bd_ok, bq_ok, R.bind, rdv, mvv, pkv, put, chg, Vl.fz, Vl.res, B.dat, asBool, Dat.asInt?, handed, Dat.backTo, refsOf, noDup, okO, newIo, newCount, startG, outsG, stP, stQ, stVs, x_items1, x_items2, items_tp, items_ls, x_ty1, x_ty2, x_ty3, isTy_tp, x_len1, x_len2, x_len3, len_tp, len_ls, x_tup1, x_tup2, tuple_ls, x_lst1, x_lst2, list_ls, list_tp, x_neg, x_add, x_sub, x_lt, x_le, x_gt, x_ge, x_eqI, x_neI, x_eqB, x_neB, x_eqT, x_neT, x_neL, x_neL0, x_notin, x_memL, x_frz1, x_frz2, frz_tp, frz_ls, x_isL, isLst_ls, x_seq1, x_slot, x_slotf, x_sloto,
  List.getElem?_cons_zero, List.getElem?_cons_succ, List.set_cons_zero, List.set_cons_succ, List.zip_cons_cons, List.zip_nil_right, List.zip_nil_left, List.map_cons, List.map_nil, List.nil_append, List.cons_append, List.length_cons, List.length_nil, List.replicate, if_true, if_false, ite_true, ite_false, Bool.not_true, Bool.not_false, Bool.not_eq_true', Bool.true_or, Bool.false_or, Bool.or_true, Bool.or_false, Bool.true_and, Bool.false_and, Bool.and_true, Bool.and_false, reduceCtorEq, Nat.reduceSub, Nat.reduceAdd, Nat.zero_add, Nat.reduceLeDiff, List.contains_nil, List.contains_cons, decide_true, decide_false, Bool.false_eq_true, and_self, and_true, true_and, ↓reduceIte, io_is_between, io_is_exchange, io_walk, io_is_round, io_check_round, io_back, io_with_names, io_renamed, io_ring_from, io_rings_of, io_around, io_found_turns, io_found_corners, io_corners, io_check_square, io_turns, io__law_town, io__law_draw, io__law_order, io__law_hangs, io__law_round, io__law_back, io_law]
end Law_shearsquares_k12_corners

namespace Law_shearsquares_k12_corners
open PySem (PyData)
open Dat Plain
theorem enum_map (i : Nat) (x : Nat) (r : List Nat) : enumD ((x :: r).map fun n : Nat => PyData.int (n : Int)) (i : Int) = .tuple [.int (i : Int), .int (x : Int)] :: enumD (r.map fun n : Nat => PyData.int (n : Int)) ((i + 1 : Nat) : Int) := rfl
theorem at_set {f : List Nat} {x y v : Nat} (h : x < f.length) : at' (f.set x v) y = if x = y then v else at' f y := by
  simp only [at', List.getD, List.getElem?_set]
  by_cases e : x = y
  · subst e; simp [h]
  · simp [e]
theorem w_back (io : Io) (cf : Caller) {n : Nat} {p : List Nat} (hp : IsP n p) (h7 : n ≤ 7) : ∃ j2 j3, Dat.exec io cf W_back_1 [some (.frz (tp p)), some (.own (ls (List.replicate n 0))), none, none] = .ok (.nx [some (.frz (tp p)), some (.own (ls (inv p))), j2, j3]) := by
  obtain ⟨g', e, i, f, j2, j3, rest, hg, hds, hd, n2, n3, fl, ff⟩ := for_inv (io := io) (cf := cf) (W := W_back_1) (g := [some (.frz (tp p)), some (.own (ls (List.replicate n 0))), none, none]) (g1 := [some (.frz (tp p)), some (.own (ls (List.replicate n 0))), none, none]) (ds := enumD (p.map fun n : Nat => PyData.int (n : Int)) ((0 : Nat) : Int)) rfl (by simp only [q_ev_0, q_ev_1, q_ev_2, q_ev_3, q_ev_4, q_ev_5, q_ev_6, q_ev_7, q_ev_8, q_ev_9, q_ev_10, q_ev_11, q_ev_12, q_ev_13, q_ev_14, q_ev_15, q_ev_16, q_ev_17, q_ev_18, q_ev_19, q_ev_20, q_ev_21, q_ev_22, q_ev_23, q_ev_24, q_ev_25, q_ev_26, q_ev_27, q_ev_29, q_ev_30, q_evC_0, q_evC_1, q_evAnd_0, q_evAnd_1, q_evOr_0, q_evOr_1, q_evO_0, q_evO_1, q_evA_0, q_evA_1, q_evD_0, q_evD_1, q_evI_0, q_evI_1, q_evI_2, q_evI_3, q_evI_4, q_exec_0, q_exec_1, q_exec_2, q_exec_3, q_exec_4, q_exec_5, q_exec_6, q_exec_7, q_exec_8, q_exec_9, q_exec_10, q_exec_11, q_exec_12, q_exec_13, q_exec_14, q_tst, bd_ok, bq_ok, R.bind, rdv, mvv, pkv, put, chg, Vl.fz, Vl.res, B.dat, asBool, Dat.asInt?, handed, Dat.backTo, refsOf, noDup, okO, newIo, newCount, startG, outsG, stP, stQ, stVs, x_items1, x_items2, items_tp, items_ls, x_ty1, x_ty2, x_ty3, isTy_tp, x_len1, x_len2, x_len3, len_tp, len_ls, x_tup1, x_tup2, tuple_ls, x_lst1, x_lst2, list_ls, list_tp, x_neg, x_add, x_sub, x_lt, x_le, x_gt, x_ge, x_eqI, x_neI, x_eqB, x_neB, x_eqT, x_neT, x_neL, x_neL0, x_notin, x_memL, x_frz1, x_frz2, frz_tp, frz_ls, x_isL, isLst_ls, x_seq1, x_slot, x_slotf, x_sloto,
  List.getElem?_cons_zero, List.getElem?_cons_succ, List.set_cons_zero, List.set_cons_succ, List.zip_cons_cons, List.zip_nil_right, List.zip_nil_left, List.map_cons, List.map_nil, List.nil_append, List.cons_append, List.length_cons, List.length_nil, List.replicate, if_true, if_false, ite_true, ite_false, Bool.not_true, Bool.not_false, Bool.not_eq_true', Bool.true_or, Bool.false_or, Bool.or_true, Bool.or_false, Bool.true_and, Bool.false_and, Bool.and_true, Bool.and_false, reduceCtorEq, Nat.reduceSub, Nat.reduceAdd, Nat.zero_add, Nat.reduceLeDiff, List.contains_nil, List.contains_cons, decide_true, decide_false, Bool.false_eq_true, and_self, and_true, true_and, ↓reduceIte, io_is_between, io_is_exchange, io_walk, io_is_round, io_check_round, io_back, io_with_names, io_renamed, io_ring_from, io_rings_of, io_around, io_found_turns, io_found_corners, io_corners, io_check_square, io_turns, io__law_town, io__law_draw, io__law_order, io__law_hangs, io__law_round, io__law_back, io_law]; rfl)
    (fun ds g => ∃ (i : Nat) (f : List Nat) (j2 j3 : Option B) (rest : List Nat), g = [some (.frz (tp p)), some (.own (ls f)), j2, j3] ∧ ds = enumD (rest.map fun n : Nat => PyData.int (n : Int)) (i : Int) ∧ p.drop i = rest ∧ nio j2 ∧ nio j3 ∧ f.length = n ∧ ∀ t, t < i → at' f (at' p t) = t)
    (fun d r g ⟨i, f, j2, j3, rest, hg, hds, hd, n2, n3, fl, ff⟩ => by
      cases rest with
      | nil => cases hds
      | cons x rest =>
        rw [enum_map] at hds
        injection hds with h1 h2
        have hi : i < p.length := by
          apply Classical.byContradiction
          intro hn
          rw [List.drop_eq_nil_of_le (by omega)] at hd
          cases hd
        have hx : at' p i = x := by
          have := List.getElem_cons_drop (i := i) (as := p) hi
          rw [hd] at this
          injection this with q _
          simp [at', List.getD, hi, q]
        have hxn : x < n := by rw [← hx]; exact hp.atlt (by rw [← hp.len]; exact hi)
        have hxf : x < f.length := by omega
        subst hg h1
        refine ⟨[some (.frz (tp p)), some (.own (ls f)), some (.frz (.int (i : Int))), some (.frz (.int (x : Int)))], _, ?_, by simp only [setI_ls f x i hxf, q_ev_0, q_ev_1, q_ev_2, q_ev_3, q_ev_4, q_ev_5, q_ev_6, q_ev_7, q_ev_8, q_ev_9, q_ev_10, q_ev_11, q_ev_12, q_ev_13, q_ev_14, q_ev_15, q_ev_16, q_ev_17, q_ev_18, q_ev_19, q_ev_20, q_ev_21, q_ev_22, q_ev_23, q_ev_24, q_ev_25, q_ev_26, q_ev_27, q_ev_29, q_ev_30, q_evC_0, q_evC_1, q_evAnd_0, q_evAnd_1, q_evOr_0, q_evOr_1, q_evO_0, q_evO_1, q_evA_0, q_evA_1, q_evD_0, q_evD_1, q_evI_0, q_evI_1, q_evI_2, q_evI_3, q_evI_4, q_exec_0, q_exec_1, q_exec_2, q_exec_3, q_exec_4, q_exec_5, q_exec_6, q_exec_7, q_exec_8, q_exec_9, q_exec_10, q_exec_11, q_exec_12, q_exec_13, q_exec_14, q_tst, bd_ok, bq_ok, R.bind, rdv, mvv, pkv, put, chg, Vl.fz, Vl.res, B.dat, asBool, Dat.asInt?, handed, Dat.backTo, refsOf, noDup, okO, newIo, newCount, startG, outsG, stP, stQ, stVs, x_items1, x_items2, items_tp, items_ls, x_ty1, x_ty2, x_ty3, isTy_tp, x_len1, x_len2, x_len3, len_tp, len_ls, x_tup1, x_tup2, tuple_ls, x_lst1, x_lst2, list_ls, list_tp, x_neg, x_add, x_sub, x_lt, x_le, x_gt, x_ge, x_eqI, x_neI, x_eqB, x_neB, x_eqT, x_neT, x_neL, x_neL0, x_notin, x_memL, x_frz1, x_frz2, frz_tp, frz_ls, x_isL, isLst_ls, x_seq1, x_slot, x_slotf, x_sloto,
  List.getElem?_cons_zero, List.getElem?_cons_succ, List.set_cons_zero, List.set_cons_succ, List.zip_cons_cons, List.zip_nil_right, List.zip_nil_left, List.map_cons, List.map_nil, List.nil_append, List.cons_append, List.length_cons, List.length_nil, List.replicate, if_true, if_false, ite_true, ite_false, Bool.not_true, Bool.not_false, Bool.not_eq_true', Bool.true_or, Bool.false_or, Bool.or_true, Bool.or_false, Bool.true_and, Bool.false_and, Bool.and_true, Bool.and_false, reduceCtorEq, Nat.reduceSub, Nat.reduceAdd, Nat.zero_add, Nat.reduceLeDiff, List.contains_nil, List.contains_cons, decide_true, decide_false, Bool.false_eq_true, and_self, and_true, true_and, ↓reduceIte, io_is_between, io_is_exchange, io_walk, io_is_round, io_check_round, io_back, io_with_names, io_renamed, io_ring_from, io_rings_of, io_around, io_found_turns, io_found_corners, io_corners, io_check_square, io_turns, io__law_town, io__law_draw, io__law_order, io__law_hangs, io__law_round, io__law_back, io_law], i + 1, f.set x i, some (.frz (.int (i : Int))), some (.frz (.int (x : Int))), rest, rfl, h2, ?_, nio_f _, nio_f _, by simpa using fl, ?_⟩
        · rcases nio_cases n2 with rfl | ⟨d, rfl⟩ | ⟨d, rfl⟩ <;> rcases nio_cases n3 with rfl | ⟨d', rfl⟩ | ⟨d', rfl⟩ <;> simp only [q_ev_0, q_ev_1, q_ev_2, q_ev_3, q_ev_4, q_ev_5, q_ev_6, q_ev_7, q_ev_8, q_ev_9, q_ev_10, q_ev_11, q_ev_12, q_ev_13, q_ev_14, q_ev_15, q_ev_16, q_ev_17, q_ev_18, q_ev_19, q_ev_20, q_ev_21, q_ev_22, q_ev_23, q_ev_24, q_ev_25, q_ev_26, q_ev_27, q_ev_29, q_ev_30, q_evC_0, q_evC_1, q_evAnd_0, q_evAnd_1, q_evOr_0, q_evOr_1, q_evO_0, q_evO_1, q_evA_0, q_evA_1, q_evD_0, q_evD_1, q_evI_0, q_evI_1, q_evI_2, q_evI_3, q_evI_4, q_exec_0, q_exec_1, q_exec_2, q_exec_3, q_exec_4, q_exec_5, q_exec_6, q_exec_7, q_exec_8, q_exec_9, q_exec_10, q_exec_11, q_exec_12, q_exec_13, q_exec_14, q_tst, bd_ok, bq_ok, R.bind, rdv, mvv, pkv, put, chg, Vl.fz, Vl.res, B.dat, asBool, Dat.asInt?, handed, Dat.backTo, refsOf, noDup, okO, newIo, newCount, startG, outsG, stP, stQ, stVs, x_items1, x_items2, items_tp, items_ls, x_ty1, x_ty2, x_ty3, isTy_tp, x_len1, x_len2, x_len3, len_tp, len_ls, x_tup1, x_tup2, tuple_ls, x_lst1, x_lst2, list_ls, list_tp, x_neg, x_add, x_sub, x_lt, x_le, x_gt, x_ge, x_eqI, x_neI, x_eqB, x_neB, x_eqT, x_neT, x_neL, x_neL0, x_notin, x_memL, x_frz1, x_frz2, frz_tp, frz_ls, x_isL, isLst_ls, x_seq1, x_slot, x_slotf, x_sloto,
  List.getElem?_cons_zero, List.getElem?_cons_succ, List.set_cons_zero, List.set_cons_succ, List.zip_cons_cons, List.zip_nil_right, List.zip_nil_left, List.map_cons, List.map_nil, List.nil_append, List.cons_append, List.length_cons, List.length_nil, List.replicate, if_true, if_false, ite_true, ite_false, Bool.not_true, Bool.not_false, Bool.not_eq_true', Bool.true_or, Bool.false_or, Bool.or_true, Bool.or_false, Bool.true_and, Bool.false_and, Bool.and_true, Bool.and_false, reduceCtorEq, Nat.reduceSub, Nat.reduceAdd, Nat.zero_add, Nat.reduceLeDiff, List.contains_nil, List.contains_cons, decide_true, decide_false, Bool.false_eq_true, and_self, and_true, true_and, ↓reduceIte, io_is_between, io_is_exchange, io_walk, io_is_round, io_check_round, io_back, io_with_names, io_renamed, io_ring_from, io_rings_of, io_around, io_found_turns, io_found_corners, io_corners, io_check_square, io_turns, io__law_town, io__law_draw, io__law_order, io__law_hangs, io__law_round, io__law_back, io_law]
        · have := congrArg List.tail hd
          rw [List.tail_drop] at this
          exact this
        · intro t ht
          rw [at_set hxf]
          by_cases q : t = i
          · subst q
            rw [if_pos hx.symm]
          · have ti : t < i := by omega
            have ne : x ≠ at' p t := fun z => by
              rw [← hx] at z
              have := hp.inj (by rw [← hp.len]; exact hi) (by rw [← hp.len]; omega) z
              omega
            simp only [ne, if_false]
            exact ff t ti)
    ⟨0, List.replicate n 0, none, none, p, rfl, rfl, rfl, nio_none, nio_none, by simp, fun t ht => by omega⟩
  cases rest with
  | cons x rest => cases hds
  | nil =>
    have hi : n ≤ i := by
      have := congrArg List.length hd
      rw [List.length_drop, hp.len] at this
      simp at this
      omega
    have ef : f = inv p := ext_at fl ((inv_len p).trans hp.len) fun x hx => by
      have h1 := inv_lt hp hx
      have := ff (at' (inv p) x) (by omega)
      rw [inv_r hp hx] at this
      exact this
    subst hg ef
    exact ⟨j2, j3, e⟩
theorem r_back (k : Nat) {n : Nat} {p : List Nat} (hp : IsP n p) (h7 : n ≤ 7) : run P (k + 1) 5 [tp p] = .ok (.f (tp (inv p)), []) := by
  obtain ⟨j2, j3, e⟩ := w_back (ioOf P) (run P k) hp h7
  rw [run_at at_back rfl rfl]
  simp only [bodyR, F_back, hp.len, x_rep0 n (by omega), e, q_ev_0, q_ev_1, q_ev_2, q_ev_3, q_ev_4, q_ev_5, q_ev_6, q_ev_7, q_ev_8, q_ev_9, q_ev_10, q_ev_11, q_ev_12, q_ev_13, q_ev_14, q_ev_15, q_ev_16, q_ev_17, q_ev_18, q_ev_19, q_ev_20, q_ev_21, q_ev_22, q_ev_23, q_ev_24, q_ev_25, q_ev_26, q_ev_27, q_ev_29, q_ev_30, q_evC_0, q_evC_1, q_evAnd_0, q_evAnd_1, q_evOr_0, q_evOr_1, q_evO_0, q_evO_1, q_evA_0, q_evA_1, q_evD_0, q_evD_1, q_evI_0, q_evI_1, q_evI_2, q_evI_3, q_evI_4, q_exec_0, q_exec_1, q_exec_2, q_exec_3, q_exec_4, q_exec_5, q_exec_6, q_exec_7, q_exec_8, q_exec_9, q_exec_10, q_exec_11, q_exec_12, q_exec_13, q_exec_14, q_tst, bd_ok, bq_ok, R.bind, rdv, mvv, pkv, put, chg, Vl.fz, Vl.res, B.dat, asBool, Dat.asInt?, handed, Dat.backTo, refsOf, noDup, okO, newIo, newCount, startG, outsG, stP, stQ, stVs, x_items1, x_items2, items_tp, items_ls, x_ty1, x_ty2, x_ty3, isTy_tp, x_len1, x_len2, x_len3, len_tp, len_ls, x_tup1, x_tup2, tuple_ls, x_lst1, x_lst2, list_ls, list_tp, x_neg, x_add, x_sub, x_lt, x_le, x_gt, x_ge, x_eqI, x_neI, x_eqB, x_neB, x_eqT, x_neT, x_neL, x_neL0, x_notin, x_memL, x_frz1, x_frz2, frz_tp, frz_ls, x_isL, isLst_ls, x_seq1, x_slot, x_slotf, x_sloto,
  List.getElem?_cons_zero, List.getElem?_cons_succ, List.set_cons_zero, List.set_cons_succ, List.zip_cons_cons, List.zip_nil_right, List.zip_nil_left, List.map_cons, List.map_nil, List.nil_append, List.cons_append, List.length_cons, List.length_nil, List.replicate, if_true, if_false, ite_true, ite_false, Bool.not_true, Bool.not_false, Bool.not_eq_true', Bool.true_or, Bool.false_or, Bool.or_true, Bool.or_false, Bool.true_and, Bool.false_and, Bool.and_true, Bool.and_false, reduceCtorEq, Nat.reduceSub, Nat.reduceAdd, Nat.zero_add, Nat.reduceLeDiff, List.contains_nil, List.contains_cons, decide_true, decide_false, Bool.false_eq_true, and_self, and_true, true_and, ↓reduceIte, io_is_between, io_is_exchange, io_walk, io_is_round, io_check_round, io_back, io_with_names, io_renamed, io_ring_from, io_rings_of, io_around, io_found_turns, io_found_corners, io_corners, io_check_square, io_turns, io__law_town, io__law_draw, io__law_order, io__law_hangs, io__law_round, io__law_back, io_law]
theorem ls_map {α : Type} (l : List α) (f : α → Nat) : PyData.list (l.map fun x => PyData.int ((f x : Nat) : Int)) = ls (l.map f) := by
  simp [ls, List.map_map]
theorem r_lback (k : Nat) {n : Nat} {p : List Nat} (hp : IsP n p) (h7 : n ≤ 7) : run P (k + 1) 21 [tp p] = .ok (.f (tp (inv p)), []) := by
  rw [run_at at__law_back rfl rfl]
  have e := lc_map (io := ioOf P) (cf := run P k) (C := C__law_back_1) (g := [some (.frz (tp p)), none]) (g1 := [some (.frz (tp p)), none]) (xs := List.range n) rfl (fun i : Nat => .int (i : Int)) (fun i => .int ((p.idxOf i : Nat) : Int)) (by simp only [hp.len, rng1 n (by omega), q_ev_0, q_ev_1, q_ev_2, q_ev_3, q_ev_4, q_ev_5, q_ev_6, q_ev_7, q_ev_8, q_ev_9, q_ev_10, q_ev_11, q_ev_12, q_ev_13, q_ev_14, q_ev_15, q_ev_16, q_ev_17, q_ev_18, q_ev_19, q_ev_20, q_ev_21, q_ev_22, q_ev_23, q_ev_24, q_ev_25, q_ev_26, q_ev_27, q_ev_29, q_ev_30, q_evC_0, q_evC_1, q_evAnd_0, q_evAnd_1, q_evOr_0, q_evOr_1, q_evO_0, q_evO_1, q_evA_0, q_evA_1, q_evD_0, q_evD_1, q_evI_0, q_evI_1, q_evI_2, q_evI_3, q_evI_4, q_exec_0, q_exec_1, q_exec_2, q_exec_3, q_exec_4, q_exec_5, q_exec_6, q_exec_7, q_exec_8, q_exec_9, q_exec_10, q_exec_11, q_exec_12, q_exec_13, q_exec_14, q_tst, bd_ok, bq_ok, R.bind, rdv, mvv, pkv, put, chg, Vl.fz, Vl.res, B.dat, asBool, Dat.asInt?, handed, Dat.backTo, refsOf, noDup, okO, newIo, newCount, startG, outsG, stP, stQ, stVs, x_items1, x_items2, items_tp, items_ls, x_ty1, x_ty2, x_ty3, isTy_tp, x_len1, x_len2, x_len3, len_tp, len_ls, x_tup1, x_tup2, tuple_ls, x_lst1, x_lst2, list_ls, list_tp, x_neg, x_add, x_sub, x_lt, x_le, x_gt, x_ge, x_eqI, x_neI, x_eqB, x_neB, x_eqT, x_neT, x_neL, x_neL0, x_notin, x_memL, x_frz1, x_frz2, frz_tp, frz_ls, x_isL, isLst_ls, x_seq1, x_slot, x_slotf, x_sloto,
  List.getElem?_cons_zero, List.getElem?_cons_succ, List.set_cons_zero, List.set_cons_succ, List.zip_cons_cons, List.zip_nil_right, List.zip_nil_left, List.map_cons, List.map_nil, List.nil_append, List.cons_append, List.length_cons, List.length_nil, List.replicate, if_true, if_false, ite_true, ite_false, Bool.not_true, Bool.not_false, Bool.not_eq_true', Bool.true_or, Bool.false_or, Bool.or_true, Bool.or_false, Bool.true_and, Bool.false_and, Bool.and_true, Bool.and_false, reduceCtorEq, Nat.reduceSub, Nat.reduceAdd, Nat.zero_add, Nat.reduceLeDiff, List.contains_nil, List.contains_cons, decide_true, decide_false, Bool.false_eq_true, and_self, and_true, true_and, ↓reduceIte, io_is_between, io_is_exchange, io_walk, io_is_round, io_check_round, io_back, io_with_names, io_renamed, io_ring_from, io_rings_of, io_around, io_found_turns, io_found_corners, io_corners, io_check_square, io_turns, io__law_town, io__law_draw, io__law_order, io__law_hangs, io__law_round, io__law_back, io_law]) (by simp; omega) (by simp) (by simp) fun x hx => ⟨.f (.int ((p.idxOf x : Nat) : Int)), by
      simp only [x_kind, x_index p x (hp.all x (List.mem_range.mp hx)), q_ev_0, q_ev_1, q_ev_2, q_ev_3, q_ev_4, q_ev_5, q_ev_6, q_ev_7, q_ev_8, q_ev_9, q_ev_10, q_ev_11, q_ev_12, q_ev_13, q_ev_14, q_ev_15, q_ev_16, q_ev_17, q_ev_18, q_ev_19, q_ev_20, q_ev_21, q_ev_22, q_ev_23, q_ev_24, q_ev_25, q_ev_26, q_ev_27, q_ev_29, q_ev_30, q_evC_0, q_evC_1, q_evAnd_0, q_evAnd_1, q_evOr_0, q_evOr_1, q_evO_0, q_evO_1, q_evA_0, q_evA_1, q_evD_0, q_evD_1, q_evI_0, q_evI_1, q_evI_2, q_evI_3, q_evI_4, q_exec_0, q_exec_1, q_exec_2, q_exec_3, q_exec_4, q_exec_5, q_exec_6, q_exec_7, q_exec_8, q_exec_9, q_exec_10, q_exec_11, q_exec_12, q_exec_13, q_exec_14, q_tst, bd_ok, bq_ok, R.bind, rdv, mvv, pkv, put, chg, Vl.fz, Vl.res, B.dat, asBool, Dat.asInt?, handed, Dat.backTo, refsOf, noDup, okO, newIo, newCount, startG, outsG, stP, stQ, stVs, x_items1, x_items2, items_tp, items_ls, x_ty1, x_ty2, x_ty3, isTy_tp, x_len1, x_len2, x_len3, len_tp, len_ls, x_tup1, x_tup2, tuple_ls, x_lst1, x_lst2, list_ls, list_tp, x_neg, x_add, x_sub, x_lt, x_le, x_gt, x_ge, x_eqI, x_neI, x_eqB, x_neB, x_eqT, x_neT, x_neL, x_neL0, x_notin, x_memL, x_frz1, x_frz2, frz_tp, frz_ls, x_isL, isLst_ls, x_seq1, x_slot, x_slotf, x_sloto,
  List.getElem?_cons_zero, List.getElem?_cons_succ, List.set_cons_zero, List.set_cons_succ, List.zip_cons_cons, List.zip_nil_right, List.zip_nil_left, List.map_cons, List.map_nil, List.nil_append, List.cons_append, List.length_cons, List.length_nil, List.replicate, if_true, if_false, ite_true, ite_false, Bool.not_true, Bool.not_false, Bool.not_eq_true', Bool.true_or, Bool.false_or, Bool.or_true, Bool.or_false, Bool.true_and, Bool.false_and, Bool.and_true, Bool.and_false, reduceCtorEq, Nat.reduceSub, Nat.reduceAdd, Nat.zero_add, Nat.reduceLeDiff, List.contains_nil, List.contains_cons, decide_true, decide_false, Bool.false_eq_true, and_self, and_true, true_and, ↓reduceIte, io_is_between, io_is_exchange, io_walk, io_is_round, io_check_round, io_back, io_with_names, io_renamed, io_ring_from, io_rings_of, io_around, io_found_turns, io_found_corners, io_corners, io_check_square, io_turns, io__law_town, io__law_draw, io__law_order, io__law_hangs, io__law_round, io__law_back, io_law], rfl⟩
  rw [ls_map (List.range n) fun i => p.idxOf i] at e
  have e2 : (List.range n).map (fun i => p.idxOf i) = inv p := by unfold inv; rw [hp.len]
  rw [e2] at e
  simp only [bodyR, F__law_back, e, q_ev_0, q_ev_1, q_ev_2, q_ev_3, q_ev_4, q_ev_5, q_ev_6, q_ev_7, q_ev_8, q_ev_9, q_ev_10, q_ev_11, q_ev_12, q_ev_13, q_ev_14, q_ev_15, q_ev_16, q_ev_17, q_ev_18, q_ev_19, q_ev_20, q_ev_21, q_ev_22, q_ev_23, q_ev_24, q_ev_25, q_ev_26, q_ev_27, q_ev_29, q_ev_30, q_evC_0, q_evC_1, q_evAnd_0, q_evAnd_1, q_evOr_0, q_evOr_1, q_evO_0, q_evO_1, q_evA_0, q_evA_1, q_evD_0, q_evD_1, q_evI_0, q_evI_1, q_evI_2, q_evI_3, q_evI_4, q_exec_0, q_exec_1, q_exec_2, q_exec_3, q_exec_4, q_exec_5, q_exec_6, q_exec_7, q_exec_8, q_exec_9, q_exec_10, q_exec_11, q_exec_12, q_exec_13, q_exec_14, q_tst, bd_ok, bq_ok, R.bind, rdv, mvv, pkv, put, chg, Vl.fz, Vl.res, B.dat, asBool, Dat.asInt?, handed, Dat.backTo, refsOf, noDup, okO, newIo, newCount, startG, outsG, stP, stQ, stVs, x_items1, x_items2, items_tp, items_ls, x_ty1, x_ty2, x_ty3, isTy_tp, x_len1, x_len2, x_len3, len_tp, len_ls, x_tup1, x_tup2, tuple_ls, x_lst1, x_lst2, list_ls, list_tp, x_neg, x_add, x_sub, x_lt, x_le, x_gt, x_ge, x_eqI, x_neI, x_eqB, x_neB, x_eqT, x_neT, x_neL, x_neL0, x_notin, x_memL, x_frz1, x_frz2, frz_tp, frz_ls, x_isL, isLst_ls, x_seq1, x_slot, x_slotf, x_sloto,
  List.getElem?_cons_zero, List.getElem?_cons_succ, List.set_cons_zero, List.set_cons_succ, List.zip_cons_cons, List.zip_nil_right, List.zip_nil_left, List.map_cons, List.map_nil, List.nil_append, List.cons_append, List.length_cons, List.length_nil, List.replicate, if_true, if_false, ite_true, ite_false, Bool.not_true, Bool.not_false, Bool.not_eq_true', Bool.true_or, Bool.false_or, Bool.or_true, Bool.or_false, Bool.true_and, Bool.false_and, Bool.and_true, Bool.and_false, reduceCtorEq, Nat.reduceSub, Nat.reduceAdd, Nat.zero_add, Nat.reduceLeDiff, List.contains_nil, List.contains_cons, decide_true, decide_false, Bool.false_eq_true, and_self, and_true, true_and, ↓reduceIte, io_is_between, io_is_exchange, io_walk, io_is_round, io_check_round, io_back, io_with_names, io_renamed, io_ring_from, io_rings_of, io_around, io_found_turns, io_found_corners, io_corners, io_check_square, io_turns, io__law_town, io__law_draw, io__law_order, io__law_hangs, io__law_round, io__law_back, io_law]
theorem r_around (k : Nat) {n : Nat} {r u : List Nat} (hr : IsP n r) (hu : IsP n u) (h7 : n ≤ 7) : run P (k + 2) 10 [pr r u] = .ok (.f (tp (com r u)), []) := by
  rw [run_at at_around rfl rfl]
  have e := lc_map (io := ioOf P) (cf := run P (k + 1)) (C := C_around_1) (g := [some (.frz (.tuple [tp r, tp u])), some (.frz (tp r)), some (.frz (tp u)), some (.frz (tp (inv r))), some (.frz (tp (inv u))), none]) (g1 := [some (.frz (.tuple [tp r, tp u])), some (.frz (tp r)), some (.frz (tp u)), some (.frz (tp (inv r))), some (.frz (tp (inv u))), none]) (xs := List.range n) rfl (fun i : Nat => .int (i : Int)) (fun i => .int ((at' (inv u) (at' (inv r) (at' u (at' r i))) : Nat) : Int)) (by simp only [hr.len, rng1 n (by omega), q_ev_0, q_ev_1, q_ev_2, q_ev_3, q_ev_4, q_ev_5, q_ev_6, q_ev_7, q_ev_8, q_ev_9, q_ev_10, q_ev_11, q_ev_12, q_ev_13, q_ev_14, q_ev_15, q_ev_16, q_ev_17, q_ev_18, q_ev_19, q_ev_20, q_ev_21, q_ev_22, q_ev_23, q_ev_24, q_ev_25, q_ev_26, q_ev_27, q_ev_29, q_ev_30, q_evC_0, q_evC_1, q_evAnd_0, q_evAnd_1, q_evOr_0, q_evOr_1, q_evO_0, q_evO_1, q_evA_0, q_evA_1, q_evD_0, q_evD_1, q_evI_0, q_evI_1, q_evI_2, q_evI_3, q_evI_4, q_exec_0, q_exec_1, q_exec_2, q_exec_3, q_exec_4, q_exec_5, q_exec_6, q_exec_7, q_exec_8, q_exec_9, q_exec_10, q_exec_11, q_exec_12, q_exec_13, q_exec_14, q_tst, bd_ok, bq_ok, R.bind, rdv, mvv, pkv, put, chg, Vl.fz, Vl.res, B.dat, asBool, Dat.asInt?, handed, Dat.backTo, refsOf, noDup, okO, newIo, newCount, startG, outsG, stP, stQ, stVs, x_items1, x_items2, items_tp, items_ls, x_ty1, x_ty2, x_ty3, isTy_tp, x_len1, x_len2, x_len3, len_tp, len_ls, x_tup1, x_tup2, tuple_ls, x_lst1, x_lst2, list_ls, list_tp, x_neg, x_add, x_sub, x_lt, x_le, x_gt, x_ge, x_eqI, x_neI, x_eqB, x_neB, x_eqT, x_neT, x_neL, x_neL0, x_notin, x_memL, x_frz1, x_frz2, frz_tp, frz_ls, x_isL, isLst_ls, x_seq1, x_slot, x_slotf, x_sloto,
  List.getElem?_cons_zero, List.getElem?_cons_succ, List.set_cons_zero, List.set_cons_succ, List.zip_cons_cons, List.zip_nil_right, List.zip_nil_left, List.map_cons, List.map_nil, List.nil_append, List.cons_append, List.length_cons, List.length_nil, List.replicate, if_true, if_false, ite_true, ite_false, Bool.not_true, Bool.not_false, Bool.not_eq_true', Bool.true_or, Bool.false_or, Bool.or_true, Bool.or_false, Bool.true_and, Bool.false_and, Bool.and_true, Bool.and_false, reduceCtorEq, Nat.reduceSub, Nat.reduceAdd, Nat.zero_add, Nat.reduceLeDiff, List.contains_nil, List.contains_cons, decide_true, decide_false, Bool.false_eq_true, and_self, and_true, true_and, ↓reduceIte, io_is_between, io_is_exchange, io_walk, io_is_round, io_check_round, io_back, io_with_names, io_renamed, io_ring_from, io_rings_of, io_around, io_found_turns, io_found_corners, io_corners, io_check_square, io_turns, io__law_town, io__law_draw, io__law_order, io__law_hangs, io__law_round, io__law_back, io_law]) (by simp; omega) (by simp) (by simp) fun x hx => ⟨.f (.int ((at' (inv u) (at' (inv r) (at' u (at' r x))) : Nat) : Int)), by
      have hx := List.mem_range.mp hx
      have a1 := ix_tp r x (by rw [hr.len]; exact hx)
      have a2 := ix_tp u (at' r x) (by rw [hu.len]; exact hr.atlt hx)
      have a3 := ix_tp (inv r) (at' u (at' r x)) (by rw [inv_len, hr.len]; exact hu.atlt (hr.atlt hx))
      have a4 := ix_tp (inv u) (at' (inv r) (at' u (at' r x))) (by rw [inv_len, hu.len]; exact inv_lt hr (hu.atlt (hr.atlt hx)))
      simp only [a1, a2, a3, a4, q_ev_0, q_ev_1, q_ev_2, q_ev_3, q_ev_4, q_ev_5, q_ev_6, q_ev_7, q_ev_8, q_ev_9, q_ev_10, q_ev_11, q_ev_12, q_ev_13, q_ev_14, q_ev_15, q_ev_16, q_ev_17, q_ev_18, q_ev_19, q_ev_20, q_ev_21, q_ev_22, q_ev_23, q_ev_24, q_ev_25, q_ev_26, q_ev_27, q_ev_29, q_ev_30, q_evC_0, q_evC_1, q_evAnd_0, q_evAnd_1, q_evOr_0, q_evOr_1, q_evO_0, q_evO_1, q_evA_0, q_evA_1, q_evD_0, q_evD_1, q_evI_0, q_evI_1, q_evI_2, q_evI_3, q_evI_4, q_exec_0, q_exec_1, q_exec_2, q_exec_3, q_exec_4, q_exec_5, q_exec_6, q_exec_7, q_exec_8, q_exec_9, q_exec_10, q_exec_11, q_exec_12, q_exec_13, q_exec_14, q_tst, bd_ok, bq_ok, R.bind, rdv, mvv, pkv, put, chg, Vl.fz, Vl.res, B.dat, asBool, Dat.asInt?, handed, Dat.backTo, refsOf, noDup, okO, newIo, newCount, startG, outsG, stP, stQ, stVs, x_items1, x_items2, items_tp, items_ls, x_ty1, x_ty2, x_ty3, isTy_tp, x_len1, x_len2, x_len3, len_tp, len_ls, x_tup1, x_tup2, tuple_ls, x_lst1, x_lst2, list_ls, list_tp, x_neg, x_add, x_sub, x_lt, x_le, x_gt, x_ge, x_eqI, x_neI, x_eqB, x_neB, x_eqT, x_neT, x_neL, x_neL0, x_notin, x_memL, x_frz1, x_frz2, frz_tp, frz_ls, x_isL, isLst_ls, x_seq1, x_slot, x_slotf, x_sloto,
  List.getElem?_cons_zero, List.getElem?_cons_succ, List.set_cons_zero, List.set_cons_succ, List.zip_cons_cons, List.zip_nil_right, List.zip_nil_left, List.map_cons, List.map_nil, List.nil_append, List.cons_append, List.length_cons, List.length_nil, List.replicate, if_true, if_false, ite_true, ite_false, Bool.not_true, Bool.not_false, Bool.not_eq_true', Bool.true_or, Bool.false_or, Bool.or_true, Bool.or_false, Bool.true_and, Bool.false_and, Bool.and_true, Bool.and_false, reduceCtorEq, Nat.reduceSub, Nat.reduceAdd, Nat.zero_add, Nat.reduceLeDiff, List.contains_nil, List.contains_cons, decide_true, decide_false, Bool.false_eq_true, and_self, and_true, true_and, ↓reduceIte, io_is_between, io_is_exchange, io_walk, io_is_round, io_check_round, io_back, io_with_names, io_renamed, io_ring_from, io_rings_of, io_around, io_found_turns, io_found_corners, io_corners, io_check_square, io_turns, io__law_town, io__law_draw, io__law_order, io__law_hangs, io__law_round, io__law_back, io_law], rfl⟩
  rw [ls_map (List.range n) fun i => at' (inv u) (at' (inv r) (at' u (at' r i)))] at e
  have e2 : (List.range n).map (fun i => at' (inv u) (at' (inv r) (at' u (at' r i)))) = com r u := by unfold com ofF; rw [hr.len]
  rw [e2] at e
  simp only [bodyR, F_around, pr, r_back k hr h7, r_back k hu h7, e, q_ev_0, q_ev_1, q_ev_2, q_ev_3, q_ev_4, q_ev_5, q_ev_6, q_ev_7, q_ev_8, q_ev_9, q_ev_10, q_ev_11, q_ev_12, q_ev_13, q_ev_14, q_ev_15, q_ev_16, q_ev_17, q_ev_18, q_ev_19, q_ev_20, q_ev_21, q_ev_22, q_ev_23, q_ev_24, q_ev_25, q_ev_26, q_ev_27, q_ev_29, q_ev_30, q_evC_0, q_evC_1, q_evAnd_0, q_evAnd_1, q_evOr_0, q_evOr_1, q_evO_0, q_evO_1, q_evA_0, q_evA_1, q_evD_0, q_evD_1, q_evI_0, q_evI_1, q_evI_2, q_evI_3, q_evI_4, q_exec_0, q_exec_1, q_exec_2, q_exec_3, q_exec_4, q_exec_5, q_exec_6, q_exec_7, q_exec_8, q_exec_9, q_exec_10, q_exec_11, q_exec_12, q_exec_13, q_exec_14, q_tst, bd_ok, bq_ok, R.bind, rdv, mvv, pkv, put, chg, Vl.fz, Vl.res, B.dat, asBool, Dat.asInt?, handed, Dat.backTo, refsOf, noDup, okO, newIo, newCount, startG, outsG, stP, stQ, stVs, x_items1, x_items2, items_tp, items_ls, x_ty1, x_ty2, x_ty3, isTy_tp, x_len1, x_len2, x_len3, len_tp, len_ls, x_tup1, x_tup2, tuple_ls, x_lst1, x_lst2, list_ls, list_tp, x_neg, x_add, x_sub, x_lt, x_le, x_gt, x_ge, x_eqI, x_neI, x_eqB, x_neB, x_eqT, x_neT, x_neL, x_neL0, x_notin, x_memL, x_frz1, x_frz2, frz_tp, frz_ls, x_isL, isLst_ls, x_seq1, x_slot, x_slotf, x_sloto,
  List.getElem?_cons_zero, List.getElem?_cons_succ, List.set_cons_zero, List.set_cons_succ, List.zip_cons_cons, List.zip_nil_right, List.zip_nil_left, List.map_cons, List.map_nil, List.nil_append, List.cons_append, List.length_cons, List.length_nil, List.replicate, if_true, if_false, ite_true, ite_false, Bool.not_true, Bool.not_false, Bool.not_eq_true', Bool.true_or, Bool.false_or, Bool.or_true, Bool.or_false, Bool.true_and, Bool.false_and, Bool.and_true, Bool.and_false, reduceCtorEq, Nat.reduceSub, Nat.reduceAdd, Nat.zero_add, Nat.reduceLeDiff, List.contains_nil, List.contains_cons, decide_true, decide_false, Bool.false_eq_true, and_self, and_true, true_and, ↓reduceIte, io_is_between, io_is_exchange, io_walk, io_is_round, io_check_round, io_back, io_with_names, io_renamed, io_ring_from, io_rings_of, io_around, io_found_turns, io_found_corners, io_corners, io_check_square, io_turns, io__law_town, io__law_draw, io__law_order, io__law_hangs, io__law_round, io__law_back, io_law]
end Law_shearsquares_k12_corners

namespace Law_shearsquares_k12_corners
open PySem (PyData)
open Dat Plain
section
variable {n : Nat} {c : List Nat} (h7 : n ≤ 7) (hc : IsP n c)
include h7 hc
theorem w_ring (io : Io) (cf : Caller) {s : Nat} (hs : s < n) : ∃ h : Nat, Dat.exec io cf W_ring_from_1 [some (.frz (tp c)), some (.frz (.int (s : Int))), some (.own (ls [s])), some (.frz (.int ((at' c s : Nat) : Int)))] = .ok (.nx [some (.frz (tp c)), some (.frz (.int (s : Int))), some (.own (ls (orb c s))), some (.frz (.int (h : Int)))]) := by
  have h8 := orb_le7 h7 hc hs
  obtain ⟨g', e, dn, h, k, hg, hh, he, hm, ho⟩ := whl_inv (io := io) (cf := cf) (W := W_ring_from_1) rfl
    (fun m g => ∃ (dn : List Nat) (h k : Nat), g = [some (.frz (tp c)), some (.frz (.int (s : Int))), some (.own (ls dn)), some (.frz (.int (h : Int)))] ∧ h < n ∧ ends c s k h = true ∧ m = (go c s k h).length ∧ dn ++ go c s k h = orb c s)
    (fun m g ⟨dn, h, k, hg, hh, he, hm, ho⟩ => by
      subst hg
      cases k with
      | zero => simp [ends] at he
      | succ k =>
        unfold ends at he
        unfold go at hm ho
        by_cases q : h = s
        · left
          have d1 : decide ((h : Int) = (s : Int)) = true := decide_eq_true (by omega)
          simp only [q, if_true] at hm ho
          refine ⟨_, by simp only [d1, q_ev_0, q_ev_1, q_ev_2, q_ev_3, q_ev_4, q_ev_5, q_ev_6, q_ev_7, q_ev_8, q_ev_9, q_ev_10, q_ev_11, q_ev_12, q_ev_13, q_ev_14, q_ev_15, q_ev_16, q_ev_17, q_ev_18, q_ev_19, q_ev_20, q_ev_21, q_ev_22, q_ev_23, q_ev_24, q_ev_25, q_ev_26, q_ev_27, q_ev_29, q_ev_30, q_evC_0, q_evC_1, q_evAnd_0, q_evAnd_1, q_evOr_0, q_evOr_1, q_evO_0, q_evO_1, q_evA_0, q_evA_1, q_evD_0, q_evD_1, q_evI_0, q_evI_1, q_evI_2, q_evI_3, q_evI_4, q_exec_0, q_exec_1, q_exec_2, q_exec_3, q_exec_4, q_exec_5, q_exec_6, q_exec_7, q_exec_8, q_exec_9, q_exec_10, q_exec_11, q_exec_12, q_exec_13, q_exec_14, q_tst, bd_ok, bq_ok, R.bind, rdv, mvv, pkv, put, chg, Vl.fz, Vl.res, B.dat, asBool, Dat.asInt?, handed, Dat.backTo, refsOf, noDup, okO, newIo, newCount, startG, outsG, stP, stQ, stVs, x_items1, x_items2, items_tp, items_ls, x_ty1, x_ty2, x_ty3, isTy_tp, x_len1, x_len2, x_len3, len_tp, len_ls, x_tup1, x_tup2, tuple_ls, x_lst1, x_lst2, list_ls, list_tp, x_neg, x_add, x_sub, x_lt, x_le, x_gt, x_ge, x_eqI, x_neI, x_eqB, x_neB, x_eqT, x_neT, x_neL, x_neL0, x_notin, x_memL, x_frz1, x_frz2, frz_tp, frz_ls, x_isL, isLst_ls, x_seq1, x_slot, x_slotf, x_sloto,
  List.getElem?_cons_zero, List.getElem?_cons_succ, List.set_cons_zero, List.set_cons_succ, List.zip_cons_cons, List.zip_nil_right, List.zip_nil_left, List.map_cons, List.map_nil, List.nil_append, List.cons_append, List.length_cons, List.length_nil, List.replicate, if_true, if_false, ite_true, ite_false, Bool.not_true, Bool.not_false, Bool.not_eq_true', Bool.true_or, Bool.false_or, Bool.or_true, Bool.or_false, Bool.true_and, Bool.false_and, Bool.and_true, Bool.and_false, reduceCtorEq, Nat.reduceSub, Nat.reduceAdd, Nat.zero_add, Nat.reduceLeDiff, List.contains_nil, List.contains_cons, decide_true, decide_false, Bool.false_eq_true, and_self, and_true, true_and, ↓reduceIte, io_is_between, io_is_exchange, io_walk, io_is_round, io_check_round, io_back, io_with_names, io_renamed, io_ring_from, io_rings_of, io_around, io_found_turns, io_found_corners, io_corners, io_check_square, io_turns, io__law_town, io__law_draw, io__law_order, io__law_hangs, io__law_round, io__law_back, io_law], ⟨dn, h, 1, rfl, hh, by simp [ends, q], by simp [go, q], by simpa [go, q] using ho⟩, by simpa using hm⟩
        · right
          have d1 : decide ((h : Int) = (s : Int)) = false := decide_eq_false (by omega)
          simp only [q, if_false] at hm ho he
          have dl : dn.length ≤ 1000 := by
            have := congrArg List.length ho
            simp at this
            omega
          have a1 := ix_tp c h (by rw [hc.len]; exact hh)
          refine ⟨(go c s k (at' c h)).length, _, [some (.frz (tp c)), some (.frz (.int (s : Int))), some (.own (ls (dn ++ [h]))), some (.frz (.int ((at' c h : Nat) : Int)))], by simpa using hm, by simp only [d1, q_ev_0, q_ev_1, q_ev_2, q_ev_3, q_ev_4, q_ev_5, q_ev_6, q_ev_7, q_ev_8, q_ev_9, q_ev_10, q_ev_11, q_ev_12, q_ev_13, q_ev_14, q_ev_15, q_ev_16, q_ev_17, q_ev_18, q_ev_19, q_ev_20, q_ev_21, q_ev_22, q_ev_23, q_ev_24, q_ev_25, q_ev_26, q_ev_27, q_ev_29, q_ev_30, q_evC_0, q_evC_1, q_evAnd_0, q_evAnd_1, q_evOr_0, q_evOr_1, q_evO_0, q_evO_1, q_evA_0, q_evA_1, q_evD_0, q_evD_1, q_evI_0, q_evI_1, q_evI_2, q_evI_3, q_evI_4, q_exec_0, q_exec_1, q_exec_2, q_exec_3, q_exec_4, q_exec_5, q_exec_6, q_exec_7, q_exec_8, q_exec_9, q_exec_10, q_exec_11, q_exec_12, q_exec_13, q_exec_14, q_tst, bd_ok, bq_ok, R.bind, rdv, mvv, pkv, put, chg, Vl.fz, Vl.res, B.dat, asBool, Dat.asInt?, handed, Dat.backTo, refsOf, noDup, okO, newIo, newCount, startG, outsG, stP, stQ, stVs, x_items1, x_items2, items_tp, items_ls, x_ty1, x_ty2, x_ty3, isTy_tp, x_len1, x_len2, x_len3, len_tp, len_ls, x_tup1, x_tup2, tuple_ls, x_lst1, x_lst2, list_ls, list_tp, x_neg, x_add, x_sub, x_lt, x_le, x_gt, x_ge, x_eqI, x_neI, x_eqB, x_neB, x_eqT, x_neT, x_neL, x_neL0, x_notin, x_memL, x_frz1, x_frz2, frz_tp, frz_ls, x_isL, isLst_ls, x_seq1, x_slot, x_slotf, x_sloto,
  List.getElem?_cons_zero, List.getElem?_cons_succ, List.set_cons_zero, List.set_cons_succ, List.zip_cons_cons, List.zip_nil_right, List.zip_nil_left, List.map_cons, List.map_nil, List.nil_append, List.cons_append, List.length_cons, List.length_nil, List.replicate, if_true, if_false, ite_true, ite_false, Bool.not_true, Bool.not_false, Bool.not_eq_true', Bool.true_or, Bool.false_or, Bool.or_true, Bool.or_false, Bool.true_and, Bool.false_and, Bool.and_true, Bool.and_false, reduceCtorEq, Nat.reduceSub, Nat.reduceAdd, Nat.zero_add, Nat.reduceLeDiff, List.contains_nil, List.contains_cons, decide_true, decide_false, Bool.false_eq_true, and_self, and_true, true_and, ↓reduceIte, io_is_between, io_is_exchange, io_walk, io_is_round, io_check_round, io_back, io_with_names, io_renamed, io_ring_from, io_rings_of, io_around, io_found_turns, io_found_corners, io_corners, io_check_square, io_turns, io__law_town, io__law_draw, io__law_order, io__law_hangs, io__law_round, io__law_back, io_law]; rfl, ?_, dn ++ [h], at' c h, k, rfl, hc.atlt hh, he, rfl, by simpa using ho⟩
          simp only [app_ls dn h dl, a1, q_ev_0, q_ev_1, q_ev_2, q_ev_3, q_ev_4, q_ev_5, q_ev_6, q_ev_7, q_ev_8, q_ev_9, q_ev_10, q_ev_11, q_ev_12, q_ev_13, q_ev_14, q_ev_15, q_ev_16, q_ev_17, q_ev_18, q_ev_19, q_ev_20, q_ev_21, q_ev_22, q_ev_23, q_ev_24, q_ev_25, q_ev_26, q_ev_27, q_ev_29, q_ev_30, q_evC_0, q_evC_1, q_evAnd_0, q_evAnd_1, q_evOr_0, q_evOr_1, q_evO_0, q_evO_1, q_evA_0, q_evA_1, q_evD_0, q_evD_1, q_evI_0, q_evI_1, q_evI_2, q_evI_3, q_evI_4, q_exec_0, q_exec_1, q_exec_2, q_exec_3, q_exec_4, q_exec_5, q_exec_6, q_exec_7, q_exec_8, q_exec_9, q_exec_10, q_exec_11, q_exec_12, q_exec_13, q_exec_14, q_tst, bd_ok, bq_ok, R.bind, rdv, mvv, pkv, put, chg, Vl.fz, Vl.res, B.dat, asBool, Dat.asInt?, handed, Dat.backTo, refsOf, noDup, okO, newIo, newCount, startG, outsG, stP, stQ, stVs, x_items1, x_items2, items_tp, items_ls, x_ty1, x_ty2, x_ty3, isTy_tp, x_len1, x_len2, x_len3, len_tp, len_ls, x_tup1, x_tup2, tuple_ls, x_lst1, x_lst2, list_ls, list_tp, x_neg, x_add, x_sub, x_lt, x_le, x_gt, x_ge, x_eqI, x_neI, x_eqB, x_neB, x_eqT, x_neT, x_neL, x_neL0, x_notin, x_memL, x_frz1, x_frz2, frz_tp, frz_ls, x_isL, isLst_ls, x_seq1, x_slot, x_slotf, x_sloto,
  List.getElem?_cons_zero, List.getElem?_cons_succ, List.set_cons_zero, List.set_cons_succ, List.zip_cons_cons, List.zip_nil_right, List.zip_nil_left, List.map_cons, List.map_nil, List.nil_append, List.cons_append, List.length_cons, List.length_nil, List.replicate, if_true, if_false, ite_true, ite_false, Bool.not_true, Bool.not_false, Bool.not_eq_true', Bool.true_or, Bool.false_or, Bool.or_true, Bool.or_false, Bool.true_and, Bool.false_and, Bool.and_true, Bool.and_false, reduceCtorEq, Nat.reduceSub, Nat.reduceAdd, Nat.zero_add, Nat.reduceLeDiff, List.contains_nil, List.contains_cons, decide_true, decide_false, Bool.false_eq_true, and_self, and_true, true_and, ↓reduceIte, io_is_between, io_is_exchange, io_walk, io_is_round, io_check_round, io_back, io_with_names, io_renamed, io_ring_from, io_rings_of, io_around, io_found_turns, io_found_corners, io_corners, io_check_square, io_turns, io__law_town, io__law_draw, io__law_order, io__law_hangs, io__law_round, io__law_back, io_law])
    (go c s 8 (at' c s)).length _ (by have : (orb c s).length = (go c s 8 (at' c s)).length + 1 := rfl; omega) ⟨[s], at' c s, 8, rfl, hc.atlt hs, orb_ends h7 hc hs, rfl, rfl⟩
  subst hg
  have : go c s k h = [] := List.length_eq_zero_iff.mp hm.symm
  rw [this, List.append_nil] at ho
  subst ho
  exact ⟨h, e⟩
theorem r_ring (k : Nat) {s : Nat} (hs : s < n) : run P (k + 1) 8 [tp c, .int (s : Int)] = .ok (.o (ls (orb c s)), []) := by
  obtain ⟨h, e⟩ := w_ring h7 hc (ioOf P) (run P k) hs
  rw [run_at at_ring_from rfl rfl]
  have e0 : ls [s] = .list [.int (s : Int)] := rfl
  rw [e0] at e
  have a1 := ix_tp c s (by rw [hc.len]; exact hs)
  simp only [bodyR, F_ring_from, a1, e, q_ev_0, q_ev_1, q_ev_2, q_ev_3, q_ev_4, q_ev_5, q_ev_6, q_ev_7, q_ev_8, q_ev_9, q_ev_10, q_ev_11, q_ev_12, q_ev_13, q_ev_14, q_ev_15, q_ev_16, q_ev_17, q_ev_18, q_ev_19, q_ev_20, q_ev_21, q_ev_22, q_ev_23, q_ev_24, q_ev_25, q_ev_26, q_ev_27, q_ev_29, q_ev_30, q_evC_0, q_evC_1, q_evAnd_0, q_evAnd_1, q_evOr_0, q_evOr_1, q_evO_0, q_evO_1, q_evA_0, q_evA_1, q_evD_0, q_evD_1, q_evI_0, q_evI_1, q_evI_2, q_evI_3, q_evI_4, q_exec_0, q_exec_1, q_exec_2, q_exec_3, q_exec_4, q_exec_5, q_exec_6, q_exec_7, q_exec_8, q_exec_9, q_exec_10, q_exec_11, q_exec_12, q_exec_13, q_exec_14, q_tst, bd_ok, bq_ok, R.bind, rdv, mvv, pkv, put, chg, Vl.fz, Vl.res, B.dat, asBool, Dat.asInt?, handed, Dat.backTo, refsOf, noDup, okO, newIo, newCount, startG, outsG, stP, stQ, stVs, x_items1, x_items2, items_tp, items_ls, x_ty1, x_ty2, x_ty3, isTy_tp, x_len1, x_len2, x_len3, len_tp, len_ls, x_tup1, x_tup2, tuple_ls, x_lst1, x_lst2, list_ls, list_tp, x_neg, x_add, x_sub, x_lt, x_le, x_gt, x_ge, x_eqI, x_neI, x_eqB, x_neB, x_eqT, x_neT, x_neL, x_neL0, x_notin, x_memL, x_frz1, x_frz2, frz_tp, frz_ls, x_isL, isLst_ls, x_seq1, x_slot, x_slotf, x_sloto,
  List.getElem?_cons_zero, List.getElem?_cons_succ, List.set_cons_zero, List.set_cons_succ, List.zip_cons_cons, List.zip_nil_right, List.zip_nil_left, List.map_cons, List.map_nil, List.nil_append, List.cons_append, List.length_cons, List.length_nil, List.replicate, if_true, if_false, ite_true, ite_false, Bool.not_true, Bool.not_false, Bool.not_eq_true', Bool.true_or, Bool.false_or, Bool.or_true, Bool.or_false, Bool.true_and, Bool.false_and, Bool.and_true, Bool.and_false, reduceCtorEq, Nat.reduceSub, Nat.reduceAdd, Nat.zero_add, Nat.reduceLeDiff, List.contains_nil, List.contains_cons, decide_true, decide_false, Bool.false_eq_true, and_self, and_true, true_and, ↓reduceIte, io_is_between, io_is_exchange, io_walk, io_is_round, io_check_round, io_back, io_with_names, io_renamed, io_ring_from, io_rings_of, io_around, io_found_turns, io_found_corners, io_corners, io_check_square, io_turns, io__law_town, io__law_draw, io__law_order, io__law_hangs, io__law_round, io__law_back, io_law]
theorem mem_adds {x : Nat} : ∀ {l a : List Nat}, x ∈ adds l a ↔ x ∈ a ∨ x ∈ l
  | [], a => by simp [adds]
  | y :: l, a => by
    show x ∈ adds l (add1 y a) ↔ _
    rw [mem_adds, mem_add1]
    simp only [List.mem_cons]
    constructor
    · rintro ((rfl | z) | z)
      · exact .inr (.inl rfl)
      · exact .inl z
      · exact .inr (.inr z)
    · rintro (z | rfl | z)
      · exact .inl (.inr z)
      · exact .inl (.inl rfl)
      · exact .inr z
theorem adds_len : ∀ {l a : List Nat}, (adds l a).length ≤ l.length + a.length
  | [], a => by simp [adds]
  | y :: l, a => by
    show (adds l (add1 y a)).length ≤ _
    have h := adds_len (l := l) (a := add1 y a)
    have : (add1 y a).length ≤ a.length + 1 := by
      unfold add1
      by_cases e : y ∈ a <;> simp [e]
    simp only [List.length_cons]
    omega
theorem ix_last (a : List D) (v : D) : ixD (.list (a ++ [v])) (.int (-1)) = .ok v := by
  show R.ofO (ixL (a ++ [v]) (-1)) = _
  unfold ixL
  have h1 : ¬ (0 : Int) ≤ -1 := by omega
  have h2 : -(((a ++ [v]).length : Nat) : Int) ≤ -1 := by simp; omega
  have h3 : ((-1 : Int) + (((a ++ [v]).length : Nat) : Int)).toNat = a.length := by simp; omega
  rw [if_neg h1, if_pos h2, h3]
  simp [R.ofO]
def ringsTo (c : List Nat) (i : Nat) : List (List Nat) := ((List.range i).filter (minO c)).map (orb c)
theorem ringsTo_len (i : Nat) : (ringsTo c i).length ≤ i := by
  unfold ringsTo
  rw [List.length_map]
  have := List.length_filter_le (minO c) (List.range i)
  simpa using this
theorem w_rings (k : Nat) : ∃ l j3 j4, Dat.exec (ioOf P) (run P (k + 1)) W_rings_of_1 [some (.frz (tp c)), some (.own (.list [])), some (.own (mp [])), none, none] = .ok (.nx [some (.frz (tp c)), some (.own (.list ((rings c).map ls))), some (.own (mp l)), j3, j4]) := by
  obtain ⟨g', e, i, l, j3, hg, hds, hi, n3, hl, hm⟩ := for_inv (io := ioOf P) (cf := run P (k + 1)) (W := W_rings_of_1) (g := [some (.frz (tp c)), some (.own (.list [])), some (.own (mp [])), none, none]) (g1 := [some (.frz (tp c)), some (.own (.list [])), some (.own (mp [])), none, none]) (ds := (List.range n).map fun i : Nat => PyData.int (i : Int)) rfl (by simp only [hc.len, rng1 n (by omega), q_ev_0, q_ev_1, q_ev_2, q_ev_3, q_ev_4, q_ev_5, q_ev_6, q_ev_7, q_ev_8, q_ev_9, q_ev_10, q_ev_11, q_ev_12, q_ev_13, q_ev_14, q_ev_15, q_ev_16, q_ev_17, q_ev_18, q_ev_19, q_ev_20, q_ev_21, q_ev_22, q_ev_23, q_ev_24, q_ev_25, q_ev_26, q_ev_27, q_ev_29, q_ev_30, q_evC_0, q_evC_1, q_evAnd_0, q_evAnd_1, q_evOr_0, q_evOr_1, q_evO_0, q_evO_1, q_evA_0, q_evA_1, q_evD_0, q_evD_1, q_evI_0, q_evI_1, q_evI_2, q_evI_3, q_evI_4, q_exec_0, q_exec_1, q_exec_2, q_exec_3, q_exec_4, q_exec_5, q_exec_6, q_exec_7, q_exec_8, q_exec_9, q_exec_10, q_exec_11, q_exec_12, q_exec_13, q_exec_14, q_tst, bd_ok, bq_ok, R.bind, rdv, mvv, pkv, put, chg, Vl.fz, Vl.res, B.dat, asBool, Dat.asInt?, handed, Dat.backTo, refsOf, noDup, okO, newIo, newCount, startG, outsG, stP, stQ, stVs, x_items1, x_items2, items_tp, items_ls, x_ty1, x_ty2, x_ty3, isTy_tp, x_len1, x_len2, x_len3, len_tp, len_ls, x_tup1, x_tup2, tuple_ls, x_lst1, x_lst2, list_ls, list_tp, x_neg, x_add, x_sub, x_lt, x_le, x_gt, x_ge, x_eqI, x_neI, x_eqB, x_neB, x_eqT, x_neT, x_neL, x_neL0, x_notin, x_memL, x_frz1, x_frz2, frz_tp, frz_ls, x_isL, isLst_ls, x_seq1, x_slot, x_slotf, x_sloto,
  List.getElem?_cons_zero, List.getElem?_cons_succ, List.set_cons_zero, List.set_cons_succ, List.zip_cons_cons, List.zip_nil_right, List.zip_nil_left, List.map_cons, List.map_nil, List.nil_append, List.cons_append, List.length_cons, List.length_nil, List.replicate, if_true, if_false, ite_true, ite_false, Bool.not_true, Bool.not_false, Bool.not_eq_true', Bool.true_or, Bool.false_or, Bool.or_true, Bool.or_false, Bool.true_and, Bool.false_and, Bool.and_true, Bool.and_false, reduceCtorEq, Nat.reduceSub, Nat.reduceAdd, Nat.zero_add, Nat.reduceLeDiff, List.contains_nil, List.contains_cons, decide_true, decide_false, Bool.false_eq_true, and_self, and_true, true_and, ↓reduceIte, io_is_between, io_is_exchange, io_walk, io_is_round, io_check_round, io_back, io_with_names, io_renamed, io_ring_from, io_rings_of, io_around, io_found_turns, io_found_corners, io_corners, io_check_square, io_turns, io__law_town, io__law_draw, io__law_order, io__law_hangs, io__law_round, io__law_back, io_law])
    (fun ds g => ∃ (i : Nat) (l : List Nat) (j3 : Option B), g = [some (.frz (tp c)), some (.own (.list ((ringsTo c i).map ls))), some (.own (mp l)), j3, none] ∧ ds = (List.range' i (n - i)).map (fun i : Nat => PyData.int (i : Int)) ∧ i ≤ n ∧ nio j3 ∧ l.length ≤ 7 * i ∧ ∀ x, x ∈ l ↔ ∃ m, m < i ∧ minO c m = true ∧ x ∈ orb c m)
    (fun d r g ⟨i, l, j3, hg, hds, hi, n3, hl, hm⟩ => by
      by_cases hin : i < n
      · have z : n - i = (n - (i + 1)) + 1 := by omega
        rw [z, List.range'_succ, List.map_cons] at hds
        injection hds with h1 h2
        subst hg h1
        have rl : ((ringsTo c i).map ls).length ≤ 1000 := by rw [List.length_map]; have := ringsTo_len h7 hc (n := n) (c := c) i; omega
        have ol := orb_le7 h7 hc hin
        have al := adds_len h7 hc (l := orb c i) (a := [])
        have al2 := adds_len h7 hc (l := adds (orb c i) []) (a := l)
        simp only [List.length_nil, Nat.add_zero] at al
        refine ⟨[some (.frz (tp c)), some (.own (.list ((ringsTo c i).map ls))), some (.own (mp l)), some (.frz (.int (i : Int))), none], [some (.frz (tp c)), some (.own (.list ((ringsTo c (i + 1)).map ls))), some (.own (mp (if i ∈ l then l else adds (adds (orb c i) []) l))), some (.frz (.int (i : Int))), none], ?_, ?_⟩
        · rcases nio_cases n3 with rfl | ⟨d, rfl⟩ | ⟨d, rfl⟩ <;> simp only [q_ev_0, q_ev_1, q_ev_2, q_ev_3, q_ev_4, q_ev_5, q_ev_6, q_ev_7, q_ev_8, q_ev_9, q_ev_10, q_ev_11, q_ev_12, q_ev_13, q_ev_14, q_ev_15, q_ev_16, q_ev_17, q_ev_18, q_ev_19, q_ev_20, q_ev_21, q_ev_22, q_ev_23, q_ev_24, q_ev_25, q_ev_26, q_ev_27, q_ev_29, q_ev_30, q_evC_0, q_evC_1, q_evAnd_0, q_evAnd_1, q_evOr_0, q_evOr_1, q_evO_0, q_evO_1, q_evA_0, q_evA_1, q_evD_0, q_evD_1, q_evI_0, q_evI_1, q_evI_2, q_evI_3, q_evI_4, q_exec_0, q_exec_1, q_exec_2, q_exec_3, q_exec_4, q_exec_5, q_exec_6, q_exec_7, q_exec_8, q_exec_9, q_exec_10, q_exec_11, q_exec_12, q_exec_13, q_exec_14, q_tst, bd_ok, bq_ok, R.bind, rdv, mvv, pkv, put, chg, Vl.fz, Vl.res, B.dat, asBool, Dat.asInt?, handed, Dat.backTo, refsOf, noDup, okO, newIo, newCount, startG, outsG, stP, stQ, stVs, x_items1, x_items2, items_tp, items_ls, x_ty1, x_ty2, x_ty3, isTy_tp, x_len1, x_len2, x_len3, len_tp, len_ls, x_tup1, x_tup2, tuple_ls, x_lst1, x_lst2, list_ls, list_tp, x_neg, x_add, x_sub, x_lt, x_le, x_gt, x_ge, x_eqI, x_neI, x_eqB, x_neB, x_eqT, x_neT, x_neL, x_neL0, x_notin, x_memL, x_frz1, x_frz2, frz_tp, frz_ls, x_isL, isLst_ls, x_seq1, x_slot, x_slotf, x_sloto,
  List.getElem?_cons_zero, List.getElem?_cons_succ, List.set_cons_zero, List.set_cons_succ, List.zip_cons_cons, List.zip_nil_right, List.zip_nil_left, List.map_cons, List.map_nil, List.nil_append, List.cons_append, List.length_cons, List.length_nil, List.replicate, if_true, if_false, ite_true, ite_false, Bool.not_true, Bool.not_false, Bool.not_eq_true', Bool.true_or, Bool.false_or, Bool.or_true, Bool.or_false, Bool.true_and, Bool.false_and, Bool.and_true, Bool.and_false, reduceCtorEq, Nat.reduceSub, Nat.reduceAdd, Nat.zero_add, Nat.reduceLeDiff, List.contains_nil, List.contains_cons, decide_true, decide_false, Bool.false_eq_true, and_self, and_true, true_and, ↓reduceIte, io_is_between, io_is_exchange, io_walk, io_is_round, io_check_round, io_back, io_with_names, io_renamed, io_ring_from, io_rings_of, io_around, io_found_turns, io_found_corners, io_corners, io_check_square, io_turns, io__law_town, io__law_draw, io__law_order, io__law_hangs, io__law_round, io__law_back, io_law]
        · have rs : ringsTo c (i + 1) = if minO c i = true then ringsTo c i ++ [orb c i] else ringsTo c i := by
            unfold ringsTo
            rw [List.range_succ, List.filter_append, List.map_append]
            by_cases e : minO c i = true <;> simp [e]
          have mi := min_iff h7 hc hin
          rw [← hm i] at mi
          refine ⟨?_, i + 1, _, some (.frz (.int (i : Int))), rfl, h2, by omega, nio_f _, ?_, ?_⟩
          · by_cases q : i ∈ l
            · have nm : ¬ minO c i = true := fun z => mi.mp z q
              rw [rs, if_neg nm]
              simp only [q, x_memD, q_ev_0, q_ev_1, q_ev_2, q_ev_3, q_ev_4, q_ev_5, q_ev_6, q_ev_7, q_ev_8, q_ev_9, q_ev_10, q_ev_11, q_ev_12, q_ev_13, q_ev_14, q_ev_15, q_ev_16, q_ev_17, q_ev_18, q_ev_19, q_ev_20, q_ev_21, q_ev_22, q_ev_23, q_ev_24, q_ev_25, q_ev_26, q_ev_27, q_ev_29, q_ev_30, q_evC_0, q_evC_1, q_evAnd_0, q_evAnd_1, q_evOr_0, q_evOr_1, q_evO_0, q_evO_1, q_evA_0, q_evA_1, q_evD_0, q_evD_1, q_evI_0, q_evI_1, q_evI_2, q_evI_3, q_evI_4, q_exec_0, q_exec_1, q_exec_2, q_exec_3, q_exec_4, q_exec_5, q_exec_6, q_exec_7, q_exec_8, q_exec_9, q_exec_10, q_exec_11, q_exec_12, q_exec_13, q_exec_14, q_tst, bd_ok, bq_ok, R.bind, rdv, mvv, pkv, put, chg, Vl.fz, Vl.res, B.dat, asBool, Dat.asInt?, handed, Dat.backTo, refsOf, noDup, okO, newIo, newCount, startG, outsG, stP, stQ, stVs, x_items1, x_items2, items_tp, items_ls, x_ty1, x_ty2, x_ty3, isTy_tp, x_len1, x_len2, x_len3, len_tp, len_ls, x_tup1, x_tup2, tuple_ls, x_lst1, x_lst2, list_ls, list_tp, x_neg, x_add, x_sub, x_lt, x_le, x_gt, x_ge, x_eqI, x_neI, x_eqB, x_neB, x_eqT, x_neT, x_neL, x_neL0, x_notin, x_memL, x_frz1, x_frz2, frz_tp, frz_ls, x_isL, isLst_ls, x_seq1, x_slot, x_slotf, x_sloto,
  List.getElem?_cons_zero, List.getElem?_cons_succ, List.set_cons_zero, List.set_cons_succ, List.zip_cons_cons, List.zip_nil_right, List.zip_nil_left, List.map_cons, List.map_nil, List.nil_append, List.cons_append, List.length_cons, List.length_nil, List.replicate, if_true, if_false, ite_true, ite_false, Bool.not_true, Bool.not_false, Bool.not_eq_true', Bool.true_or, Bool.false_or, Bool.or_true, Bool.or_false, Bool.true_and, Bool.false_and, Bool.and_true, Bool.and_false, reduceCtorEq, Nat.reduceSub, Nat.reduceAdd, Nat.zero_add, Nat.reduceLeDiff, List.contains_nil, List.contains_cons, decide_true, decide_false, Bool.false_eq_true, and_self, and_true, true_and, ↓reduceIte, io_is_between, io_is_exchange, io_walk, io_is_round, io_check_round, io_back, io_with_names, io_renamed, io_ring_from, io_rings_of, io_around, io_found_turns, io_found_corners, io_corners, io_check_square, io_turns, io__law_town, io__law_draw, io__law_order, io__law_hangs, io__law_round, io__law_back, io_law]
            · have im : minO c i = true := mi.mpr q
              rw [rs, if_pos im]
              have e := lc_map (io := ioOf P) (cf := run P (k + 1)) (C := C_rings_of_1) (g := [some (.frz (tp c)), some (.own (.list ((ringsTo c i).map ls ++ [ls (orb c i)]))), some (.own (mp l)), some (.frz (.int (i : Int))), none]) (g1 := [some (.frz (tp c)), some (.own (.list ((ringsTo c i).map ls ++ [ls (orb c i)]))), some (.own (mp l)), some (.frz (.int (i : Int))), none]) (xs := orb c i) rfl (fun i : Nat => .int (i : Int)) (fun x : Nat => PyData.tuple [.int (x : Int), .bool true]) (by simp only [ix_last h7 hc, q_ev_0, q_ev_1, q_ev_2, q_ev_3, q_ev_4, q_ev_5, q_ev_6, q_ev_7, q_ev_8, q_ev_9, q_ev_10, q_ev_11, q_ev_12, q_ev_13, q_ev_14, q_ev_15, q_ev_16, q_ev_17, q_ev_18, q_ev_19, q_ev_20, q_ev_21, q_ev_22, q_ev_23, q_ev_24, q_ev_25, q_ev_26, q_ev_27, q_ev_29, q_ev_30, q_evC_0, q_evC_1, q_evAnd_0, q_evAnd_1, q_evOr_0, q_evOr_1, q_evO_0, q_evO_1, q_evA_0, q_evA_1, q_evD_0, q_evD_1, q_evI_0, q_evI_1, q_evI_2, q_evI_3, q_evI_4, q_exec_0, q_exec_1, q_exec_2, q_exec_3, q_exec_4, q_exec_5, q_exec_6, q_exec_7, q_exec_8, q_exec_9, q_exec_10, q_exec_11, q_exec_12, q_exec_13, q_exec_14, q_tst, bd_ok, bq_ok, R.bind, rdv, mvv, pkv, put, chg, Vl.fz, Vl.res, B.dat, asBool, Dat.asInt?, handed, Dat.backTo, refsOf, noDup, okO, newIo, newCount, startG, outsG, stP, stQ, stVs, x_items1, x_items2, items_tp, items_ls, x_ty1, x_ty2, x_ty3, isTy_tp, x_len1, x_len2, x_len3, len_tp, len_ls, x_tup1, x_tup2, tuple_ls, x_lst1, x_lst2, list_ls, list_tp, x_neg, x_add, x_sub, x_lt, x_le, x_gt, x_ge, x_eqI, x_neI, x_eqB, x_neB, x_eqT, x_neT, x_neL, x_neL0, x_notin, x_memL, x_frz1, x_frz2, frz_tp, frz_ls, x_isL, isLst_ls, x_seq1, x_slot, x_slotf, x_sloto,
  List.getElem?_cons_zero, List.getElem?_cons_succ, List.set_cons_zero, List.set_cons_succ, List.zip_cons_cons, List.zip_nil_right, List.zip_nil_left, List.map_cons, List.map_nil, List.nil_append, List.cons_append, List.length_cons, List.length_nil, List.replicate, if_true, if_false, ite_true, ite_false, Bool.not_true, Bool.not_false, Bool.not_eq_true', Bool.true_or, Bool.false_or, Bool.or_true, Bool.or_false, Bool.true_and, Bool.false_and, Bool.and_true, Bool.and_false, reduceCtorEq, Nat.reduceSub, Nat.reduceAdd, Nat.zero_add, Nat.reduceLeDiff, List.contains_nil, List.contains_cons, decide_true, decide_false, Bool.false_eq_true, and_self, and_true, true_and, ↓reduceIte, io_is_between, io_is_exchange, io_walk, io_is_round, io_check_round, io_back, io_with_names, io_renamed, io_ring_from, io_rings_of, io_around, io_found_turns, io_found_corners, io_corners, io_check_square, io_turns, io__law_town, io__law_draw, io__law_order, io__law_hangs, io__law_round, io__law_back, io_law]) (by omega) (by simp) (by simp) fun x hx => ⟨.f (.tuple [.int (x : Int), .bool true]), by simp only [q_ev_0, q_ev_1, q_ev_2, q_ev_3, q_ev_4, q_ev_5, q_ev_6, q_ev_7, q_ev_8, q_ev_9, q_ev_10, q_ev_11, q_ev_12, q_ev_13, q_ev_14, q_ev_15, q_ev_16, q_ev_17, q_ev_18, q_ev_19, q_ev_20, q_ev_21, q_ev_22, q_ev_23, q_ev_24, q_ev_25, q_ev_26, q_ev_27, q_ev_29, q_ev_30, q_evC_0, q_evC_1, q_evAnd_0, q_evAnd_1, q_evOr_0, q_evOr_1, q_evO_0, q_evO_1, q_evA_0, q_evA_1, q_evD_0, q_evD_1, q_evI_0, q_evI_1, q_evI_2, q_evI_3, q_evI_4, q_exec_0, q_exec_1, q_exec_2, q_exec_3, q_exec_4, q_exec_5, q_exec_6, q_exec_7, q_exec_8, q_exec_9, q_exec_10, q_exec_11, q_exec_12, q_exec_13, q_exec_14, q_tst, bd_ok, bq_ok, R.bind, rdv, mvv, pkv, put, chg, Vl.fz, Vl.res, B.dat, asBool, Dat.asInt?, handed, Dat.backTo, refsOf, noDup, okO, newIo, newCount, startG, outsG, stP, stQ, stVs, x_items1, x_items2, items_tp, items_ls, x_ty1, x_ty2, x_ty3, isTy_tp, x_len1, x_len2, x_len3, len_tp, len_ls, x_tup1, x_tup2, tuple_ls, x_lst1, x_lst2, list_ls, list_tp, x_neg, x_add, x_sub, x_lt, x_le, x_gt, x_ge, x_eqI, x_neI, x_eqB, x_neB, x_eqT, x_neT, x_neL, x_neL0, x_notin, x_memL, x_frz1, x_frz2, frz_tp, frz_ls, x_isL, isLst_ls, x_seq1, x_slot, x_slotf, x_sloto,
  List.getElem?_cons_zero, List.getElem?_cons_succ, List.set_cons_zero, List.set_cons_succ, List.zip_cons_cons, List.zip_nil_right, List.zip_nil_left, List.map_cons, List.map_nil, List.nil_append, List.cons_append, List.length_cons, List.length_nil, List.replicate, if_true, if_false, ite_true, ite_false, Bool.not_true, Bool.not_false, Bool.not_eq_true', Bool.true_or, Bool.false_or, Bool.or_true, Bool.or_false, Bool.true_and, Bool.false_and, Bool.and_true, Bool.and_false, reduceCtorEq, Nat.reduceSub, Nat.reduceAdd, Nat.zero_add, Nat.reduceLeDiff, List.contains_nil, List.contains_cons, decide_true, decide_false, Bool.false_eq_true, and_self, and_true, true_and, ↓reduceIte, io_is_between, io_is_exchange, io_walk, io_is_round, io_check_round, io_back, io_with_names, io_renamed, io_ring_from, io_rings_of, io_around, io_found_turns, io_found_corners, io_corners, io_check_square, io_turns, io__law_town, io__law_draw, io__law_order, io__law_hangs, io__law_round, io__law_back, io_law], rfl⟩
              simp only [q, x_memD, r_ring h7 hc k hin, x_app _ _ rl, e, x_dict (orb c i) (by omega), x_isD, x_upd (adds (orb c i) []) l (by omega), List.map_append, q_ev_0, q_ev_1, q_ev_2, q_ev_3, q_ev_4, q_ev_5, q_ev_6, q_ev_7, q_ev_8, q_ev_9, q_ev_10, q_ev_11, q_ev_12, q_ev_13, q_ev_14, q_ev_15, q_ev_16, q_ev_17, q_ev_18, q_ev_19, q_ev_20, q_ev_21, q_ev_22, q_ev_23, q_ev_24, q_ev_25, q_ev_26, q_ev_27, q_ev_29, q_ev_30, q_evC_0, q_evC_1, q_evAnd_0, q_evAnd_1, q_evOr_0, q_evOr_1, q_evO_0, q_evO_1, q_evA_0, q_evA_1, q_evD_0, q_evD_1, q_evI_0, q_evI_1, q_evI_2, q_evI_3, q_evI_4, q_exec_0, q_exec_1, q_exec_2, q_exec_3, q_exec_4, q_exec_5, q_exec_6, q_exec_7, q_exec_8, q_exec_9, q_exec_10, q_exec_11, q_exec_12, q_exec_13, q_exec_14, q_tst, bd_ok, bq_ok, R.bind, rdv, mvv, pkv, put, chg, Vl.fz, Vl.res, B.dat, asBool, Dat.asInt?, handed, Dat.backTo, refsOf, noDup, okO, newIo, newCount, startG, outsG, stP, stQ, stVs, x_items1, x_items2, items_tp, items_ls, x_ty1, x_ty2, x_ty3, isTy_tp, x_len1, x_len2, x_len3, len_tp, len_ls, x_tup1, x_tup2, tuple_ls, x_lst1, x_lst2, list_ls, list_tp, x_neg, x_add, x_sub, x_lt, x_le, x_gt, x_ge, x_eqI, x_neI, x_eqB, x_neB, x_eqT, x_neT, x_neL, x_neL0, x_notin, x_memL, x_frz1, x_frz2, frz_tp, frz_ls, x_isL, isLst_ls, x_seq1, x_slot, x_slotf, x_sloto,
  List.getElem?_cons_zero, List.getElem?_cons_succ, List.set_cons_zero, List.set_cons_succ, List.zip_cons_cons, List.zip_nil_right, List.zip_nil_left, List.map_cons, List.map_nil, List.nil_append, List.cons_append, List.length_cons, List.length_nil, List.replicate, if_true, if_false, ite_true, ite_false, Bool.not_true, Bool.not_false, Bool.not_eq_true', Bool.true_or, Bool.false_or, Bool.or_true, Bool.or_false, Bool.true_and, Bool.false_and, Bool.and_true, Bool.and_false, reduceCtorEq, Nat.reduceSub, Nat.reduceAdd, Nat.zero_add, Nat.reduceLeDiff, List.contains_nil, List.contains_cons, decide_true, decide_false, Bool.false_eq_true, and_self, and_true, true_and, ↓reduceIte, io_is_between, io_is_exchange, io_walk, io_is_round, io_check_round, io_back, io_with_names, io_renamed, io_ring_from, io_rings_of, io_around, io_found_turns, io_found_corners, io_corners, io_check_square, io_turns, io__law_town, io__law_draw, io__law_order, io__law_hangs, io__law_round, io__law_back, io_law]
          · by_cases q : i ∈ l
            · simp only [q, if_true]; omega
            · simp only [q, if_false]; omega
          · intro x
            have step : (∃ m, m < i + 1 ∧ minO c m = true ∧ x ∈ orb c m) ↔ (∃ m, m < i ∧ minO c m = true ∧ x ∈ orb c m) ∨ (minO c i = true ∧ x ∈ orb c i) := by
              constructor
              · rintro ⟨m, b1, b2, b3⟩
                by_cases q : m = i
                · rw [q] at b2 b3; exact .inr ⟨b2, b3⟩
                · exact .inl ⟨m, by omega, b2, b3⟩
              · rintro (⟨m, b1, b2, b3⟩ | ⟨b2, b3⟩)
                · exact ⟨m, by omega, b2, b3⟩
                · exact ⟨i, by omega, b2, b3⟩
            rw [step, ← hm x]
            by_cases q : i ∈ l
            · have nm : ¬ minO c i = true := fun z => mi.mp z q
              simp [q, nm]
            · have im : minO c i = true := mi.mpr q
              simp only [q, if_false, im, true_and]
              rw [mem_adds h7 hc, mem_adds h7 hc]
              simp
      · have z : n - i = 0 := by omega
        rw [z] at hds
        cases hds)
    ⟨0, [], none, rfl, by rw [List.range_eq_range']; rfl, by omega, nio_none, by simp, fun x => by simp⟩
  have hi' : i = n := by
    apply Classical.byContradiction
    intro hn
    have z : n - i = (n - (i + 1)) + 1 := by omega
    rw [z, List.range'_succ, List.map_cons] at hds
    cases hds
  subst hi'
  have er : ringsTo c i = rings c := by unfold ringsTo rings; rw [hc.len]
  rw [er] at hg
  subst hg
  exact ⟨l, j3, none, e⟩
theorem r_rings (k : Nat) : run P (k + 2) 9 [tp c] = .ok (.o (.list ((rings c).map ls)), []) := by
  obtain ⟨l, j3, j4, e⟩ := w_rings h7 hc k
  rw [run_at at_rings_of rfl rfl]
  have e0 : mp [] = .dict [] := rfl
  rw [e0] at e
  have d0 : altPairs [] = some [] := rfl
  have d1 : kOks [] = true := rfl
  simp only [bodyR, F_rings_of, e, d0, d1, R.ofO, dMerge, Nat.zero_le, q_ev_0, q_ev_1, q_ev_2, q_ev_3, q_ev_4, q_ev_5, q_ev_6, q_ev_7, q_ev_8, q_ev_9, q_ev_10, q_ev_11, q_ev_12, q_ev_13, q_ev_14, q_ev_15, q_ev_16, q_ev_17, q_ev_18, q_ev_19, q_ev_20, q_ev_21, q_ev_22, q_ev_23, q_ev_24, q_ev_25, q_ev_26, q_ev_27, q_ev_29, q_ev_30, q_evC_0, q_evC_1, q_evAnd_0, q_evAnd_1, q_evOr_0, q_evOr_1, q_evO_0, q_evO_1, q_evA_0, q_evA_1, q_evD_0, q_evD_1, q_evI_0, q_evI_1, q_evI_2, q_evI_3, q_evI_4, q_exec_0, q_exec_1, q_exec_2, q_exec_3, q_exec_4, q_exec_5, q_exec_6, q_exec_7, q_exec_8, q_exec_9, q_exec_10, q_exec_11, q_exec_12, q_exec_13, q_exec_14, q_tst, bd_ok, bq_ok, R.bind, rdv, mvv, pkv, put, chg, Vl.fz, Vl.res, B.dat, asBool, Dat.asInt?, handed, Dat.backTo, refsOf, noDup, okO, newIo, newCount, startG, outsG, stP, stQ, stVs, x_items1, x_items2, items_tp, items_ls, x_ty1, x_ty2, x_ty3, isTy_tp, x_len1, x_len2, x_len3, len_tp, len_ls, x_tup1, x_tup2, tuple_ls, x_lst1, x_lst2, list_ls, list_tp, x_neg, x_add, x_sub, x_lt, x_le, x_gt, x_ge, x_eqI, x_neI, x_eqB, x_neB, x_eqT, x_neT, x_neL, x_neL0, x_notin, x_memL, x_frz1, x_frz2, frz_tp, frz_ls, x_isL, isLst_ls, x_seq1, x_slot, x_slotf, x_sloto,
  List.getElem?_cons_zero, List.getElem?_cons_succ, List.set_cons_zero, List.set_cons_succ, List.zip_cons_cons, List.zip_nil_right, List.zip_nil_left, List.map_cons, List.map_nil, List.nil_append, List.cons_append, List.length_cons, List.length_nil, List.replicate, if_true, if_false, ite_true, ite_false, Bool.not_true, Bool.not_false, Bool.not_eq_true', Bool.true_or, Bool.false_or, Bool.or_true, Bool.or_false, Bool.true_and, Bool.false_and, Bool.and_true, Bool.and_false, reduceCtorEq, Nat.reduceSub, Nat.reduceAdd, Nat.zero_add, Nat.reduceLeDiff, List.contains_nil, List.contains_cons, decide_true, decide_false, Bool.false_eq_true, and_self, and_true, true_and, ↓reduceIte, io_is_between, io_is_exchange, io_walk, io_is_round, io_check_round, io_back, io_with_names, io_renamed, io_ring_from, io_rings_of, io_around, io_found_turns, io_found_corners, io_corners, io_check_square, io_turns, io__law_town, io__law_draw, io__law_order, io__law_hangs, io__law_round, io__law_back, io_law]
end
end Law_shearsquares_k12_corners

namespace Law_shearsquares_k12_corners
open PySem (PyData)
open Dat Plain
theorem ins_eq (x : Nat) (l : List Nat) : insN' x l = insN x l := by
  induction l with
  | nil => rfl
  | cons y r ih => unfold insN' insN; rw [ih]
theorem srt_eq (l : List Nat) : srtN' l = srtN l := by
  induction l with
  | nil => rfl
  | cons y r ih => unfold srtN' srtN; rw [ih, ins_eq]
theorem w_ft1 (io : Io) (cf : Caller) (x : D) (f ring : List Nat) (j3 : Option B) (n3 : nio j3) (hr : ∀ y ∈ ring, y < f.length) :
    ∃ f' j3', Dat.exec io cf W_found_turns_1 [some (.frz x), some (.own (ls f)), some (.frz (ls ring)), j3] = .ok (.nx [some (.frz x), some (.own (ls f')), some (.frz (ls ring)), j3']) ∧ nio j3' ∧ f'.length = f.length ∧ ∀ y, at' f' y = if y ∈ ring then ring.length else at' f y := by
  obtain ⟨g', e, dn, rest, f', j3', hg, hds, hr2, n3', fl, ff⟩ := for_inv (io := io) (cf := cf) (W := W_found_turns_1) (g := [some (.frz x), some (.own (ls f)), some (.frz (ls ring)), j3]) (g1 := [some (.frz x), some (.own (ls f)), some (.frz (ls ring)), j3]) (ds := ring.map fun n : Nat => PyData.int (n : Int)) rfl (by simp only [q_ev_0, q_ev_1, q_ev_2, q_ev_3, q_ev_4, q_ev_5, q_ev_6, q_ev_7, q_ev_8, q_ev_9, q_ev_10, q_ev_11, q_ev_12, q_ev_13, q_ev_14, q_ev_15, q_ev_16, q_ev_17, q_ev_18, q_ev_19, q_ev_20, q_ev_21, q_ev_22, q_ev_23, q_ev_24, q_ev_25, q_ev_26, q_ev_27, q_ev_29, q_ev_30, q_evC_0, q_evC_1, q_evAnd_0, q_evAnd_1, q_evOr_0, q_evOr_1, q_evO_0, q_evO_1, q_evA_0, q_evA_1, q_evD_0, q_evD_1, q_evI_0, q_evI_1, q_evI_2, q_evI_3, q_evI_4, q_exec_0, q_exec_1, q_exec_2, q_exec_3, q_exec_4, q_exec_5, q_exec_6, q_exec_7, q_exec_8, q_exec_9, q_exec_10, q_exec_11, q_exec_12, q_exec_13, q_exec_14, q_tst, bd_ok, bq_ok, R.bind, rdv, mvv, pkv, put, chg, Vl.fz, Vl.res, B.dat, asBool, Dat.asInt?, handed, Dat.backTo, refsOf, noDup, okO, newIo, newCount, startG, outsG, stP, stQ, stVs, x_items1, x_items2, items_tp, items_ls, x_ty1, x_ty2, x_ty3, isTy_tp, x_len1, x_len2, x_len3, len_tp, len_ls, x_tup1, x_tup2, tuple_ls, x_lst1, x_lst2, list_ls, list_tp, x_neg, x_add, x_sub, x_lt, x_le, x_gt, x_ge, x_eqI, x_neI, x_eqB, x_neB, x_eqT, x_neT, x_neL, x_neL0, x_notin, x_memL, x_frz1, x_frz2, frz_tp, frz_ls, x_isL, isLst_ls, x_seq1, x_slot, x_slotf, x_sloto,
  List.getElem?_cons_zero, List.getElem?_cons_succ, List.set_cons_zero, List.set_cons_succ, List.zip_cons_cons, List.zip_nil_right, List.zip_nil_left, List.map_cons, List.map_nil, List.nil_append, List.cons_append, List.length_cons, List.length_nil, List.replicate, if_true, if_false, ite_true, ite_false, Bool.not_true, Bool.not_false, Bool.not_eq_true', Bool.true_or, Bool.false_or, Bool.or_true, Bool.or_false, Bool.true_and, Bool.false_and, Bool.and_true, Bool.and_false, reduceCtorEq, Nat.reduceSub, Nat.reduceAdd, Nat.zero_add, Nat.reduceLeDiff, List.contains_nil, List.contains_cons, decide_true, decide_false, Bool.false_eq_true, and_self, and_true, true_and, ↓reduceIte, io_is_between, io_is_exchange, io_walk, io_is_round, io_check_round, io_back, io_with_names, io_renamed, io_ring_from, io_rings_of, io_around, io_found_turns, io_found_corners, io_corners, io_check_square, io_turns, io__law_town, io__law_draw, io__law_order, io__law_hangs, io__law_round, io__law_back, io_law])
    (fun ds g => ∃ (dn rest f' : List Nat) (j3' : Option B), g = [some (.frz x), some (.own (ls f')), some (.frz (ls ring)), j3'] ∧ ds = rest.map (fun n : Nat => PyData.int (n : Int)) ∧ ring = dn ++ rest ∧ nio j3' ∧ f'.length = f.length ∧ ∀ y, at' f' y = if y ∈ dn then ring.length else at' f y)
    (fun d r g ⟨dn, rest, f', j3', hg, hds, hr2, n3', fl, ff⟩ => by
      cases rest with
      | nil => cases hds
      | cons s rest =>
        rw [List.map_cons] at hds
        injection hds with h1 h2
        subst hg h1
        have hs : s < f'.length := by rw [fl]; exact hr s (by rw [hr2]; simp)
        refine ⟨[some (.frz x), some (.own (ls f')), some (.frz (ls ring)), some (.frz (.int (s : Int)))], [some (.frz x), some (.own (ls (f'.set s ring.length))), some (.frz (ls ring)), some (.frz (.int (s : Int)))], ?_, ?_, dn ++ [s], rest, f'.set s ring.length, _, rfl, h2, by rw [hr2]; simp, nio_f _, by simpa using fl, ?_⟩
        · rcases nio_cases n3' with rfl | ⟨d, rfl⟩ | ⟨d, rfl⟩ <;> simp only [q_ev_0, q_ev_1, q_ev_2, q_ev_3, q_ev_4, q_ev_5, q_ev_6, q_ev_7, q_ev_8, q_ev_9, q_ev_10, q_ev_11, q_ev_12, q_ev_13, q_ev_14, q_ev_15, q_ev_16, q_ev_17, q_ev_18, q_ev_19, q_ev_20, q_ev_21, q_ev_22, q_ev_23, q_ev_24, q_ev_25, q_ev_26, q_ev_27, q_ev_29, q_ev_30, q_evC_0, q_evC_1, q_evAnd_0, q_evAnd_1, q_evOr_0, q_evOr_1, q_evO_0, q_evO_1, q_evA_0, q_evA_1, q_evD_0, q_evD_1, q_evI_0, q_evI_1, q_evI_2, q_evI_3, q_evI_4, q_exec_0, q_exec_1, q_exec_2, q_exec_3, q_exec_4, q_exec_5, q_exec_6, q_exec_7, q_exec_8, q_exec_9, q_exec_10, q_exec_11, q_exec_12, q_exec_13, q_exec_14, q_tst, bd_ok, bq_ok, R.bind, rdv, mvv, pkv, put, chg, Vl.fz, Vl.res, B.dat, asBool, Dat.asInt?, handed, Dat.backTo, refsOf, noDup, okO, newIo, newCount, startG, outsG, stP, stQ, stVs, x_items1, x_items2, items_tp, items_ls, x_ty1, x_ty2, x_ty3, isTy_tp, x_len1, x_len2, x_len3, len_tp, len_ls, x_tup1, x_tup2, tuple_ls, x_lst1, x_lst2, list_ls, list_tp, x_neg, x_add, x_sub, x_lt, x_le, x_gt, x_ge, x_eqI, x_neI, x_eqB, x_neB, x_eqT, x_neT, x_neL, x_neL0, x_notin, x_memL, x_frz1, x_frz2, frz_tp, frz_ls, x_isL, isLst_ls, x_seq1, x_slot, x_slotf, x_sloto,
  List.getElem?_cons_zero, List.getElem?_cons_succ, List.set_cons_zero, List.set_cons_succ, List.zip_cons_cons, List.zip_nil_right, List.zip_nil_left, List.map_cons, List.map_nil, List.nil_append, List.cons_append, List.length_cons, List.length_nil, List.replicate, if_true, if_false, ite_true, ite_false, Bool.not_true, Bool.not_false, Bool.not_eq_true', Bool.true_or, Bool.false_or, Bool.or_true, Bool.or_false, Bool.true_and, Bool.false_and, Bool.and_true, Bool.and_false, reduceCtorEq, Nat.reduceSub, Nat.reduceAdd, Nat.zero_add, Nat.reduceLeDiff, List.contains_nil, List.contains_cons, decide_true, decide_false, Bool.false_eq_true, and_self, and_true, true_and, ↓reduceIte, io_is_between, io_is_exchange, io_walk, io_is_round, io_check_round, io_back, io_with_names, io_renamed, io_ring_from, io_rings_of, io_around, io_found_turns, io_found_corners, io_corners, io_check_square, io_turns, io__law_town, io__law_draw, io__law_order, io__law_hangs, io__law_round, io__law_back, io_law]
        · simp only [setI_ls f' s _ hs, q_ev_0, q_ev_1, q_ev_2, q_ev_3, q_ev_4, q_ev_5, q_ev_6, q_ev_7, q_ev_8, q_ev_9, q_ev_10, q_ev_11, q_ev_12, q_ev_13, q_ev_14, q_ev_15, q_ev_16, q_ev_17, q_ev_18, q_ev_19, q_ev_20, q_ev_21, q_ev_22, q_ev_23, q_ev_24, q_ev_25, q_ev_26, q_ev_27, q_ev_29, q_ev_30, q_evC_0, q_evC_1, q_evAnd_0, q_evAnd_1, q_evOr_0, q_evOr_1, q_evO_0, q_evO_1, q_evA_0, q_evA_1, q_evD_0, q_evD_1, q_evI_0, q_evI_1, q_evI_2, q_evI_3, q_evI_4, q_exec_0, q_exec_1, q_exec_2, q_exec_3, q_exec_4, q_exec_5, q_exec_6, q_exec_7, q_exec_8, q_exec_9, q_exec_10, q_exec_11, q_exec_12, q_exec_13, q_exec_14, q_tst, bd_ok, bq_ok, R.bind, rdv, mvv, pkv, put, chg, Vl.fz, Vl.res, B.dat, asBool, Dat.asInt?, handed, Dat.backTo, refsOf, noDup, okO, newIo, newCount, startG, outsG, stP, stQ, stVs, x_items1, x_items2, items_tp, items_ls, x_ty1, x_ty2, x_ty3, isTy_tp, x_len1, x_len2, x_len3, len_tp, len_ls, x_tup1, x_tup2, tuple_ls, x_lst1, x_lst2, list_ls, list_tp, x_neg, x_add, x_sub, x_lt, x_le, x_gt, x_ge, x_eqI, x_neI, x_eqB, x_neB, x_eqT, x_neT, x_neL, x_neL0, x_notin, x_memL, x_frz1, x_frz2, frz_tp, frz_ls, x_isL, isLst_ls, x_seq1, x_slot, x_slotf, x_sloto,
  List.getElem?_cons_zero, List.getElem?_cons_succ, List.set_cons_zero, List.set_cons_succ, List.zip_cons_cons, List.zip_nil_right, List.zip_nil_left, List.map_cons, List.map_nil, List.nil_append, List.cons_append, List.length_cons, List.length_nil, List.replicate, if_true, if_false, ite_true, ite_false, Bool.not_true, Bool.not_false, Bool.not_eq_true', Bool.true_or, Bool.false_or, Bool.or_true, Bool.or_false, Bool.true_and, Bool.false_and, Bool.and_true, Bool.and_false, reduceCtorEq, Nat.reduceSub, Nat.reduceAdd, Nat.zero_add, Nat.reduceLeDiff, List.contains_nil, List.contains_cons, decide_true, decide_false, Bool.false_eq_true, and_self, and_true, true_and, ↓reduceIte, io_is_between, io_is_exchange, io_walk, io_is_round, io_check_round, io_back, io_with_names, io_renamed, io_ring_from, io_rings_of, io_around, io_found_turns, io_found_corners, io_corners, io_check_square, io_turns, io__law_town, io__law_draw, io__law_order, io__law_hangs, io__law_round, io__law_back, io_law]
        · intro y
          rw [at_set hs, ff y]
          by_cases q : s = y
          · subst q; simp
          · have : ¬ y = s := fun z => q z.symm
            simp [q, this])
    ⟨[], ring, f, j3, rfl, rfl, rfl, n3, rfl, fun y => by simp⟩
  cases rest with
  | cons s rest => cases hds
  | nil =>
    rw [List.append_nil] at hr2
    subst hr2
    subst hg
    exact ⟨f', j3', e, n3', fl, ff⟩
section
variable {n : Nat} {r u : List Nat} (h7 : n ≤ 7) (hr : IsP n r) (hu : IsP n u)
include h7 hr hu
theorem ring_of {c : List Nat} (hc : IsP n c) {ring : List Nat} (h : ring ∈ rings c) : ∃ s, s < n ∧ ring = orb c s := by
  unfold rings at h
  obtain ⟨s, hs, rfl⟩ := List.mem_map.mp h
  have := (List.mem_filter.mp hs).1
  rw [hc.len] at this
  exact ⟨s, List.mem_range.mp this, rfl⟩
theorem w_ft2 (k : Nat) : ∃ j2 j3, Dat.exec (ioOf P) (run P (k + 2)) W_found_turns_2 [some (.frz (pr r u)), some (.own (ls (List.replicate n 0))), none, none] = .ok (.nx [some (.frz (pr r u)), some (.own (ls (turnL (com r u)))), j2, j3]) := by
  have hc := com_isP hr hu
  obtain ⟨g', e, dn, rest, f', j2, j3, hg, hds, hr2, n2, n3, fl, ff⟩ := for_inv (io := ioOf P) (cf := run P (k + 2)) (W := W_found_turns_2) (g := [some (.frz (pr r u)), some (.own (ls (List.replicate n 0))), none, none]) (g1 := [some (.frz (pr r u)), some (.own (ls (List.replicate n 0))), none, none]) (ds := (rings (com r u)).map ls) rfl (by simp only [r_around k hr hu h7, r_rings h7 hc k, q_ev_0, q_ev_1, q_ev_2, q_ev_3, q_ev_4, q_ev_5, q_ev_6, q_ev_7, q_ev_8, q_ev_9, q_ev_10, q_ev_11, q_ev_12, q_ev_13, q_ev_14, q_ev_15, q_ev_16, q_ev_17, q_ev_18, q_ev_19, q_ev_20, q_ev_21, q_ev_22, q_ev_23, q_ev_24, q_ev_25, q_ev_26, q_ev_27, q_ev_29, q_ev_30, q_evC_0, q_evC_1, q_evAnd_0, q_evAnd_1, q_evOr_0, q_evOr_1, q_evO_0, q_evO_1, q_evA_0, q_evA_1, q_evD_0, q_evD_1, q_evI_0, q_evI_1, q_evI_2, q_evI_3, q_evI_4, q_exec_0, q_exec_1, q_exec_2, q_exec_3, q_exec_4, q_exec_5, q_exec_6, q_exec_7, q_exec_8, q_exec_9, q_exec_10, q_exec_11, q_exec_12, q_exec_13, q_exec_14, q_tst, bd_ok, bq_ok, R.bind, rdv, mvv, pkv, put, chg, Vl.fz, Vl.res, B.dat, asBool, Dat.asInt?, handed, Dat.backTo, refsOf, noDup, okO, newIo, newCount, startG, outsG, stP, stQ, stVs, x_items1, x_items2, items_tp, items_ls, x_ty1, x_ty2, x_ty3, isTy_tp, x_len1, x_len2, x_len3, len_tp, len_ls, x_tup1, x_tup2, tuple_ls, x_lst1, x_lst2, list_ls, list_tp, x_neg, x_add, x_sub, x_lt, x_le, x_gt, x_ge, x_eqI, x_neI, x_eqB, x_neB, x_eqT, x_neT, x_neL, x_neL0, x_notin, x_memL, x_frz1, x_frz2, frz_tp, frz_ls, x_isL, isLst_ls, x_seq1, x_slot, x_slotf, x_sloto,
  List.getElem?_cons_zero, List.getElem?_cons_succ, List.set_cons_zero, List.set_cons_succ, List.zip_cons_cons, List.zip_nil_right, List.zip_nil_left, List.map_cons, List.map_nil, List.nil_append, List.cons_append, List.length_cons, List.length_nil, List.replicate, if_true, if_false, ite_true, ite_false, Bool.not_true, Bool.not_false, Bool.not_eq_true', Bool.true_or, Bool.false_or, Bool.or_true, Bool.or_false, Bool.true_and, Bool.false_and, Bool.and_true, Bool.and_false, reduceCtorEq, Nat.reduceSub, Nat.reduceAdd, Nat.zero_add, Nat.reduceLeDiff, List.contains_nil, List.contains_cons, decide_true, decide_false, Bool.false_eq_true, and_self, and_true, true_and, ↓reduceIte, io_is_between, io_is_exchange, io_walk, io_is_round, io_check_round, io_back, io_with_names, io_renamed, io_ring_from, io_rings_of, io_around, io_found_turns, io_found_corners, io_corners, io_check_square, io_turns, io__law_town, io__law_draw, io__law_order, io__law_hangs, io__law_round, io__law_back, io_law])
    (fun ds g => ∃ (dn rest : List (List Nat)) (f' : List Nat) (j2 j3 : Option B), g = [some (.frz (pr r u)), some (.own (ls f')), j2, j3] ∧ ds = rest.map ls ∧ rings (com r u) = dn ++ rest ∧ nio j2 ∧ nio j3 ∧ f'.length = n ∧ ∀ y, y < n → (∃ ring ∈ dn, y ∈ ring) → at' f' y = (orb (com r u) y).length)
    (fun d rr g ⟨dn, rest, f', j2, j3, hg, hds, hr2, n2, n3, fl, ff⟩ => by
      cases rest with
      | nil => cases hds
      | cons ring rest =>
        rw [List.map_cons] at hds
        injection hds with h1 h2
        subst hg h1
        obtain ⟨s, hs, er⟩ := ring_of h7 hr hu hc (ring := ring) (by rw [hr2]; simp)
        obtain ⟨f2, j3', e2, n3', fl2, ff2⟩ := w_ft1 (ioOf P) (run P (k + 2)) (pr r u) f' ring j3 n3 fun y hy => by rw [fl]; rw [er] at hy; exact orb_lt h7 hc hs hy
        refine ⟨[some (.frz (pr r u)), some (.own (ls f')), some (.frz (ls ring)), j3], _, ?_, e2, dn ++ [ring], rest, f2, _, _, rfl, h2, by rw [hr2]; simp, nio_f _, n3', by omega, ?_⟩
        · rcases nio_cases n2 with rfl | ⟨d, rfl⟩ | ⟨d, rfl⟩ <;> simp only [q_ev_0, q_ev_1, q_ev_2, q_ev_3, q_ev_4, q_ev_5, q_ev_6, q_ev_7, q_ev_8, q_ev_9, q_ev_10, q_ev_11, q_ev_12, q_ev_13, q_ev_14, q_ev_15, q_ev_16, q_ev_17, q_ev_18, q_ev_19, q_ev_20, q_ev_21, q_ev_22, q_ev_23, q_ev_24, q_ev_25, q_ev_26, q_ev_27, q_ev_29, q_ev_30, q_evC_0, q_evC_1, q_evAnd_0, q_evAnd_1, q_evOr_0, q_evOr_1, q_evO_0, q_evO_1, q_evA_0, q_evA_1, q_evD_0, q_evD_1, q_evI_0, q_evI_1, q_evI_2, q_evI_3, q_evI_4, q_exec_0, q_exec_1, q_exec_2, q_exec_3, q_exec_4, q_exec_5, q_exec_6, q_exec_7, q_exec_8, q_exec_9, q_exec_10, q_exec_11, q_exec_12, q_exec_13, q_exec_14, q_tst, bd_ok, bq_ok, R.bind, rdv, mvv, pkv, put, chg, Vl.fz, Vl.res, B.dat, asBool, Dat.asInt?, handed, Dat.backTo, refsOf, noDup, okO, newIo, newCount, startG, outsG, stP, stQ, stVs, x_items1, x_items2, items_tp, items_ls, x_ty1, x_ty2, x_ty3, isTy_tp, x_len1, x_len2, x_len3, len_tp, len_ls, x_tup1, x_tup2, tuple_ls, x_lst1, x_lst2, list_ls, list_tp, x_neg, x_add, x_sub, x_lt, x_le, x_gt, x_ge, x_eqI, x_neI, x_eqB, x_neB, x_eqT, x_neT, x_neL, x_neL0, x_notin, x_memL, x_frz1, x_frz2, frz_tp, frz_ls, x_isL, isLst_ls, x_seq1, x_slot, x_slotf, x_sloto,
  List.getElem?_cons_zero, List.getElem?_cons_succ, List.set_cons_zero, List.set_cons_succ, List.zip_cons_cons, List.zip_nil_right, List.zip_nil_left, List.map_cons, List.map_nil, List.nil_append, List.cons_append, List.length_cons, List.length_nil, List.replicate, if_true, if_false, ite_true, ite_false, Bool.not_true, Bool.not_false, Bool.not_eq_true', Bool.true_or, Bool.false_or, Bool.or_true, Bool.or_false, Bool.true_and, Bool.false_and, Bool.and_true, Bool.and_false, reduceCtorEq, Nat.reduceSub, Nat.reduceAdd, Nat.zero_add, Nat.reduceLeDiff, List.contains_nil, List.contains_cons, decide_true, decide_false, Bool.false_eq_true, and_self, and_true, true_and, ↓reduceIte, io_is_between, io_is_exchange, io_walk, io_is_round, io_check_round, io_back, io_with_names, io_renamed, io_ring_from, io_rings_of, io_around, io_found_turns, io_found_corners, io_corners, io_check_square, io_turns, io__law_town, io__law_draw, io__law_order, io__law_hangs, io__law_round, io__law_back, io_law]
        · intro y hy hex
          rw [ff2 y]
          by_cases q : y ∈ ring
          · rw [if_pos q]
            rw [er] at q ⊢
            exact (orb_same h7 hc hs q).symm
          · rw [if_neg q]
            obtain ⟨ring', hm, hy'⟩ := hex
            rcases List.mem_append.mp hm with hm | hm
            · exact ff y hy ⟨ring', hm, hy'⟩
            · rw [List.mem_singleton] at hm
              subst hm
              exact absurd hy' q)
    ⟨[], _, _, none, none, rfl, rfl, rfl, nio_none, nio_none, by simp, fun y _ ⟨_, hm, _⟩ => by simp at hm⟩
  cases rest with
  | cons s rest => cases hds
  | nil =>
    rw [List.append_nil] at hr2
    have ef : f' = turnL (com r u) := by
      refine ext_at fl (by unfold turnL; simp [hc.len]) fun y hy => ?_
      rw [ff y hy ?_]
      · unfold turnL
        rw [hc.len]
        exact (at_ofF (f := fun s => (orb (com r u) s).length) hy).symm
      · obtain ⟨m, m1, m2, m3⟩ := min_ex h7 hc y hy
        refine ⟨orb (com r u) m, ?_, m3⟩
        rw [← hr2]
        unfold rings
        exact List.mem_map.mpr ⟨m, List.mem_filter.mpr ⟨List.mem_range.mpr (by rw [hc.len]; omega), m2⟩, rfl⟩
    subst hg ef
    exact ⟨j2, j3, e⟩
theorem r_ft (k : Nat) : run P (k + 3) 11 [pr r u] = .ok (.o (ls (turnL (com r u))), []) := by
  obtain ⟨j2, j3, e⟩ := w_ft2 h7 hr hu k
  rw [run_at at_found_turns rfl rfl]
  simp only [bodyR, F_found_turns, ix_pr0, hr.len, x_rep0 n (by omega), e, q_ev_0, q_ev_1, q_ev_2, q_ev_3, q_ev_4, q_ev_5, q_ev_6, q_ev_7, q_ev_8, q_ev_9, q_ev_10, q_ev_11, q_ev_12, q_ev_13, q_ev_14, q_ev_15, q_ev_16, q_ev_17, q_ev_18, q_ev_19, q_ev_20, q_ev_21, q_ev_22, q_ev_23, q_ev_24, q_ev_25, q_ev_26, q_ev_27, q_ev_29, q_ev_30, q_evC_0, q_evC_1, q_evAnd_0, q_evAnd_1, q_evOr_0, q_evOr_1, q_evO_0, q_evO_1, q_evA_0, q_evA_1, q_evD_0, q_evD_1, q_evI_0, q_evI_1, q_evI_2, q_evI_3, q_evI_4, q_exec_0, q_exec_1, q_exec_2, q_exec_3, q_exec_4, q_exec_5, q_exec_6, q_exec_7, q_exec_8, q_exec_9, q_exec_10, q_exec_11, q_exec_12, q_exec_13, q_exec_14, q_tst, bd_ok, bq_ok, R.bind, rdv, mvv, pkv, put, chg, Vl.fz, Vl.res, B.dat, asBool, Dat.asInt?, handed, Dat.backTo, refsOf, noDup, okO, newIo, newCount, startG, outsG, stP, stQ, stVs, x_items1, x_items2, items_tp, items_ls, x_ty1, x_ty2, x_ty3, isTy_tp, x_len1, x_len2, x_len3, len_tp, len_ls, x_tup1, x_tup2, tuple_ls, x_lst1, x_lst2, list_ls, list_tp, x_neg, x_add, x_sub, x_lt, x_le, x_gt, x_ge, x_eqI, x_neI, x_eqB, x_neB, x_eqT, x_neT, x_neL, x_neL0, x_notin, x_memL, x_frz1, x_frz2, frz_tp, frz_ls, x_isL, isLst_ls, x_seq1, x_slot, x_slotf, x_sloto,
  List.getElem?_cons_zero, List.getElem?_cons_succ, List.set_cons_zero, List.set_cons_succ, List.zip_cons_cons, List.zip_nil_right, List.zip_nil_left, List.map_cons, List.map_nil, List.nil_append, List.cons_append, List.length_cons, List.length_nil, List.replicate, if_true, if_false, ite_true, ite_false, Bool.not_true, Bool.not_false, Bool.not_eq_true', Bool.true_or, Bool.false_or, Bool.or_true, Bool.or_false, Bool.true_and, Bool.false_and, Bool.and_true, Bool.and_false, reduceCtorEq, Nat.reduceSub, Nat.reduceAdd, Nat.zero_add, Nat.reduceLeDiff, List.contains_nil, List.contains_cons, decide_true, decide_false, Bool.false_eq_true, and_self, and_true, true_and, ↓reduceIte, io_is_between, io_is_exchange, io_walk, io_is_round, io_check_round, io_back, io_with_names, io_renamed, io_ring_from, io_rings_of, io_around, io_found_turns, io_found_corners, io_corners, io_check_square, io_turns, io__law_town, io__law_draw, io__law_order, io__law_hangs, io__law_round, io__law_back, io_law]
theorem r_fc (k : Nat) : run P (k + 3) 12 [pr r u] = .ok (.f (tp (corn (com r u))), []) := by
  have hc := com_isP hr hu
  have rl : (rings (com r u)).length ≤ 7 := by
    unfold rings
    rw [List.length_map]
    have := List.length_filter_le (minO (com r u)) (List.range (com r u).length)
    rw [hc.len] at this
    simp at this
    rw [hc.len]
    omega
  have e := lc_map (io := ioOf P) (cf := run P (k + 2)) (C := C_found_corners_1) (g := [some (.frz (pr r u)), none]) (g1 := [some (.frz (pr r u)), none]) (xs := rings (com r u)) rfl ls (fun ring => .int ((ring.length : Nat) : Int)) (by simp only [r_around k hr hu h7, r_rings h7 hc k, q_ev_0, q_ev_1, q_ev_2, q_ev_3, q_ev_4, q_ev_5, q_ev_6, q_ev_7, q_ev_8, q_ev_9, q_ev_10, q_ev_11, q_ev_12, q_ev_13, q_ev_14, q_ev_15, q_ev_16, q_ev_17, q_ev_18, q_ev_19, q_ev_20, q_ev_21, q_ev_22, q_ev_23, q_ev_24, q_ev_25, q_ev_26, q_ev_27, q_ev_29, q_ev_30, q_evC_0, q_evC_1, q_evAnd_0, q_evAnd_1, q_evOr_0, q_evOr_1, q_evO_0, q_evO_1, q_evA_0, q_evA_1, q_evD_0, q_evD_1, q_evI_0, q_evI_1, q_evI_2, q_evI_3, q_evI_4, q_exec_0, q_exec_1, q_exec_2, q_exec_3, q_exec_4, q_exec_5, q_exec_6, q_exec_7, q_exec_8, q_exec_9, q_exec_10, q_exec_11, q_exec_12, q_exec_13, q_exec_14, q_tst, bd_ok, bq_ok, R.bind, rdv, mvv, pkv, put, chg, Vl.fz, Vl.res, B.dat, asBool, Dat.asInt?, handed, Dat.backTo, refsOf, noDup, okO, newIo, newCount, startG, outsG, stP, stQ, stVs, x_items1, x_items2, items_tp, items_ls, x_ty1, x_ty2, x_ty3, isTy_tp, x_len1, x_len2, x_len3, len_tp, len_ls, x_tup1, x_tup2, tuple_ls, x_lst1, x_lst2, list_ls, list_tp, x_neg, x_add, x_sub, x_lt, x_le, x_gt, x_ge, x_eqI, x_neI, x_eqB, x_neB, x_eqT, x_neT, x_neL, x_neL0, x_notin, x_memL, x_frz1, x_frz2, frz_tp, frz_ls, x_isL, isLst_ls, x_seq1, x_slot, x_slotf, x_sloto,
  List.getElem?_cons_zero, List.getElem?_cons_succ, List.set_cons_zero, List.set_cons_succ, List.zip_cons_cons, List.zip_nil_right, List.zip_nil_left, List.map_cons, List.map_nil, List.nil_append, List.cons_append, List.length_cons, List.length_nil, List.replicate, if_true, if_false, ite_true, ite_false, Bool.not_true, Bool.not_false, Bool.not_eq_true', Bool.true_or, Bool.false_or, Bool.or_true, Bool.or_false, Bool.true_and, Bool.false_and, Bool.and_true, Bool.and_false, reduceCtorEq, Nat.reduceSub, Nat.reduceAdd, Nat.zero_add, Nat.reduceLeDiff, List.contains_nil, List.contains_cons, decide_true, decide_false, Bool.false_eq_true, and_self, and_true, true_and, ↓reduceIte, io_is_between, io_is_exchange, io_walk, io_is_round, io_check_round, io_back, io_with_names, io_renamed, io_ring_from, io_rings_of, io_around, io_found_turns, io_found_corners, io_corners, io_check_square, io_turns, io__law_town, io__law_draw, io__law_order, io__law_hangs, io__law_round, io__law_back, io_law]) (by omega) (by simp) (by simp) fun x hx => ⟨.f (.int ((x.length : Nat) : Int)), by simp only [q_ev_0, q_ev_1, q_ev_2, q_ev_3, q_ev_4, q_ev_5, q_ev_6, q_ev_7, q_ev_8, q_ev_9, q_ev_10, q_ev_11, q_ev_12, q_ev_13, q_ev_14, q_ev_15, q_ev_16, q_ev_17, q_ev_18, q_ev_19, q_ev_20, q_ev_21, q_ev_22, q_ev_23, q_ev_24, q_ev_25, q_ev_26, q_ev_27, q_ev_29, q_ev_30, q_evC_0, q_evC_1, q_evAnd_0, q_evAnd_1, q_evOr_0, q_evOr_1, q_evO_0, q_evO_1, q_evA_0, q_evA_1, q_evD_0, q_evD_1, q_evI_0, q_evI_1, q_evI_2, q_evI_3, q_evI_4, q_exec_0, q_exec_1, q_exec_2, q_exec_3, q_exec_4, q_exec_5, q_exec_6, q_exec_7, q_exec_8, q_exec_9, q_exec_10, q_exec_11, q_exec_12, q_exec_13, q_exec_14, q_tst, bd_ok, bq_ok, R.bind, rdv, mvv, pkv, put, chg, Vl.fz, Vl.res, B.dat, asBool, Dat.asInt?, handed, Dat.backTo, refsOf, noDup, okO, newIo, newCount, startG, outsG, stP, stQ, stVs, x_items1, x_items2, items_tp, items_ls, x_ty1, x_ty2, x_ty3, isTy_tp, x_len1, x_len2, x_len3, len_tp, len_ls, x_tup1, x_tup2, tuple_ls, x_lst1, x_lst2, list_ls, list_tp, x_neg, x_add, x_sub, x_lt, x_le, x_gt, x_ge, x_eqI, x_neI, x_eqB, x_neB, x_eqT, x_neT, x_neL, x_neL0, x_notin, x_memL, x_frz1, x_frz2, frz_tp, frz_ls, x_isL, isLst_ls, x_seq1, x_slot, x_slotf, x_sloto,
  List.getElem?_cons_zero, List.getElem?_cons_succ, List.set_cons_zero, List.set_cons_succ, List.zip_cons_cons, List.zip_nil_right, List.zip_nil_left, List.map_cons, List.map_nil, List.nil_append, List.cons_append, List.length_cons, List.length_nil, List.replicate, if_true, if_false, ite_true, ite_false, Bool.not_true, Bool.not_false, Bool.not_eq_true', Bool.true_or, Bool.false_or, Bool.or_true, Bool.or_false, Bool.true_and, Bool.false_and, Bool.and_true, Bool.and_false, reduceCtorEq, Nat.reduceSub, Nat.reduceAdd, Nat.zero_add, Nat.reduceLeDiff, List.contains_nil, List.contains_cons, decide_true, decide_false, Bool.false_eq_true, and_self, and_true, true_and, ↓reduceIte, io_is_between, io_is_exchange, io_walk, io_is_round, io_check_round, io_back, io_with_names, io_renamed, io_ring_from, io_rings_of, io_around, io_found_turns, io_found_corners, io_corners, io_check_square, io_turns, io__law_town, io__law_draw, io__law_order, io__law_hangs, io__law_round, io__law_back, io_law], rfl⟩
  rw [ls_map (rings (com r u)) fun x => x.length] at e
  rw [run_at at_found_corners rfl rfl]
  have e2 : srtN' ((rings (com r u)).map fun x => x.length) = corn (com r u) := srt_eq _
  simp only [bodyR, F_found_corners, e, x_sort ((rings (com r u)).map fun x => x.length) (by rw [List.length_map]; omega), e2, q_ev_0, q_ev_1, q_ev_2, q_ev_3, q_ev_4, q_ev_5, q_ev_6, q_ev_7, q_ev_8, q_ev_9, q_ev_10, q_ev_11, q_ev_12, q_ev_13, q_ev_14, q_ev_15, q_ev_16, q_ev_17, q_ev_18, q_ev_19, q_ev_20, q_ev_21, q_ev_22, q_ev_23, q_ev_24, q_ev_25, q_ev_26, q_ev_27, q_ev_29, q_ev_30, q_evC_0, q_evC_1, q_evAnd_0, q_evAnd_1, q_evOr_0, q_evOr_1, q_evO_0, q_evO_1, q_evA_0, q_evA_1, q_evD_0, q_evD_1, q_evI_0, q_evI_1, q_evI_2, q_evI_3, q_evI_4, q_exec_0, q_exec_1, q_exec_2, q_exec_3, q_exec_4, q_exec_5, q_exec_6, q_exec_7, q_exec_8, q_exec_9, q_exec_10, q_exec_11, q_exec_12, q_exec_13, q_exec_14, q_tst, bd_ok, bq_ok, R.bind, rdv, mvv, pkv, put, chg, Vl.fz, Vl.res, B.dat, asBool, Dat.asInt?, handed, Dat.backTo, refsOf, noDup, okO, newIo, newCount, startG, outsG, stP, stQ, stVs, x_items1, x_items2, items_tp, items_ls, x_ty1, x_ty2, x_ty3, isTy_tp, x_len1, x_len2, x_len3, len_tp, len_ls, x_tup1, x_tup2, tuple_ls, x_lst1, x_lst2, list_ls, list_tp, x_neg, x_add, x_sub, x_lt, x_le, x_gt, x_ge, x_eqI, x_neI, x_eqB, x_neB, x_eqT, x_neT, x_neL, x_neL0, x_notin, x_memL, x_frz1, x_frz2, frz_tp, frz_ls, x_isL, isLst_ls, x_seq1, x_slot, x_slotf, x_sloto,
  List.getElem?_cons_zero, List.getElem?_cons_succ, List.set_cons_zero, List.set_cons_succ, List.zip_cons_cons, List.zip_nil_right, List.zip_nil_left, List.map_cons, List.map_nil, List.nil_append, List.cons_append, List.length_cons, List.length_nil, List.replicate, if_true, if_false, ite_true, ite_false, Bool.not_true, Bool.not_false, Bool.not_eq_true', Bool.true_or, Bool.false_or, Bool.or_true, Bool.or_false, Bool.true_and, Bool.false_and, Bool.and_true, Bool.and_false, reduceCtorEq, Nat.reduceSub, Nat.reduceAdd, Nat.zero_add, Nat.reduceLeDiff, List.contains_nil, List.contains_cons, decide_true, decide_false, Bool.false_eq_true, and_self, and_true, true_and, ↓reduceIte, io_is_between, io_is_exchange, io_walk, io_is_round, io_check_round, io_back, io_with_names, io_renamed, io_ring_from, io_rings_of, io_around, io_found_turns, io_found_corners, io_corners, io_check_square, io_turns, io__law_town, io__law_draw, io__law_order, io__law_hangs, io__law_round, io__law_back, io_law]
variable (h1 : 1 ≤ n) (cn : conn n r u)
include h1 cn
theorem r_corners (k : Nat) : run P (k + 5) 13 [pr r u] = .ok (.f (tp (corn (com r u))), []) := by
  rw [run_at at_corners rfl rfl]
  simp only [bodyR, F_corners, r_check k h1 h7 hr hu cn, r_fc h7 hr hu (k + 1), q_ev_0, q_ev_1, q_ev_2, q_ev_3, q_ev_4, q_ev_5, q_ev_6, q_ev_7, q_ev_8, q_ev_9, q_ev_10, q_ev_11, q_ev_12, q_ev_13, q_ev_14, q_ev_15, q_ev_16, q_ev_17, q_ev_18, q_ev_19, q_ev_20, q_ev_21, q_ev_22, q_ev_23, q_ev_24, q_ev_25, q_ev_26, q_ev_27, q_ev_29, q_ev_30, q_evC_0, q_evC_1, q_evAnd_0, q_evAnd_1, q_evOr_0, q_evOr_1, q_evO_0, q_evO_1, q_evA_0, q_evA_1, q_evD_0, q_evD_1, q_evI_0, q_evI_1, q_evI_2, q_evI_3, q_evI_4, q_exec_0, q_exec_1, q_exec_2, q_exec_3, q_exec_4, q_exec_5, q_exec_6, q_exec_7, q_exec_8, q_exec_9, q_exec_10, q_exec_11, q_exec_12, q_exec_13, q_exec_14, q_tst, bd_ok, bq_ok, R.bind, rdv, mvv, pkv, put, chg, Vl.fz, Vl.res, B.dat, asBool, Dat.asInt?, handed, Dat.backTo, refsOf, noDup, okO, newIo, newCount, startG, outsG, stP, stQ, stVs, x_items1, x_items2, items_tp, items_ls, x_ty1, x_ty2, x_ty3, isTy_tp, x_len1, x_len2, x_len3, len_tp, len_ls, x_tup1, x_tup2, tuple_ls, x_lst1, x_lst2, list_ls, list_tp, x_neg, x_add, x_sub, x_lt, x_le, x_gt, x_ge, x_eqI, x_neI, x_eqB, x_neB, x_eqT, x_neT, x_neL, x_neL0, x_notin, x_memL, x_frz1, x_frz2, frz_tp, frz_ls, x_isL, isLst_ls, x_seq1, x_slot, x_slotf, x_sloto,
  List.getElem?_cons_zero, List.getElem?_cons_succ, List.set_cons_zero, List.set_cons_succ, List.zip_cons_cons, List.zip_nil_right, List.zip_nil_left, List.map_cons, List.map_nil, List.nil_append, List.cons_append, List.length_cons, List.length_nil, List.replicate, if_true, if_false, ite_true, ite_false, Bool.not_true, Bool.not_false, Bool.not_eq_true', Bool.true_or, Bool.false_or, Bool.or_true, Bool.or_false, Bool.true_and, Bool.false_and, Bool.and_true, Bool.and_false, reduceCtorEq, Nat.reduceSub, Nat.reduceAdd, Nat.zero_add, Nat.reduceLeDiff, List.contains_nil, List.contains_cons, decide_true, decide_false, Bool.false_eq_true, and_self, and_true, true_and, ↓reduceIte, io_is_between, io_is_exchange, io_walk, io_is_round, io_check_round, io_back, io_with_names, io_renamed, io_ring_from, io_rings_of, io_around, io_found_turns, io_found_corners, io_corners, io_check_square, io_turns, io__law_town, io__law_draw, io__law_order, io__law_hangs, io__law_round, io__law_back, io_law]
omit cn in
theorem r_csq (k : Nat) {s : Nat} (hs : s < n) : run P (k + 2) 14 [pr r u, .int (s : Int)] = .ok (.f .none, []) := by
  rw [run_at at_check_square rfl rfl]
  have d1 : decide ((0 : Int) ≤ (s : Int)) = true := decide_eq_true (by omega)
  have d2 : decide ((s : Int) ≤ (n : Int) - 1) = true := decide_eq_true (by omega)
  simp only [bodyR, F_check_square, ix_pr0, hr.len, r_between, d1, d2, q_ev_0, q_ev_1, q_ev_2, q_ev_3, q_ev_4, q_ev_5, q_ev_6, q_ev_7, q_ev_8, q_ev_9, q_ev_10, q_ev_11, q_ev_12, q_ev_13, q_ev_14, q_ev_15, q_ev_16, q_ev_17, q_ev_18, q_ev_19, q_ev_20, q_ev_21, q_ev_22, q_ev_23, q_ev_24, q_ev_25, q_ev_26, q_ev_27, q_ev_29, q_ev_30, q_evC_0, q_evC_1, q_evAnd_0, q_evAnd_1, q_evOr_0, q_evOr_1, q_evO_0, q_evO_1, q_evA_0, q_evA_1, q_evD_0, q_evD_1, q_evI_0, q_evI_1, q_evI_2, q_evI_3, q_evI_4, q_exec_0, q_exec_1, q_exec_2, q_exec_3, q_exec_4, q_exec_5, q_exec_6, q_exec_7, q_exec_8, q_exec_9, q_exec_10, q_exec_11, q_exec_12, q_exec_13, q_exec_14, q_tst, bd_ok, bq_ok, R.bind, rdv, mvv, pkv, put, chg, Vl.fz, Vl.res, B.dat, asBool, Dat.asInt?, handed, Dat.backTo, refsOf, noDup, okO, newIo, newCount, startG, outsG, stP, stQ, stVs, x_items1, x_items2, items_tp, items_ls, x_ty1, x_ty2, x_ty3, isTy_tp, x_len1, x_len2, x_len3, len_tp, len_ls, x_tup1, x_tup2, tuple_ls, x_lst1, x_lst2, list_ls, list_tp, x_neg, x_add, x_sub, x_lt, x_le, x_gt, x_ge, x_eqI, x_neI, x_eqB, x_neB, x_eqT, x_neT, x_neL, x_neL0, x_notin, x_memL, x_frz1, x_frz2, frz_tp, frz_ls, x_isL, isLst_ls, x_seq1, x_slot, x_slotf, x_sloto,
  List.getElem?_cons_zero, List.getElem?_cons_succ, List.set_cons_zero, List.set_cons_succ, List.zip_cons_cons, List.zip_nil_right, List.zip_nil_left, List.map_cons, List.map_nil, List.nil_append, List.cons_append, List.length_cons, List.length_nil, List.replicate, if_true, if_false, ite_true, ite_false, Bool.not_true, Bool.not_false, Bool.not_eq_true', Bool.true_or, Bool.false_or, Bool.or_true, Bool.or_false, Bool.true_and, Bool.false_and, Bool.and_true, Bool.and_false, reduceCtorEq, Nat.reduceSub, Nat.reduceAdd, Nat.zero_add, Nat.reduceLeDiff, List.contains_nil, List.contains_cons, decide_true, decide_false, Bool.false_eq_true, and_self, and_true, true_and, ↓reduceIte, io_is_between, io_is_exchange, io_walk, io_is_round, io_check_round, io_back, io_with_names, io_renamed, io_ring_from, io_rings_of, io_around, io_found_turns, io_found_corners, io_corners, io_check_square, io_turns, io__law_town, io__law_draw, io__law_order, io__law_hangs, io__law_round, io__law_back, io_law]
theorem r_turns (k : Nat) {s : Nat} (hs : s < n) : run P (k + 5) 15 [pr r u, .int (s : Int)] = .ok (.f (.int (((orb (com r u) s).length : Nat) : Int)), []) := by
  have hc := com_isP hr hu
  rw [run_at at_turns rfl rfl]
  have a1 := ix_ls (turnL (com r u)) s (by unfold turnL; simp [hc.len]; exact hs)
  have a2 : (turnL (com r u)).getD s 0 = (orb (com r u) s).length := by
    unfold turnL
    rw [hc.len]
    exact at_ofF (f := fun s => (orb (com r u) s).length) hs
  rw [a2] at a1
  simp only [bodyR, F_turns, r_check k h1 h7 hr hu cn, r_csq h7 hr hu h1 (k + 2) hs, r_ft h7 hr hu (k + 1), a1, q_ev_0, q_ev_1, q_ev_2, q_ev_3, q_ev_4, q_ev_5, q_ev_6, q_ev_7, q_ev_8, q_ev_9, q_ev_10, q_ev_11, q_ev_12, q_ev_13, q_ev_14, q_ev_15, q_ev_16, q_ev_17, q_ev_18, q_ev_19, q_ev_20, q_ev_21, q_ev_22, q_ev_23, q_ev_24, q_ev_25, q_ev_26, q_ev_27, q_ev_29, q_ev_30, q_evC_0, q_evC_1, q_evAnd_0, q_evAnd_1, q_evOr_0, q_evOr_1, q_evO_0, q_evO_1, q_evA_0, q_evA_1, q_evD_0, q_evD_1, q_evI_0, q_evI_1, q_evI_2, q_evI_3, q_evI_4, q_exec_0, q_exec_1, q_exec_2, q_exec_3, q_exec_4, q_exec_5, q_exec_6, q_exec_7, q_exec_8, q_exec_9, q_exec_10, q_exec_11, q_exec_12, q_exec_13, q_exec_14, q_tst, bd_ok, bq_ok, R.bind, rdv, mvv, pkv, put, chg, Vl.fz, Vl.res, B.dat, asBool, Dat.asInt?, handed, Dat.backTo, refsOf, noDup, okO, newIo, newCount, startG, outsG, stP, stQ, stVs, x_items1, x_items2, items_tp, items_ls, x_ty1, x_ty2, x_ty3, isTy_tp, x_len1, x_len2, x_len3, len_tp, len_ls, x_tup1, x_tup2, tuple_ls, x_lst1, x_lst2, list_ls, list_tp, x_neg, x_add, x_sub, x_lt, x_le, x_gt, x_ge, x_eqI, x_neI, x_eqB, x_neB, x_eqT, x_neT, x_neL, x_neL0, x_notin, x_memL, x_frz1, x_frz2, frz_tp, frz_ls, x_isL, isLst_ls, x_seq1, x_slot, x_slotf, x_sloto,
  List.getElem?_cons_zero, List.getElem?_cons_succ, List.set_cons_zero, List.set_cons_succ, List.zip_cons_cons, List.zip_nil_right, List.zip_nil_left, List.map_cons, List.map_nil, List.nil_append, List.cons_append, List.length_cons, List.length_nil, List.replicate, if_true, if_false, ite_true, ite_false, Bool.not_true, Bool.not_false, Bool.not_eq_true', Bool.true_or, Bool.false_or, Bool.or_true, Bool.or_false, Bool.true_and, Bool.false_and, Bool.and_true, Bool.and_false, reduceCtorEq, Nat.reduceSub, Nat.reduceAdd, Nat.zero_add, Nat.reduceLeDiff, List.contains_nil, List.contains_cons, decide_true, decide_false, Bool.false_eq_true, and_self, and_true, true_and, ↓reduceIte, io_is_between, io_is_exchange, io_walk, io_is_round, io_check_round, io_back, io_with_names, io_renamed, io_ring_from, io_rings_of, io_around, io_found_turns, io_found_corners, io_corners, io_check_square, io_turns, io__law_town, io__law_draw, io__law_order, io__law_hangs, io__law_round, io__law_back, io_law]
end
/-- one exchange renamed -/
def cj (σ p : List Nat) : List Nat := (inv σ).map fun x => at' σ (at' p x)
theorem at_cj {n : Nat} {σ p : List Nat} (hσ : IsP n σ) {i : Nat} (hi : i < n) : at' (cj σ p) i = at' σ (at' p (at' (inv σ) i)) := by
  have hl : i < (inv σ).length := by rw [inv_len, hσ.len]; exact hi
  simp [cj, at', List.getD, hl]
theorem cj_at {n : Nat} {σ p : List Nat} (hσ : IsP n σ) {i : Nat} (hi : i < n) : at' (cj σ p) (at' σ i) = at' σ (at' p i) := by
  rw [at_cj hσ (hσ.atlt hi), inv_l hσ hi]
theorem cj_isP {n : Nat} {σ p : List Nat} (hσ : IsP n σ) (hp : IsP n p) : IsP n (cj σ p) := by
  have e : cj σ p = ofF n fun i => at' σ (at' p (at' (inv σ) i)) := ext_at (n := n) (by unfold cj; rw [List.length_map, inv_len, hσ.len]) (ofF_len _ _) fun i hi => by rw [at_cj hσ hi, at_ofF hi]
  rw [e]
  have q := pm_comp hσ.pm (pm_comp hp.pm (inv_isP hσ).pm)
  exact isP_ofF q.1 q.2
theorem r_wn (k : Nat) {n : Nat} {r u σ : List Nat} (h7 : n ≤ 7) (hr : IsP n r) (hu : IsP n u) (hσ : IsP n σ) : run P (k + 2) 6 [pr r u, tp σ] = .ok (.f (pr (cj σ r) (cj σ u)), []) := by
  have e1 : ∀ p, IsP n p → ev (ioOf P) (run P (k + 1)) C_with_names_1 [some (.frz (pr r u)), some (.frz (tp σ)), some (.frz (tp p)), none] = .ok (.o (ls (cj σ p)), [some (.frz (pr r u)), some (.frz (tp σ)), some (.frz (tp p)), none]) := fun p hp => by
    have hi := inv_isP hσ
    have e := lc_map (io := ioOf P) (cf := run P (k + 1)) (C := C_with_names_1) (g := [some (.frz (pr r u)), some (.frz (tp σ)), some (.frz (tp p)), none]) (g1 := [some (.frz (pr r u)), some (.frz (tp σ)), some (.frz (tp p)), none]) (xs := inv σ) rfl (fun i : Nat => .int (i : Int)) (fun x => .int ((at' σ (at' p x) : Nat) : Int)) (by simp only [r_back k hσ h7, q_ev_0, q_ev_1, q_ev_2, q_ev_3, q_ev_4, q_ev_5, q_ev_6, q_ev_7, q_ev_8, q_ev_9, q_ev_10, q_ev_11, q_ev_12, q_ev_13, q_ev_14, q_ev_15, q_ev_16, q_ev_17, q_ev_18, q_ev_19, q_ev_20, q_ev_21, q_ev_22, q_ev_23, q_ev_24, q_ev_25, q_ev_26, q_ev_27, q_ev_29, q_ev_30, q_evC_0, q_evC_1, q_evAnd_0, q_evAnd_1, q_evOr_0, q_evOr_1, q_evO_0, q_evO_1, q_evA_0, q_evA_1, q_evD_0, q_evD_1, q_evI_0, q_evI_1, q_evI_2, q_evI_3, q_evI_4, q_exec_0, q_exec_1, q_exec_2, q_exec_3, q_exec_4, q_exec_5, q_exec_6, q_exec_7, q_exec_8, q_exec_9, q_exec_10, q_exec_11, q_exec_12, q_exec_13, q_exec_14, q_tst, bd_ok, bq_ok, R.bind, rdv, mvv, pkv, put, chg, Vl.fz, Vl.res, B.dat, asBool, Dat.asInt?, handed, Dat.backTo, refsOf, noDup, okO, newIo, newCount, startG, outsG, stP, stQ, stVs, x_items1, x_items2, items_tp, items_ls, x_ty1, x_ty2, x_ty3, isTy_tp, x_len1, x_len2, x_len3, len_tp, len_ls, x_tup1, x_tup2, tuple_ls, x_lst1, x_lst2, list_ls, list_tp, x_neg, x_add, x_sub, x_lt, x_le, x_gt, x_ge, x_eqI, x_neI, x_eqB, x_neB, x_eqT, x_neT, x_neL, x_neL0, x_notin, x_memL, x_frz1, x_frz2, frz_tp, frz_ls, x_isL, isLst_ls, x_seq1, x_slot, x_slotf, x_sloto,
  List.getElem?_cons_zero, List.getElem?_cons_succ, List.set_cons_zero, List.set_cons_succ, List.zip_cons_cons, List.zip_nil_right, List.zip_nil_left, List.map_cons, List.map_nil, List.nil_append, List.cons_append, List.length_cons, List.length_nil, List.replicate, if_true, if_false, ite_true, ite_false, Bool.not_true, Bool.not_false, Bool.not_eq_true', Bool.true_or, Bool.false_or, Bool.or_true, Bool.or_false, Bool.true_and, Bool.false_and, Bool.and_true, Bool.and_false, reduceCtorEq, Nat.reduceSub, Nat.reduceAdd, Nat.zero_add, Nat.reduceLeDiff, List.contains_nil, List.contains_cons, decide_true, decide_false, Bool.false_eq_true, and_self, and_true, true_and, ↓reduceIte, io_is_between, io_is_exchange, io_walk, io_is_round, io_check_round, io_back, io_with_names, io_renamed, io_ring_from, io_rings_of, io_around, io_found_turns, io_found_corners, io_corners, io_check_square, io_turns, io__law_town, io__law_draw, io__law_order, io__law_hangs, io__law_round, io__law_back, io_law]) (by rw [hi.len]; omega) (by simp) (by simp) fun x hx => ⟨.f (.int ((at' σ (at' p x) : Nat) : Int)), by
      have hx := hi.lt x hx
      have a1 := ix_tp p x (by rw [hp.len]; exact hx)
      have a2 := ix_tp σ (at' p x) (by rw [hσ.len]; exact hp.atlt hx)
      simp only [a1, a2, q_ev_0, q_ev_1, q_ev_2, q_ev_3, q_ev_4, q_ev_5, q_ev_6, q_ev_7, q_ev_8, q_ev_9, q_ev_10, q_ev_11, q_ev_12, q_ev_13, q_ev_14, q_ev_15, q_ev_16, q_ev_17, q_ev_18, q_ev_19, q_ev_20, q_ev_21, q_ev_22, q_ev_23, q_ev_24, q_ev_25, q_ev_26, q_ev_27, q_ev_29, q_ev_30, q_evC_0, q_evC_1, q_evAnd_0, q_evAnd_1, q_evOr_0, q_evOr_1, q_evO_0, q_evO_1, q_evA_0, q_evA_1, q_evD_0, q_evD_1, q_evI_0, q_evI_1, q_evI_2, q_evI_3, q_evI_4, q_exec_0, q_exec_1, q_exec_2, q_exec_3, q_exec_4, q_exec_5, q_exec_6, q_exec_7, q_exec_8, q_exec_9, q_exec_10, q_exec_11, q_exec_12, q_exec_13, q_exec_14, q_tst, bd_ok, bq_ok, R.bind, rdv, mvv, pkv, put, chg, Vl.fz, Vl.res, B.dat, asBool, Dat.asInt?, handed, Dat.backTo, refsOf, noDup, okO, newIo, newCount, startG, outsG, stP, stQ, stVs, x_items1, x_items2, items_tp, items_ls, x_ty1, x_ty2, x_ty3, isTy_tp, x_len1, x_len2, x_len3, len_tp, len_ls, x_tup1, x_tup2, tuple_ls, x_lst1, x_lst2, list_ls, list_tp, x_neg, x_add, x_sub, x_lt, x_le, x_gt, x_ge, x_eqI, x_neI, x_eqB, x_neB, x_eqT, x_neT, x_neL, x_neL0, x_notin, x_memL, x_frz1, x_frz2, frz_tp, frz_ls, x_isL, isLst_ls, x_seq1, x_slot, x_slotf, x_sloto,
  List.getElem?_cons_zero, List.getElem?_cons_succ, List.set_cons_zero, List.set_cons_succ, List.zip_cons_cons, List.zip_nil_right, List.zip_nil_left, List.map_cons, List.map_nil, List.nil_append, List.cons_append, List.length_cons, List.length_nil, List.replicate, if_true, if_false, ite_true, ite_false, Bool.not_true, Bool.not_false, Bool.not_eq_true', Bool.true_or, Bool.false_or, Bool.or_true, Bool.or_false, Bool.true_and, Bool.false_and, Bool.and_true, Bool.and_false, reduceCtorEq, Nat.reduceSub, Nat.reduceAdd, Nat.zero_add, Nat.reduceLeDiff, List.contains_nil, List.contains_cons, decide_true, decide_false, Bool.false_eq_true, and_self, and_true, true_and, ↓reduceIte, io_is_between, io_is_exchange, io_walk, io_is_round, io_check_round, io_back, io_with_names, io_renamed, io_ring_from, io_rings_of, io_around, io_found_turns, io_found_corners, io_corners, io_check_square, io_turns, io__law_town, io__law_draw, io__law_order, io__law_hangs, io__law_round, io__law_back, io_law], rfl⟩
    rw [ls_map (inv σ) fun x => at' σ (at' p x)] at e
    exact e
  have e2 := lc_map (io := ioOf P) (cf := run P (k + 1)) (C := C_with_names_2) (g := [some (.frz (pr r u)), some (.frz (tp σ)), none, none]) (g1 := [some (.frz (pr r u)), some (.frz (tp σ)), none, none]) (xs := [r, u]) rfl tp (fun p => tp (cj σ p)) (by simp only [pr, q_ev_0, q_ev_1, q_ev_2, q_ev_3, q_ev_4, q_ev_5, q_ev_6, q_ev_7, q_ev_8, q_ev_9, q_ev_10, q_ev_11, q_ev_12, q_ev_13, q_ev_14, q_ev_15, q_ev_16, q_ev_17, q_ev_18, q_ev_19, q_ev_20, q_ev_21, q_ev_22, q_ev_23, q_ev_24, q_ev_25, q_ev_26, q_ev_27, q_ev_29, q_ev_30, q_evC_0, q_evC_1, q_evAnd_0, q_evAnd_1, q_evOr_0, q_evOr_1, q_evO_0, q_evO_1, q_evA_0, q_evA_1, q_evD_0, q_evD_1, q_evI_0, q_evI_1, q_evI_2, q_evI_3, q_evI_4, q_exec_0, q_exec_1, q_exec_2, q_exec_3, q_exec_4, q_exec_5, q_exec_6, q_exec_7, q_exec_8, q_exec_9, q_exec_10, q_exec_11, q_exec_12, q_exec_13, q_exec_14, q_tst, bd_ok, bq_ok, R.bind, rdv, mvv, pkv, put, chg, Vl.fz, Vl.res, B.dat, asBool, Dat.asInt?, handed, Dat.backTo, refsOf, noDup, okO, newIo, newCount, startG, outsG, stP, stQ, stVs, x_items1, x_items2, items_tp, items_ls, x_ty1, x_ty2, x_ty3, isTy_tp, x_len1, x_len2, x_len3, len_tp, len_ls, x_tup1, x_tup2, tuple_ls, x_lst1, x_lst2, list_ls, list_tp, x_neg, x_add, x_sub, x_lt, x_le, x_gt, x_ge, x_eqI, x_neI, x_eqB, x_neB, x_eqT, x_neT, x_neL, x_neL0, x_notin, x_memL, x_frz1, x_frz2, frz_tp, frz_ls, x_isL, isLst_ls, x_seq1, x_slot, x_slotf, x_sloto,
  List.getElem?_cons_zero, List.getElem?_cons_succ, List.set_cons_zero, List.set_cons_succ, List.zip_cons_cons, List.zip_nil_right, List.zip_nil_left, List.map_cons, List.map_nil, List.nil_append, List.cons_append, List.length_cons, List.length_nil, List.replicate, if_true, if_false, ite_true, ite_false, Bool.not_true, Bool.not_false, Bool.not_eq_true', Bool.true_or, Bool.false_or, Bool.or_true, Bool.or_false, Bool.true_and, Bool.false_and, Bool.and_true, Bool.and_false, reduceCtorEq, Nat.reduceSub, Nat.reduceAdd, Nat.zero_add, Nat.reduceLeDiff, List.contains_nil, List.contains_cons, decide_true, decide_false, Bool.false_eq_true, and_self, and_true, true_and, ↓reduceIte, io_is_between, io_is_exchange, io_walk, io_is_round, io_check_round, io_back, io_with_names, io_renamed, io_ring_from, io_rings_of, io_around, io_found_turns, io_found_corners, io_corners, io_check_square, io_turns, io__law_town, io__law_draw, io__law_order, io__law_hangs, io__law_round, io__law_back, io_law]) (by simp) (by simp) (by simp) fun x hx => ⟨.f (tp (cj σ x)), by
    have hx : IsP n x := by
      rcases List.mem_cons.mp hx with rfl | hx
      · exact hr
      · rw [List.mem_singleton] at hx; subst hx; exact hu
    simp only [e1 x hx, q_ev_0, q_ev_1, q_ev_2, q_ev_3, q_ev_4, q_ev_5, q_ev_6, q_ev_7, q_ev_8, q_ev_9, q_ev_10, q_ev_11, q_ev_12, q_ev_13, q_ev_14, q_ev_15, q_ev_16, q_ev_17, q_ev_18, q_ev_19, q_ev_20, q_ev_21, q_ev_22, q_ev_23, q_ev_24, q_ev_25, q_ev_26, q_ev_27, q_ev_29, q_ev_30, q_evC_0, q_evC_1, q_evAnd_0, q_evAnd_1, q_evOr_0, q_evOr_1, q_evO_0, q_evO_1, q_evA_0, q_evA_1, q_evD_0, q_evD_1, q_evI_0, q_evI_1, q_evI_2, q_evI_3, q_evI_4, q_exec_0, q_exec_1, q_exec_2, q_exec_3, q_exec_4, q_exec_5, q_exec_6, q_exec_7, q_exec_8, q_exec_9, q_exec_10, q_exec_11, q_exec_12, q_exec_13, q_exec_14, q_tst, bd_ok, bq_ok, R.bind, rdv, mvv, pkv, put, chg, Vl.fz, Vl.res, B.dat, asBool, Dat.asInt?, handed, Dat.backTo, refsOf, noDup, okO, newIo, newCount, startG, outsG, stP, stQ, stVs, x_items1, x_items2, items_tp, items_ls, x_ty1, x_ty2, x_ty3, isTy_tp, x_len1, x_len2, x_len3, len_tp, len_ls, x_tup1, x_tup2, tuple_ls, x_lst1, x_lst2, list_ls, list_tp, x_neg, x_add, x_sub, x_lt, x_le, x_gt, x_ge, x_eqI, x_neI, x_eqB, x_neB, x_eqT, x_neT, x_neL, x_neL0, x_notin, x_memL, x_frz1, x_frz2, frz_tp, frz_ls, x_isL, isLst_ls, x_seq1, x_slot, x_slotf, x_sloto,
  List.getElem?_cons_zero, List.getElem?_cons_succ, List.set_cons_zero, List.set_cons_succ, List.zip_cons_cons, List.zip_nil_right, List.zip_nil_left, List.map_cons, List.map_nil, List.nil_append, List.cons_append, List.length_cons, List.length_nil, List.replicate, if_true, if_false, ite_true, ite_false, Bool.not_true, Bool.not_false, Bool.not_eq_true', Bool.true_or, Bool.false_or, Bool.or_true, Bool.or_false, Bool.true_and, Bool.false_and, Bool.and_true, Bool.and_false, reduceCtorEq, Nat.reduceSub, Nat.reduceAdd, Nat.zero_add, Nat.reduceLeDiff, List.contains_nil, List.contains_cons, decide_true, decide_false, Bool.false_eq_true, and_self, and_true, true_and, ↓reduceIte, io_is_between, io_is_exchange, io_walk, io_is_round, io_check_round, io_back, io_with_names, io_renamed, io_ring_from, io_rings_of, io_around, io_found_turns, io_found_corners, io_corners, io_check_square, io_turns, io__law_town, io__law_draw, io__law_order, io__law_hangs, io__law_round, io__law_back, io_law], rfl⟩
  rw [run_at at_with_names rfl rfl]
  simp only [bodyR, F_with_names, e2, q_ev_0, q_ev_1, q_ev_2, q_ev_3, q_ev_4, q_ev_5, q_ev_6, q_ev_7, q_ev_8, q_ev_9, q_ev_10, q_ev_11, q_ev_12, q_ev_13, q_ev_14, q_ev_15, q_ev_16, q_ev_17, q_ev_18, q_ev_19, q_ev_20, q_ev_21, q_ev_22, q_ev_23, q_ev_24, q_ev_25, q_ev_26, q_ev_27, q_ev_29, q_ev_30, q_evC_0, q_evC_1, q_evAnd_0, q_evAnd_1, q_evOr_0, q_evOr_1, q_evO_0, q_evO_1, q_evA_0, q_evA_1, q_evD_0, q_evD_1, q_evI_0, q_evI_1, q_evI_2, q_evI_3, q_evI_4, q_exec_0, q_exec_1, q_exec_2, q_exec_3, q_exec_4, q_exec_5, q_exec_6, q_exec_7, q_exec_8, q_exec_9, q_exec_10, q_exec_11, q_exec_12, q_exec_13, q_exec_14, q_tst, bd_ok, bq_ok, R.bind, rdv, mvv, pkv, put, chg, Vl.fz, Vl.res, B.dat, asBool, Dat.asInt?, handed, Dat.backTo, refsOf, noDup, okO, newIo, newCount, startG, outsG, stP, stQ, stVs, x_items1, x_items2, items_tp, items_ls, x_ty1, x_ty2, x_ty3, isTy_tp, x_len1, x_len2, x_len3, len_tp, len_ls, x_tup1, x_tup2, tuple_ls, x_lst1, x_lst2, list_ls, list_tp, x_neg, x_add, x_sub, x_lt, x_le, x_gt, x_ge, x_eqI, x_neI, x_eqB, x_neB, x_eqT, x_neT, x_neL, x_neL0, x_notin, x_memL, x_frz1, x_frz2, frz_tp, frz_ls, x_isL, isLst_ls, x_seq1, x_slot, x_slotf, x_sloto,
  List.getElem?_cons_zero, List.getElem?_cons_succ, List.set_cons_zero, List.set_cons_succ, List.zip_cons_cons, List.zip_nil_right, List.zip_nil_left, List.map_cons, List.map_nil, List.nil_append, List.cons_append, List.length_cons, List.length_nil, List.replicate, if_true, if_false, ite_true, ite_false, Bool.not_true, Bool.not_false, Bool.not_eq_true', Bool.true_or, Bool.false_or, Bool.or_true, Bool.or_false, Bool.true_and, Bool.false_and, Bool.and_true, Bool.and_false, reduceCtorEq, Nat.reduceSub, Nat.reduceAdd, Nat.zero_add, Nat.reduceLeDiff, List.contains_nil, List.contains_cons, decide_true, decide_false, Bool.false_eq_true, and_self, and_true, true_and, ↓reduceIte, io_is_between, io_is_exchange, io_walk, io_is_round, io_check_round, io_back, io_with_names, io_renamed, io_ring_from, io_rings_of, io_around, io_found_turns, io_found_corners, io_corners, io_check_square, io_turns, io__law_town, io__law_draw, io__law_order, io__law_hangs, io__law_round, io__law_back, io_law]
  rfl
theorem r_ren (k : Nat) {n : Nat} {r u σ : List Nat} (h7 : n ≤ 7) (hr : IsP n r) (hu : IsP n u) (hσ : IsP n σ) (h1 : 1 ≤ n) (cn : conn n r u) : run P (k + 5) 7 [pr r u, tp σ] = .ok (.f (pr (cj σ r) (cj σ u)), []) := by
  rw [run_at at_renamed rfl rfl]
  simp only [bodyR, F_renamed, r_check k h1 h7 hr hu cn, ix_pr0, hr.len, r_exch (k + 2) n σ hσ h7, r_wn (k + 2) h7 hr hu hσ, q_ev_0, q_ev_1, q_ev_2, q_ev_3, q_ev_4, q_ev_5, q_ev_6, q_ev_7, q_ev_8, q_ev_9, q_ev_10, q_ev_11, q_ev_12, q_ev_13, q_ev_14, q_ev_15, q_ev_16, q_ev_17, q_ev_18, q_ev_19, q_ev_20, q_ev_21, q_ev_22, q_ev_23, q_ev_24, q_ev_25, q_ev_26, q_ev_27, q_ev_29, q_ev_30, q_evC_0, q_evC_1, q_evAnd_0, q_evAnd_1, q_evOr_0, q_evOr_1, q_evO_0, q_evO_1, q_evA_0, q_evA_1, q_evD_0, q_evD_1, q_evI_0, q_evI_1, q_evI_2, q_evI_3, q_evI_4, q_exec_0, q_exec_1, q_exec_2, q_exec_3, q_exec_4, q_exec_5, q_exec_6, q_exec_7, q_exec_8, q_exec_9, q_exec_10, q_exec_11, q_exec_12, q_exec_13, q_exec_14, q_tst, bd_ok, bq_ok, R.bind, rdv, mvv, pkv, put, chg, Vl.fz, Vl.res, B.dat, asBool, Dat.asInt?, handed, Dat.backTo, refsOf, noDup, okO, newIo, newCount, startG, outsG, stP, stQ, stVs, x_items1, x_items2, items_tp, items_ls, x_ty1, x_ty2, x_ty3, isTy_tp, x_len1, x_len2, x_len3, len_tp, len_ls, x_tup1, x_tup2, tuple_ls, x_lst1, x_lst2, list_ls, list_tp, x_neg, x_add, x_sub, x_lt, x_le, x_gt, x_ge, x_eqI, x_neI, x_eqB, x_neB, x_eqT, x_neT, x_neL, x_neL0, x_notin, x_memL, x_frz1, x_frz2, frz_tp, frz_ls, x_isL, isLst_ls, x_seq1, x_slot, x_slotf, x_sloto,
  List.getElem?_cons_zero, List.getElem?_cons_succ, List.set_cons_zero, List.set_cons_succ, List.zip_cons_cons, List.zip_nil_right, List.zip_nil_left, List.map_cons, List.map_nil, List.nil_append, List.cons_append, List.length_cons, List.length_nil, List.replicate, if_true, if_false, ite_true, ite_false, Bool.not_true, Bool.not_false, Bool.not_eq_true', Bool.true_or, Bool.false_or, Bool.or_true, Bool.or_false, Bool.true_and, Bool.false_and, Bool.and_true, Bool.and_false, reduceCtorEq, Nat.reduceSub, Nat.reduceAdd, Nat.zero_add, Nat.reduceLeDiff, List.contains_nil, List.contains_cons, decide_true, decide_false, Bool.false_eq_true, and_self, and_true, true_and, ↓reduceIte, io_is_between, io_is_exchange, io_walk, io_is_round, io_check_round, io_back, io_with_names, io_renamed, io_ring_from, io_rings_of, io_around, io_found_turns, io_found_corners, io_corners, io_check_square, io_turns, io__law_town, io__law_draw, io__law_order, io__law_hangs, io__law_round, io__law_back, io_law]
end Law_shearsquares_k12_corners

namespace Law_shearsquares_k12_corners
open PySem (PyData)
open Dat Plain
def li (t : List Int) : D := .list (t.map .int)
def sc (t : List Int) : D := scr (t.map .int)
theorem ix_li (t : List Int) (j : Nat) (h : j < t.length) : ixD (li t) (.int (j : Int)) = .ok (.int (t.getD j 0)) := by
  show R.ofO (ixL _ _) = _
  rw [ixL_nat, List.getElem?_map, List.getElem?_eq_getElem h]
  simp [R.ofO, List.getD, h]
theorem ix_sc (t : List Int) (j : Nat) (h : j < t.length) : ixD (sc t) (.int (j : Int)) = .ok (.int (t.getD j 0)) := by
  show R.ofO (ixL _ _) = _
  rw [ixL_nat, List.getElem?_map, List.getElem?_eq_getElem h]
  simp [R.ofO, List.getD, h]
theorem len_sc (t : List Int) : fn1 .len (sc t) = .ok (.f (.int (t.length : Nat))) := by
  have := x_len3 (t.map .int)
  rw [List.length_map] at this
  exact this
theorem set_li (t : List Int) (j : Nat) (v : Int) (h : j < t.length) : setIx (.int (j : Int)) (.int v) (li t) = .ok (li (t.set j v)) := by
  have hh : (0 : Int) ≤ (j : Int) ∧ (j : Int) < (((t.map PyData.int).length : Nat) : Int) := ⟨by omega, by rw [List.length_map]; omega⟩
  show (if _ then _ else _) = _
  rw [if_pos hh]
  simp [li]
theorem plains_li (t : List Int) : plains (t.map .int) = true := by
  induction t with
  | nil => rfl
  | cons a r ih => simpa [plains, plain] using ih
theorem deps_li (t : List Int) : deps (t.map .int) = 0 := by
  induction t with
  | nil => rfl
  | cons a r ih => simp [deps, dep, ih]
theorem eq_sc0 (t : List Int) : cmpD .eq (sc t) (.list []) = .ok (decide (t = [])) := by
  have e : cmpD .eq (sc t) (.list []) = if eqOk (.list (t.map .int)) = true ∧ eqOk (.list []) = true then .ok (eqDs (t.map .int) []) else .bad := rfl
  have h1 : eqOk (.list (t.map .int)) = true := by simp [eqOk, plain, dep, plains_li, deps_li]
  rw [e, if_pos ⟨h1, rfl⟩]
  cases t <;> simp [eqDs]
def Town (ns t : List Int) (b : Nat) : Prop := t.length = ns.length + 1 ∧ 0 ≤ t.getD 0 0 ∧ t.getD 0 0 ≤ (b : Int)
theorem mulOk_r (a b : Int) (h : -1000000000000 < b ∧ b < 1000000000000) : mulOk a b = true := by
  unfold mulOk
  have h1 : decide (-18446744073709551616 < b) = true := decide_eq_true (by omega)
  have h2 : decide (b < 18446744073709551616) = true := decide_eq_true (by omega)
  rw [h1, h2]
  simp
theorem mulOk_l (a b : Int) (h : -1000000000000 < a ∧ a < 1000000000000) : mulOk a b = true := by
  unfold mulOk
  have h1 : decide (-18446744073709551616 < a) = true := decide_eq_true (by omega)
  have h2 : decide (a < 18446744073709551616) = true := decide_eq_true (by omega)
  rw [h1, h2]
  simp
theorem getD_set0 (t : List Int) (v : Int) (h : 0 < t.length) : (t.set 0 v).getD 0 0 = v := by
  cases t with
  | nil => simp at h
  | cons a r => rfl
theorem r_draw (k : Nat) (ns t : List Int) (L b : Nat) (hL : 1 ≤ L) (hL2 : L ≤ 1000) (hb : b ≤ 1000000) (ht : Town ns t b) : ∃ (v : Nat) (t' : List Int), run P (k + 1) 17 [sc ns, li t, .int (L : Int)] = .ok (.f (.int (v : Int)), [li t']) ∧ v < L ∧ Town ns t' (b + 1) := by
  obtain ⟨tl, t0, tb⟩ := ht
  have tp0 : 0 < t.length := by omega
  have i0 := ix_li t 0 tp0
  have s0 := set_li t 0 (t.getD 0 0 + 1) tp0
  have z0 : ((0 : Nat) : Int) = 0 := rfl
  rw [z0] at i0 s0
  have tl2 : (t.set 0 (t.getD 0 0 + 1)).length = t.length := by simp
  have i1 := ix_li (t.set 0 (t.getD 0 0 + 1)) 0 (by omega)
  rw [getD_set0 t _ tp0, z0] at i1
  have hL' : (0 : Int) < (L : Int) := by omega
  have T1 : Town ns (t.set 0 (t.getD 0 0 + 1)) (b + 1) := ⟨by omega, by rw [getD_set0 t _ tp0]; omega, by rw [getD_set0 t _ tp0]; push_cast; omega⟩
  have fin : ∀ x : Int, ∃ v : Nat, x % (L : Int) = (v : Int) ∧ v < L := fun x => by
    have h1 := Int.emod_nonneg x (show (L : Int) ≠ 0 by omega)
    have h2 := Int.emod_lt_of_pos x hL'
    exact ⟨(x % (L : Int)).toNat, by omega, by omega⟩
  rw [run_at at__law_draw rfl rfl]
  by_cases hn : ns = []
  · have d0 : decide (ns = []) = true := decide_eq_true hn
    have m1 := x_mul (t.getD 0 0 + 1) (t.getD 0 0 + 1) (mulOk_r _ _ (by omega))
    have m2 := x_mul ((t.getD 0 0 + 1) * (t.getD 0 0 + 1)) 7 (mulOk_r _ _ (by omega))
    have m3 := x_fdiv ((t.getD 0 0 + 1) * (t.getD 0 0 + 1) * 7) 3 (by omega) (by omega)
    have m4 := x_mod ((t.getD 0 0 + 1) * (t.getD 0 0 + 1) * 7 / 3) (L : Int) hL'
    obtain ⟨v, hv, hvL⟩ := fin ((t.getD 0 0 + 1) * (t.getD 0 0 + 1) * 7 / 3)
    rw [hv] at m4
    refine ⟨v, t.set 0 (t.getD 0 0 + 1), ?_, hvL, T1⟩
    simp only [bodyR, F__law_draw, i0, s0, i1, eq_sc0, d0, m1, m2, m3, m4, q_ev_0, q_ev_1, q_ev_2, q_ev_3, q_ev_4, q_ev_5, q_ev_6, q_ev_7, q_ev_8, q_ev_9, q_ev_10, q_ev_11, q_ev_12, q_ev_13, q_ev_14, q_ev_15, q_ev_16, q_ev_17, q_ev_18, q_ev_19, q_ev_20, q_ev_21, q_ev_22, q_ev_23, q_ev_24, q_ev_25, q_ev_26, q_ev_27, q_ev_29, q_ev_30, q_evC_0, q_evC_1, q_evAnd_0, q_evAnd_1, q_evOr_0, q_evOr_1, q_evO_0, q_evO_1, q_evA_0, q_evA_1, q_evD_0, q_evD_1, q_evI_0, q_evI_1, q_evI_2, q_evI_3, q_evI_4, q_exec_0, q_exec_1, q_exec_2, q_exec_3, q_exec_4, q_exec_5, q_exec_6, q_exec_7, q_exec_8, q_exec_9, q_exec_10, q_exec_11, q_exec_12, q_exec_13, q_exec_14, q_tst, bd_ok, bq_ok, R.bind, rdv, mvv, pkv, put, chg, Vl.fz, Vl.res, B.dat, asBool, Dat.asInt?, handed, Dat.backTo, refsOf, noDup, okO, newIo, newCount, startG, outsG, stP, stQ, stVs, x_items1, x_items2, items_tp, items_ls, x_ty1, x_ty2, x_ty3, isTy_tp, x_len1, x_len2, x_len3, len_tp, len_ls, x_tup1, x_tup2, tuple_ls, x_lst1, x_lst2, list_ls, list_tp, x_neg, x_add, x_sub, x_lt, x_le, x_gt, x_ge, x_eqI, x_neI, x_eqB, x_neB, x_eqT, x_neT, x_neL, x_neL0, x_notin, x_memL, x_frz1, x_frz2, frz_tp, frz_ls, x_isL, isLst_ls, x_seq1, x_slot, x_slotf, x_sloto,
  List.getElem?_cons_zero, List.getElem?_cons_succ, List.set_cons_zero, List.set_cons_succ, List.zip_cons_cons, List.zip_nil_right, List.zip_nil_left, List.map_cons, List.map_nil, List.nil_append, List.cons_append, List.length_cons, List.length_nil, List.replicate, if_true, if_false, ite_true, ite_false, Bool.not_true, Bool.not_false, Bool.not_eq_true', Bool.true_or, Bool.false_or, Bool.or_true, Bool.or_false, Bool.true_and, Bool.false_and, Bool.and_true, Bool.and_false, reduceCtorEq, Nat.reduceSub, Nat.reduceAdd, Nat.zero_add, Nat.reduceLeDiff, List.contains_nil, List.contains_cons, decide_true, decide_false, Bool.false_eq_true, and_self, and_true, true_and, ↓reduceIte, io_is_between, io_is_exchange, io_walk, io_is_round, io_check_round, io_back, io_with_names, io_renamed, io_ring_from, io_rings_of, io_around, io_found_turns, io_found_corners, io_corners, io_check_square, io_turns, io__law_town, io__law_draw, io__law_order, io__law_hangs, io__law_round, io__law_back, io_law]
  · have d0 : decide (ns = []) = false := decide_eq_false hn
    have nl : 0 < ns.length := List.length_pos_iff.mpr hn
    obtain ⟨j, hj, hjl⟩ : ∃ j : Nat, (t.getD 0 0 + 1) % ((ns.length : Nat) : Int) = (j : Int) ∧ j < ns.length := by
      have h1 := Int.emod_nonneg (t.getD 0 0 + 1) (show ((ns.length : Nat) : Int) ≠ 0 by omega)
      have h2 := Int.emod_lt_of_pos (t.getD 0 0 + 1) (show (0 : Int) < ((ns.length : Nat) : Int) by omega)
      exact ⟨((t.getD 0 0 + 1) % ((ns.length : Nat) : Int)).toNat, by omega, by omega⟩
    have m1 := x_mod (t.getD 0 0 + 1) ((ns.length : Nat) : Int) (by omega)
    rw [hj] at m1
    have ej : (1 : Int) + (j : Int) = ((1 + j : Nat) : Int) := by push_cast; rfl
    have i2 := ix_li (t.set 0 (t.getD 0 0 + 1)) (1 + j) (by omega)
    have i3 := ix_sc ns j hjl
    have p1 := x_pow 10 18 (by omega)
    have e18 : ((10 : Int) ^ (18 : Int).toNat) = 1000000000000000000 := by decide
    rw [e18] at p1
    by_cases c1 : (1000000000000000000 : Int) ≤ ns.getD j 0 ∧ 0 < (t.set 0 (t.getD 0 0 + 1)).getD (1 + j) 0
    · have d1 : decide ((1000000000000000000 : Int) ≤ ns.getD j 0) = true := decide_eq_true c1.1
      have d2 : decide (0 < (t.set 0 (t.getD 0 0 + 1)).getD (1 + j) 0) = true := decide_eq_true c1.2
      have m2 := x_fdiv ((t.set 0 (t.getD 0 0 + 1)).getD (1 + j) 0) (L : Int) hL' (by omega)
      have m3 := x_mod ((t.set 0 (t.getD 0 0 + 1)).getD (1 + j) 0) (L : Int) hL'
      obtain ⟨v, hv, hvL⟩ := fin ((t.set 0 (t.getD 0 0 + 1)).getD (1 + j) 0)
      rw [hv] at m3
      have s1 := set_li (t.set 0 (t.getD 0 0 + 1)) (1 + j) ((t.set 0 (t.getD 0 0 + 1)).getD (1 + j) 0 / (L : Int)) (by omega)
      refine ⟨v, (t.set 0 (t.getD 0 0 + 1)).set (1 + j) ((t.set 0 (t.getD 0 0 + 1)).getD (1 + j) 0 / (L : Int)), ?_, hvL, ?_⟩
      · simp only [bodyR, F__law_draw, i0, s0, i1, eq_sc0, d0, len_sc, m1, ej, i2, i3, p1, d1, d2, m2, m3, s1, q_ev_0, q_ev_1, q_ev_2, q_ev_3, q_ev_4, q_ev_5, q_ev_6, q_ev_7, q_ev_8, q_ev_9, q_ev_10, q_ev_11, q_ev_12, q_ev_13, q_ev_14, q_ev_15, q_ev_16, q_ev_17, q_ev_18, q_ev_19, q_ev_20, q_ev_21, q_ev_22, q_ev_23, q_ev_24, q_ev_25, q_ev_26, q_ev_27, q_ev_29, q_ev_30, q_evC_0, q_evC_1, q_evAnd_0, q_evAnd_1, q_evOr_0, q_evOr_1, q_evO_0, q_evO_1, q_evA_0, q_evA_1, q_evD_0, q_evD_1, q_evI_0, q_evI_1, q_evI_2, q_evI_3, q_evI_4, q_exec_0, q_exec_1, q_exec_2, q_exec_3, q_exec_4, q_exec_5, q_exec_6, q_exec_7, q_exec_8, q_exec_9, q_exec_10, q_exec_11, q_exec_12, q_exec_13, q_exec_14, q_tst, bd_ok, bq_ok, R.bind, rdv, mvv, pkv, put, chg, Vl.fz, Vl.res, B.dat, asBool, Dat.asInt?, handed, Dat.backTo, refsOf, noDup, okO, newIo, newCount, startG, outsG, stP, stQ, stVs, x_items1, x_items2, items_tp, items_ls, x_ty1, x_ty2, x_ty3, isTy_tp, x_len1, x_len2, x_len3, len_tp, len_ls, x_tup1, x_tup2, tuple_ls, x_lst1, x_lst2, list_ls, list_tp, x_neg, x_add, x_sub, x_lt, x_le, x_gt, x_ge, x_eqI, x_neI, x_eqB, x_neB, x_eqT, x_neT, x_neL, x_neL0, x_notin, x_memL, x_frz1, x_frz2, frz_tp, frz_ls, x_isL, isLst_ls, x_seq1, x_slot, x_slotf, x_sloto,
  List.getElem?_cons_zero, List.getElem?_cons_succ, List.set_cons_zero, List.set_cons_succ, List.zip_cons_cons, List.zip_nil_right, List.zip_nil_left, List.map_cons, List.map_nil, List.nil_append, List.cons_append, List.length_cons, List.length_nil, List.replicate, if_true, if_false, ite_true, ite_false, Bool.not_true, Bool.not_false, Bool.not_eq_true', Bool.true_or, Bool.false_or, Bool.or_true, Bool.or_false, Bool.true_and, Bool.false_and, Bool.and_true, Bool.and_false, reduceCtorEq, Nat.reduceSub, Nat.reduceAdd, Nat.zero_add, Nat.reduceLeDiff, List.contains_nil, List.contains_cons, decide_true, decide_false, Bool.false_eq_true, and_self, and_true, true_and, ↓reduceIte, io_is_between, io_is_exchange, io_walk, io_is_round, io_check_round, io_back, io_with_names, io_renamed, io_ring_from, io_rings_of, io_around, io_found_turns, io_found_corners, io_corners, io_check_square, io_turns, io__law_town, io__law_draw, io__law_order, io__law_hangs, io__law_round, io__law_back, io_law]
      · have e : ((t.set 0 (t.getD 0 0 + 1)).set (1 + j) ((t.set 0 (t.getD 0 0 + 1)).getD (1 + j) 0 / (L : Int))).getD 0 0 = (t.set 0 (t.getD 0 0 + 1)).getD 0 0 := by
          simp only [List.getD, List.getElem?_set]
          have : ¬ 1 + j = 0 := by omega
          simp [this]
        exact ⟨by rw [List.length_set]; exact T1.1, by rw [e]; exact T1.2.1, by rw [e]; exact T1.2.2⟩
    · have a0 := x_mul 104729 (t.getD 0 0 + 1) (mulOk_l _ _ (by omega))
      have a1 := x_mod (ns.getD j 0 + 104729 * (t.getD 0 0 + 1)) 4294967291 (by omega)
      generalize hN : (ns.getD j 0 + 104729 * (t.getD 0 0 + 1)) % 4294967291 = N at a1
      have hN0 : 0 ≤ N ∧ N < 4294967291 := by
        rw [← hN]
        exact ⟨Int.emod_nonneg _ (by omega), Int.emod_lt_of_pos _ (by omega)⟩
      have a2 := x_pow N 5 (by omega)
      have a3 := x_mod (N ^ (5 : Int).toNat) 4294967279 (by omega)
      generalize hM : (N ^ (5 : Int).toNat) % 4294967279 = M at a3
      have hM0 : 0 ≤ M ∧ M < 4294967279 := by
        rw [← hM]
        exact ⟨Int.emod_nonneg _ (by omega), Int.emod_lt_of_pos _ (by omega)⟩
      have a4 := x_fdiv M 64 (by omega) (by omega)
      have a5 := x_mul (M / 64) 69621 (mulOk_r _ _ (by omega))
      have a6 := x_mod (M / 64 * 69621 + M) 4294967231 (by omega)
      have a7 := x_fdiv ((M / 64 * 69621 + M) % 4294967231) 8 (by omega) (by omega)
      have a8 := x_mod ((M / 64 * 69621 + M) % 4294967231 / 8) (L : Int) hL'
      obtain ⟨v, hv, hvL⟩ := fin ((M / 64 * 69621 + M) % 4294967231 / 8)
      rw [hv] at a8
      refine ⟨v, t.set 0 (t.getD 0 0 + 1), ?_, hvL, T1⟩
      by_cases c2 : (1000000000000000000 : Int) ≤ ns.getD j 0
      · have d1 : decide ((1000000000000000000 : Int) ≤ ns.getD j 0) = true := decide_eq_true c2
        have d2 : decide (0 < (t.set 0 (t.getD 0 0 + 1)).getD (1 + j) 0) = false := decide_eq_false fun z => c1 ⟨c2, z⟩
        simp only [bodyR, F__law_draw, i0, s0, i1, eq_sc0, d0, len_sc, m1, ej, i2, i3, p1, d1, d2, a0, a1, a2, a3, a4, a5, a6, a7, a8, q_ev_0, q_ev_1, q_ev_2, q_ev_3, q_ev_4, q_ev_5, q_ev_6, q_ev_7, q_ev_8, q_ev_9, q_ev_10, q_ev_11, q_ev_12, q_ev_13, q_ev_14, q_ev_15, q_ev_16, q_ev_17, q_ev_18, q_ev_19, q_ev_20, q_ev_21, q_ev_22, q_ev_23, q_ev_24, q_ev_25, q_ev_26, q_ev_27, q_ev_29, q_ev_30, q_evC_0, q_evC_1, q_evAnd_0, q_evAnd_1, q_evOr_0, q_evOr_1, q_evO_0, q_evO_1, q_evA_0, q_evA_1, q_evD_0, q_evD_1, q_evI_0, q_evI_1, q_evI_2, q_evI_3, q_evI_4, q_exec_0, q_exec_1, q_exec_2, q_exec_3, q_exec_4, q_exec_5, q_exec_6, q_exec_7, q_exec_8, q_exec_9, q_exec_10, q_exec_11, q_exec_12, q_exec_13, q_exec_14, q_tst, bd_ok, bq_ok, R.bind, rdv, mvv, pkv, put, chg, Vl.fz, Vl.res, B.dat, asBool, Dat.asInt?, handed, Dat.backTo, refsOf, noDup, okO, newIo, newCount, startG, outsG, stP, stQ, stVs, x_items1, x_items2, items_tp, items_ls, x_ty1, x_ty2, x_ty3, isTy_tp, x_len1, x_len2, x_len3, len_tp, len_ls, x_tup1, x_tup2, tuple_ls, x_lst1, x_lst2, list_ls, list_tp, x_neg, x_add, x_sub, x_lt, x_le, x_gt, x_ge, x_eqI, x_neI, x_eqB, x_neB, x_eqT, x_neT, x_neL, x_neL0, x_notin, x_memL, x_frz1, x_frz2, frz_tp, frz_ls, x_isL, isLst_ls, x_seq1, x_slot, x_slotf, x_sloto,
  List.getElem?_cons_zero, List.getElem?_cons_succ, List.set_cons_zero, List.set_cons_succ, List.zip_cons_cons, List.zip_nil_right, List.zip_nil_left, List.map_cons, List.map_nil, List.nil_append, List.cons_append, List.length_cons, List.length_nil, List.replicate, if_true, if_false, ite_true, ite_false, Bool.not_true, Bool.not_false, Bool.not_eq_true', Bool.true_or, Bool.false_or, Bool.or_true, Bool.or_false, Bool.true_and, Bool.false_and, Bool.and_true, Bool.and_false, reduceCtorEq, Nat.reduceSub, Nat.reduceAdd, Nat.zero_add, Nat.reduceLeDiff, List.contains_nil, List.contains_cons, decide_true, decide_false, Bool.false_eq_true, and_self, and_true, true_and, ↓reduceIte, io_is_between, io_is_exchange, io_walk, io_is_round, io_check_round, io_back, io_with_names, io_renamed, io_ring_from, io_rings_of, io_around, io_found_turns, io_found_corners, io_corners, io_check_square, io_turns, io__law_town, io__law_draw, io__law_order, io__law_hangs, io__law_round, io__law_back, io_law]
      · have d1 : decide ((1000000000000000000 : Int) ≤ ns.getD j 0) = false := decide_eq_false c2
        simp only [bodyR, F__law_draw, i0, s0, i1, eq_sc0, d0, len_sc, m1, ej, i2, i3, p1, d1, a0, a1, a2, a3, a4, a5, a6, a7, a8, q_ev_0, q_ev_1, q_ev_2, q_ev_3, q_ev_4, q_ev_5, q_ev_6, q_ev_7, q_ev_8, q_ev_9, q_ev_10, q_ev_11, q_ev_12, q_ev_13, q_ev_14, q_ev_15, q_ev_16, q_ev_17, q_ev_18, q_ev_19, q_ev_20, q_ev_21, q_ev_22, q_ev_23, q_ev_24, q_ev_25, q_ev_26, q_ev_27, q_ev_29, q_ev_30, q_evC_0, q_evC_1, q_evAnd_0, q_evAnd_1, q_evOr_0, q_evOr_1, q_evO_0, q_evO_1, q_evA_0, q_evA_1, q_evD_0, q_evD_1, q_evI_0, q_evI_1, q_evI_2, q_evI_3, q_evI_4, q_exec_0, q_exec_1, q_exec_2, q_exec_3, q_exec_4, q_exec_5, q_exec_6, q_exec_7, q_exec_8, q_exec_9, q_exec_10, q_exec_11, q_exec_12, q_exec_13, q_exec_14, q_tst, bd_ok, bq_ok, R.bind, rdv, mvv, pkv, put, chg, Vl.fz, Vl.res, B.dat, asBool, Dat.asInt?, handed, Dat.backTo, refsOf, noDup, okO, newIo, newCount, startG, outsG, stP, stQ, stVs, x_items1, x_items2, items_tp, items_ls, x_ty1, x_ty2, x_ty3, isTy_tp, x_len1, x_len2, x_len3, len_tp, len_ls, x_tup1, x_tup2, tuple_ls, x_lst1, x_lst2, list_ls, list_tp, x_neg, x_add, x_sub, x_lt, x_le, x_gt, x_ge, x_eqI, x_neI, x_eqB, x_neB, x_eqT, x_neT, x_neL, x_neL0, x_notin, x_memL, x_frz1, x_frz2, frz_tp, frz_ls, x_isL, isLst_ls, x_seq1, x_slot, x_slotf, x_sloto,
  List.getElem?_cons_zero, List.getElem?_cons_succ, List.set_cons_zero, List.set_cons_succ, List.zip_cons_cons, List.zip_nil_right, List.zip_nil_left, List.map_cons, List.map_nil, List.nil_append, List.cons_append, List.length_cons, List.length_nil, List.replicate, if_true, if_false, ite_true, ite_false, Bool.not_true, Bool.not_false, Bool.not_eq_true', Bool.true_or, Bool.false_or, Bool.or_true, Bool.or_false, Bool.true_and, Bool.false_and, Bool.and_true, Bool.and_false, reduceCtorEq, Nat.reduceSub, Nat.reduceAdd, Nat.zero_add, Nat.reduceLeDiff, List.contains_nil, List.contains_cons, decide_true, decide_false, Bool.false_eq_true, and_self, and_true, true_and, ↓reduceIte, io_is_between, io_is_exchange, io_walk, io_is_round, io_check_round, io_back, io_with_names, io_renamed, io_ring_from, io_rings_of, io_around, io_found_turns, io_found_corners, io_corners, io_check_square, io_turns, io__law_town, io__law_draw, io__law_order, io__law_hangs, io__law_round, io__law_back, io_law]
theorem r_town (k : Nat) (ns : List Int) (h : ns.length ≤ 63) : run P (k + 1) 16 [sc ns] = .ok (.o (li (0 :: ns)), []) := by
  rw [run_at at__law_town rfl rfl]
  have a1 : fn1 .list (sc ns) = .ok (.o (.list (ns.map .int))) := rfl
  have a2 : op2 .add (.list [.int 0]) (.list (ns.map .int)) = .ok (.o (li (0 :: ns))) := by
    show (if 1 + (ns.map PyData.int).length ≤ LIM then _ else _) = _
    rw [if_pos (by rw [List.length_map]; have : LIM = 1000000 := rfl; omega)]
    rfl
  simp only [bodyR, F__law_town, a1, a2, q_ev_0, q_ev_1, q_ev_2, q_ev_3, q_ev_4, q_ev_5, q_ev_6, q_ev_7, q_ev_8, q_ev_9, q_ev_10, q_ev_11, q_ev_12, q_ev_13, q_ev_14, q_ev_15, q_ev_16, q_ev_17, q_ev_18, q_ev_19, q_ev_20, q_ev_21, q_ev_22, q_ev_23, q_ev_24, q_ev_25, q_ev_26, q_ev_27, q_ev_29, q_ev_30, q_evC_0, q_evC_1, q_evAnd_0, q_evAnd_1, q_evOr_0, q_evOr_1, q_evO_0, q_evO_1, q_evA_0, q_evA_1, q_evD_0, q_evD_1, q_evI_0, q_evI_1, q_evI_2, q_evI_3, q_evI_4, q_exec_0, q_exec_1, q_exec_2, q_exec_3, q_exec_4, q_exec_5, q_exec_6, q_exec_7, q_exec_8, q_exec_9, q_exec_10, q_exec_11, q_exec_12, q_exec_13, q_exec_14, q_tst, bd_ok, bq_ok, R.bind, rdv, mvv, pkv, put, chg, Vl.fz, Vl.res, B.dat, asBool, Dat.asInt?, handed, Dat.backTo, refsOf, noDup, okO, newIo, newCount, startG, outsG, stP, stQ, stVs, x_items1, x_items2, items_tp, items_ls, x_ty1, x_ty2, x_ty3, isTy_tp, x_len1, x_len2, x_len3, len_tp, len_ls, x_tup1, x_tup2, tuple_ls, x_lst1, x_lst2, list_ls, list_tp, x_neg, x_add, x_sub, x_lt, x_le, x_gt, x_ge, x_eqI, x_neI, x_eqB, x_neB, x_eqT, x_neT, x_neL, x_neL0, x_notin, x_memL, x_frz1, x_frz2, frz_tp, frz_ls, x_isL, isLst_ls, x_seq1, x_slot, x_slotf, x_sloto,
  List.getElem?_cons_zero, List.getElem?_cons_succ, List.set_cons_zero, List.set_cons_succ, List.zip_cons_cons, List.zip_nil_right, List.zip_nil_left, List.map_cons, List.map_nil, List.nil_append, List.cons_append, List.length_cons, List.length_nil, List.replicate, if_true, if_false, ite_true, ite_false, Bool.not_true, Bool.not_false, Bool.not_eq_true', Bool.true_or, Bool.false_or, Bool.or_true, Bool.or_false, Bool.true_and, Bool.false_and, Bool.and_true, Bool.and_false, reduceCtorEq, Nat.reduceSub, Nat.reduceAdd, Nat.zero_add, Nat.reduceLeDiff, List.contains_nil, List.contains_cons, decide_true, decide_false, Bool.false_eq_true, and_self, and_true, true_and, ↓reduceIte, io_is_between, io_is_exchange, io_walk, io_is_round, io_check_round, io_back, io_with_names, io_renamed, io_ring_from, io_rings_of, io_around, io_found_turns, io_found_corners, io_corners, io_check_square, io_turns, io__law_town, io__law_draw, io__law_order, io__law_hangs, io__law_round, io__law_back, io_law]
end Law_shearsquares_k12_corners

namespace Law_shearsquares_k12_corners
open PySem (PyData)
open Dat Plain
theorem erase_map {α β : Type} (f : α → β) : ∀ (p : List α) (v : Nat), (p.map f).eraseIdx v = (p.eraseIdx v).map f
  | [], v => by simp
  | a :: r, 0 => rfl
  | a :: r, v + 1 => by
    show f a :: (r.map f).eraseIdx v = f a :: (r.eraseIdx v).map f
    rw [erase_map f r v]
theorem popi_ls (io : Io) (cf : Caller) {i : Nat} {e : E} {g : G} {p : List Nat} (h : g[i]? = some (some (.own (ls p)))) : ev io cf (.popi i e) g = bd (ev io cf e g) fun x => bd x.1.fz fun k => bd (pkv x.2 i) fun d => popAt i k d x.2 := by
  rw [q_ev_28]
  have : pkv g i = .ok (ls p) := by unfold pkv; rw [h]; rfl
  rw [this]
  rfl
theorem popAt_ls {i v : Nat} {g : G} {p : List Nat} (h : g[i]? = some (some (.own (ls p)))) (hv : v < p.length) (hl : p.length ≤ 1000) : popAt i (.int (v : Int)) (ls p) g = .ok (.f (.int ((p.getD v 0 : Nat) : Int)), g.set i (some (.own (ls (p.eraseIdx v))))) := by
  have e : popAt i (.int (v : Int)) (ls p) g = if 0 ≤ (v : Int) ∧ (v : Int) ≤ LIM then match (p.map fun n : Nat => PyData.int (n : Int))[(v : Int).toNat]? with
    | some y => R.bind (chg g i fun _ => .ok (.list ((p.map fun n : Nat => PyData.int (n : Int)).eraseIdx (v : Int).toNat))) fun g => .ok (.f y, g)
    | none => .bad else .bad := rfl
  rw [e, if_pos ⟨by omega, by have : LIM = 1000000 := rfl; omega⟩]
  have e1 : (p.map fun n : Nat => PyData.int (n : Int))[(v : Int).toNat]? = some (.int ((p.getD v 0 : Nat) : Int)) := by
    rw [Int.toNat_natCast, List.getElem?_map, List.getElem?_eq_getElem hv]
    simp [List.getD, hv]
  rw [e1]
  have e2 : (p.map fun n : Nat => PyData.int (n : Int)).eraseIdx (v : Int).toNat = (p.eraseIdx v).map fun n : Nat => PyData.int (n : Int) := by
    rw [Int.toNat_natCast, erase_map]
  rw [e2]
  unfold chg
  rw [h]
  rfl
theorem mem_split : ∀ {p : List Nat} {v : Nat} (hv : v < p.length), List.Perm (p.getD v 0 :: p.eraseIdx v) p
  | [], v, h => by simp at h
  | a :: r, 0, h => List.Perm.refl _
  | a :: r, v + 1, h => by
    have ih := mem_split (p := r) (v := v) (by simpa using h)
    show List.Perm (r.getD v 0 :: a :: r.eraseIdx v) (a :: r)
    exact (List.Perm.swap a (r.getD v 0) _).trans (ih.cons a)
theorem isP_perm {n : Nat} {p : List Nat} (h : List.Perm p (List.range n)) : IsP n p where
  len := by have := h.length_eq; simpa using this
  lt := fun x hx => List.mem_range.mp (h.mem_iff.mp hx)
  nd := h.nodup_iff.mpr List.nodup_range
theorem r_order (k : Nat) (ns t : List Int) (n b : Nat) (h1 : 1 ≤ n) (h7 : n ≤ 7) (hb : b + n ≤ 1000000) (ht : Town ns t b) : ∃ (p : List Nat) (t' : List Int), run P (k + 2) 18 [sc ns, li t, .int (n : Int)] = .ok (.f (tp p), [li t']) ∧ IsP n p ∧ Town ns t' (b + n) := by
  obtain ⟨g', e, o, l, t', hg, hp, hl, hT⟩ := whl_inv (io := ioOf P) (cf := run P (k + 1)) (W := W__law_order_1) rfl
    (fun m g => ∃ (o l : List Nat) (t' : List Int), g = [some (.frz (sc ns)), some (.io (li t')), some (.frz (.int (n : Int))), some (.own (ls o)), some (.own (ls l))] ∧ List.Perm (o ++ l) (List.range n) ∧ m = l.length ∧ Town ns t' (b + o.length))
    (fun m g ⟨o, l, t', hg, hp, hl, hT⟩ => by
      subst hg
      have tot : o.length + l.length = n := by
        have := hp.length_eq
        simpa using this
      by_cases q : l = []
      · left
        have d0 : decide (l = []) = true := decide_eq_true q
        refine ⟨_, by simp only [d0, q_ev_0, q_ev_1, q_ev_2, q_ev_3, q_ev_4, q_ev_5, q_ev_6, q_ev_7, q_ev_8, q_ev_9, q_ev_10, q_ev_11, q_ev_12, q_ev_13, q_ev_14, q_ev_15, q_ev_16, q_ev_17, q_ev_18, q_ev_19, q_ev_20, q_ev_21, q_ev_22, q_ev_23, q_ev_24, q_ev_25, q_ev_26, q_ev_27, q_ev_29, q_ev_30, q_evC_0, q_evC_1, q_evAnd_0, q_evAnd_1, q_evOr_0, q_evOr_1, q_evO_0, q_evO_1, q_evA_0, q_evA_1, q_evD_0, q_evD_1, q_evI_0, q_evI_1, q_evI_2, q_evI_3, q_evI_4, q_exec_0, q_exec_1, q_exec_2, q_exec_3, q_exec_4, q_exec_5, q_exec_6, q_exec_7, q_exec_8, q_exec_9, q_exec_10, q_exec_11, q_exec_12, q_exec_13, q_exec_14, q_tst, bd_ok, bq_ok, R.bind, rdv, mvv, pkv, put, chg, Vl.fz, Vl.res, B.dat, asBool, Dat.asInt?, handed, Dat.backTo, refsOf, noDup, okO, newIo, newCount, startG, outsG, stP, stQ, stVs, x_items1, x_items2, items_tp, items_ls, x_ty1, x_ty2, x_ty3, isTy_tp, x_len1, x_len2, x_len3, len_tp, len_ls, x_tup1, x_tup2, tuple_ls, x_lst1, x_lst2, list_ls, list_tp, x_neg, x_add, x_sub, x_lt, x_le, x_gt, x_ge, x_eqI, x_neI, x_eqB, x_neB, x_eqT, x_neT, x_neL, x_neL0, x_notin, x_memL, x_frz1, x_frz2, frz_tp, frz_ls, x_isL, isLst_ls, x_seq1, x_slot, x_slotf, x_sloto,
  List.getElem?_cons_zero, List.getElem?_cons_succ, List.set_cons_zero, List.set_cons_succ, List.zip_cons_cons, List.zip_nil_right, List.zip_nil_left, List.map_cons, List.map_nil, List.nil_append, List.cons_append, List.length_cons, List.length_nil, List.replicate, if_true, if_false, ite_true, ite_false, Bool.not_true, Bool.not_false, Bool.not_eq_true', Bool.true_or, Bool.false_or, Bool.or_true, Bool.or_false, Bool.true_and, Bool.false_and, Bool.and_true, Bool.and_false, reduceCtorEq, Nat.reduceSub, Nat.reduceAdd, Nat.zero_add, Nat.reduceLeDiff, List.contains_nil, List.contains_cons, decide_true, decide_false, Bool.false_eq_true, and_self, and_true, true_and, ↓reduceIte, io_is_between, io_is_exchange, io_walk, io_is_round, io_check_round, io_back, io_with_names, io_renamed, io_ring_from, io_rings_of, io_around, io_found_turns, io_found_corners, io_corners, io_check_square, io_turns, io__law_town, io__law_draw, io__law_order, io__law_hangs, io__law_round, io__law_back, io_law], ⟨o, l, t', rfl, hp, by rw [q]; rfl, hT⟩, by rw [hl, q]; rfl⟩
      · right
        have d0 : decide (l = []) = false := decide_eq_false q
        have hl0 : 0 < l.length := List.length_pos_iff.mpr q
        obtain ⟨v, t2, e2, hv, hT2⟩ := r_draw k ns t' l.length (b + o.length) hl0 (by omega) (by omega) hT
        refine ⟨l.length - 1, _, [some (.frz (sc ns)), some (.io (li t2)), some (.frz (.int (n : Int))), some (.own (ls (o ++ [l.getD v 0]))), some (.own (ls (l.eraseIdx v)))], by omega, by simp only [d0, q_ev_0, q_ev_1, q_ev_2, q_ev_3, q_ev_4, q_ev_5, q_ev_6, q_ev_7, q_ev_8, q_ev_9, q_ev_10, q_ev_11, q_ev_12, q_ev_13, q_ev_14, q_ev_15, q_ev_16, q_ev_17, q_ev_18, q_ev_19, q_ev_20, q_ev_21, q_ev_22, q_ev_23, q_ev_24, q_ev_25, q_ev_26, q_ev_27, q_ev_29, q_ev_30, q_evC_0, q_evC_1, q_evAnd_0, q_evAnd_1, q_evOr_0, q_evOr_1, q_evO_0, q_evO_1, q_evA_0, q_evA_1, q_evD_0, q_evD_1, q_evI_0, q_evI_1, q_evI_2, q_evI_3, q_evI_4, q_exec_0, q_exec_1, q_exec_2, q_exec_3, q_exec_4, q_exec_5, q_exec_6, q_exec_7, q_exec_8, q_exec_9, q_exec_10, q_exec_11, q_exec_12, q_exec_13, q_exec_14, q_tst, bd_ok, bq_ok, R.bind, rdv, mvv, pkv, put, chg, Vl.fz, Vl.res, B.dat, asBool, Dat.asInt?, handed, Dat.backTo, refsOf, noDup, okO, newIo, newCount, startG, outsG, stP, stQ, stVs, x_items1, x_items2, items_tp, items_ls, x_ty1, x_ty2, x_ty3, isTy_tp, x_len1, x_len2, x_len3, len_tp, len_ls, x_tup1, x_tup2, tuple_ls, x_lst1, x_lst2, list_ls, list_tp, x_neg, x_add, x_sub, x_lt, x_le, x_gt, x_ge, x_eqI, x_neI, x_eqB, x_neB, x_eqT, x_neT, x_neL, x_neL0, x_notin, x_memL, x_frz1, x_frz2, frz_tp, frz_ls, x_isL, isLst_ls, x_seq1, x_slot, x_slotf, x_sloto,
  List.getElem?_cons_zero, List.getElem?_cons_succ, List.set_cons_zero, List.set_cons_succ, List.zip_cons_cons, List.zip_nil_right, List.zip_nil_left, List.map_cons, List.map_nil, List.nil_append, List.cons_append, List.length_cons, List.length_nil, List.replicate, if_true, if_false, ite_true, ite_false, Bool.not_true, Bool.not_false, Bool.not_eq_true', Bool.true_or, Bool.false_or, Bool.or_true, Bool.or_false, Bool.true_and, Bool.false_and, Bool.and_true, Bool.and_false, reduceCtorEq, Nat.reduceSub, Nat.reduceAdd, Nat.zero_add, Nat.reduceLeDiff, List.contains_nil, List.contains_cons, decide_true, decide_false, Bool.false_eq_true, and_self, and_true, true_and, ↓reduceIte, io_is_between, io_is_exchange, io_walk, io_is_round, io_check_round, io_back, io_with_names, io_renamed, io_ring_from, io_rings_of, io_around, io_found_turns, io_found_corners, io_corners, io_check_square, io_turns, io__law_town, io__law_draw, io__law_order, io__law_hangs, io__law_round, io__law_back, io_law]; rfl, ?_, o ++ [l.getD v 0], l.eraseIdx v, t2, rfl, ?_, ?_, ?_⟩
        · have a1 := popi_ls (ioOf P) (run P (k + 1)) (i := 4) (e := .call 17 (.cons (.var 0) (.cons (.pv 1) (.cons (.b1 .len (.pv 4)) .nil)))) (g := [some (.frz (sc ns)), some (.io (li t')), some (.frz (.int (n : Int))), some (.own (ls o)), some (.own (ls l))]) (p := l) rfl
          have a2 := popAt_ls (i := 4) (v := v) (g := [some (.frz (sc ns)), some (.io (li t2)), some (.frz (.int (n : Int))), some (.own (ls o)), some (.own (ls l))]) (p := l) rfl hv (by omega)
          rw [q_exec_6]
          simp only [a1, e2, a2, app_ls o _ (show o.length ≤ 1000 by omega), q_ev_0, q_ev_1, q_ev_2, q_ev_3, q_ev_4, q_ev_5, q_ev_6, q_ev_7, q_ev_8, q_ev_9, q_ev_10, q_ev_11, q_ev_12, q_ev_13, q_ev_14, q_ev_15, q_ev_16, q_ev_17, q_ev_18, q_ev_19, q_ev_20, q_ev_21, q_ev_22, q_ev_23, q_ev_24, q_ev_25, q_ev_26, q_ev_27, q_ev_29, q_ev_30, q_evC_0, q_evC_1, q_evAnd_0, q_evAnd_1, q_evOr_0, q_evOr_1, q_evO_0, q_evO_1, q_evA_0, q_evA_1, q_evD_0, q_evD_1, q_evI_0, q_evI_1, q_evI_2, q_evI_3, q_evI_4, q_exec_0, q_exec_1, q_exec_2, q_exec_3, q_exec_4, q_exec_5, q_exec_6, q_exec_7, q_exec_8, q_exec_9, q_exec_10, q_exec_11, q_exec_12, q_exec_13, q_exec_14, q_tst, bd_ok, bq_ok, R.bind, rdv, mvv, pkv, put, chg, Vl.fz, Vl.res, B.dat, asBool, Dat.asInt?, handed, Dat.backTo, refsOf, noDup, okO, newIo, newCount, startG, outsG, stP, stQ, stVs, x_items1, x_items2, items_tp, items_ls, x_ty1, x_ty2, x_ty3, isTy_tp, x_len1, x_len2, x_len3, len_tp, len_ls, x_tup1, x_tup2, tuple_ls, x_lst1, x_lst2, list_ls, list_tp, x_neg, x_add, x_sub, x_lt, x_le, x_gt, x_ge, x_eqI, x_neI, x_eqB, x_neB, x_eqT, x_neT, x_neL, x_neL0, x_notin, x_memL, x_frz1, x_frz2, frz_tp, frz_ls, x_isL, isLst_ls, x_seq1, x_slot, x_slotf, x_sloto,
  List.getElem?_cons_zero, List.getElem?_cons_succ, List.set_cons_zero, List.set_cons_succ, List.zip_cons_cons, List.zip_nil_right, List.zip_nil_left, List.map_cons, List.map_nil, List.nil_append, List.cons_append, List.length_cons, List.length_nil, List.replicate, if_true, if_false, ite_true, ite_false, Bool.not_true, Bool.not_false, Bool.not_eq_true', Bool.true_or, Bool.false_or, Bool.or_true, Bool.or_false, Bool.true_and, Bool.false_and, Bool.and_true, Bool.and_false, reduceCtorEq, Nat.reduceSub, Nat.reduceAdd, Nat.zero_add, Nat.reduceLeDiff, List.contains_nil, List.contains_cons, decide_true, decide_false, Bool.false_eq_true, and_self, and_true, true_and, ↓reduceIte, io_is_between, io_is_exchange, io_walk, io_is_round, io_check_round, io_back, io_with_names, io_renamed, io_ring_from, io_rings_of, io_around, io_found_turns, io_found_corners, io_corners, io_check_square, io_turns, io__law_town, io__law_draw, io__law_order, io__law_hangs, io__law_round, io__law_back, io_law]
        · have hh : List.Perm (o ++ [l.getD v 0] ++ l.eraseIdx v) (o ++ l) := by
            rw [List.append_assoc]
            exact List.Perm.append_left o (mem_split hv)
          exact hh.trans hp
        · rw [List.length_eraseIdx_of_lt hv]
        · simp only [List.length_append, List.length_singleton]
          exact hT2)
    n [some (.frz (sc ns)), some (.io (li t)), some (.frz (.int (n : Int))), some (.own (ls [])), some (.own (ls (List.range n)))] (by omega) ⟨[], List.range n, t, rfl, List.Perm.refl _, by simp, ht⟩
  have l0 : l = [] := List.length_eq_zero_iff.mp hl.symm
  subst l0
  subst hg
  rw [List.append_nil] at hp
  have ip := isP_perm hp
  refine ⟨o, t', ?_, ip, by have := ip.len; rw [← this]; exact hT⟩
  rw [run_at at__law_order rfl rfl]
  have e0 : ls [] = .list [] := rfl
  have e1 : ls (List.range n) = .list ((List.range n).map fun i : Nat => PyData.int (i : Int)) := rfl
  rw [e0, e1] at e
  simp only [bodyR, F__law_order, rng1 n (by omega), e, q_ev_0, q_ev_1, q_ev_2, q_ev_3, q_ev_4, q_ev_5, q_ev_6, q_ev_7, q_ev_8, q_ev_9, q_ev_10, q_ev_11, q_ev_12, q_ev_13, q_ev_14, q_ev_15, q_ev_16, q_ev_17, q_ev_18, q_ev_19, q_ev_20, q_ev_21, q_ev_22, q_ev_23, q_ev_24, q_ev_25, q_ev_26, q_ev_27, q_ev_29, q_ev_30, q_evC_0, q_evC_1, q_evAnd_0, q_evAnd_1, q_evOr_0, q_evOr_1, q_evO_0, q_evO_1, q_evA_0, q_evA_1, q_evD_0, q_evD_1, q_evI_0, q_evI_1, q_evI_2, q_evI_3, q_evI_4, q_exec_0, q_exec_1, q_exec_2, q_exec_3, q_exec_4, q_exec_5, q_exec_6, q_exec_7, q_exec_8, q_exec_9, q_exec_10, q_exec_11, q_exec_12, q_exec_13, q_exec_14, q_tst, bd_ok, bq_ok, R.bind, rdv, mvv, pkv, put, chg, Vl.fz, Vl.res, B.dat, asBool, Dat.asInt?, handed, Dat.backTo, refsOf, noDup, okO, newIo, newCount, startG, outsG, stP, stQ, stVs, x_items1, x_items2, items_tp, items_ls, x_ty1, x_ty2, x_ty3, isTy_tp, x_len1, x_len2, x_len3, len_tp, len_ls, x_tup1, x_tup2, tuple_ls, x_lst1, x_lst2, list_ls, list_tp, x_neg, x_add, x_sub, x_lt, x_le, x_gt, x_ge, x_eqI, x_neI, x_eqB, x_neB, x_eqT, x_neT, x_neL, x_neL0, x_notin, x_memL, x_frz1, x_frz2, frz_tp, frz_ls, x_isL, isLst_ls, x_seq1, x_slot, x_slotf, x_sloto,
  List.getElem?_cons_zero, List.getElem?_cons_succ, List.set_cons_zero, List.set_cons_succ, List.zip_cons_cons, List.zip_nil_right, List.zip_nil_left, List.map_cons, List.map_nil, List.nil_append, List.cons_append, List.length_cons, List.length_nil, List.replicate, if_true, if_false, ite_true, ite_false, Bool.not_true, Bool.not_false, Bool.not_eq_true', Bool.true_or, Bool.false_or, Bool.or_true, Bool.or_false, Bool.true_and, Bool.false_and, Bool.and_true, Bool.and_false, reduceCtorEq, Nat.reduceSub, Nat.reduceAdd, Nat.zero_add, Nat.reduceLeDiff, List.contains_nil, List.contains_cons, decide_true, decide_false, Bool.false_eq_true, and_self, and_true, true_and, ↓reduceIte, io_is_between, io_is_exchange, io_walk, io_is_round, io_check_round, io_back, io_with_names, io_renamed, io_ring_from, io_rings_of, io_around, io_found_turns, io_found_corners, io_corners, io_check_square, io_turns, io__law_town, io__law_draw, io__law_order, io__law_hangs, io__law_round, io__law_back, io_law]
theorem x_cat (a b : List Nat) (h : a.length + b.length ≤ 100000) : op2 .add (ls a) (ls b) = .ok (.o (ls (a ++ b))) := by
  have e : op2 .add (ls a) (ls b) = if (a.map fun n : Nat => PyData.int (n : Int)).length + (b.map fun n : Nat => PyData.int (n : Int)).length ≤ LIM then .ok (.o (.list ((a.map fun n : Nat => PyData.int (n : Int)) ++ (b.map fun n : Nat => PyData.int (n : Int))))) else .bad := rfl
  rw [e, if_pos (by rw [List.length_map, List.length_map]; have : LIM = 1000000 := rfl; omega), ← List.map_append]
  rfl
theorem lenset_ls (p : List Nat) (hl : p.length ≤ 4000) : ∃ q : List Nat, fn1 .lenset (ls p) = .ok (.f (.int ((q.length : Nat) : Int))) ∧ q.Nodup ∧ ∀ x, x ∈ q ↔ x ∈ p := by
  obtain ⟨q, h1, h2, h3⟩ := dedup_eq p [] (by simp)
  refine ⟨q, ?_, h2, fun x => by rw [h3]; simp⟩
  simp only [List.map_nil] at h1
  simp only [fn1, ls, intsOf_int, R.ofO, R.bind, List.length_map, hl, if_true, bI, h1]
def newN (r u : List Nat) (s : Nat) (met : List Nat) : List Nat := [at' r s, at' u s].filter fun x => !decide (x ∈ met)
theorem c_hang (io : Io) (cf : Caller) (r u met : List Nat) (s : Nat) (x3 : D) (hr : s < r.length) (hu : s < u.length) : ev io cf C__law_hangs_1 [some (.frz (tp r)), some (.frz (tp u)), some (.own (ls met)), some (.frz x3), some (.frz (.int (s : Int))), none] = .ok (.o (ls (newN r u s met)), [some (.frz (tp r)), some (.frz (tp u)), some (.own (ls met)), some (.frz x3), some (.frz (.int (s : Int))), none]) := by
  have a1 := ix_tp r s hr
  have a2 := ix_tp u s hu
  have l2 : (2 : Nat) ≤ LIM := by have : LIM = 1000000 := rfl; omega
  unfold newN
  by_cases h1 : at' r s ∈ met <;> by_cases h2 : at' u s ∈ met
  · simp only [C__law_hangs_1, a1, a2, l2, h1, h2, lcF, R.quiet, Pat.slots, wipeG, rst, Option.getD, q_ev_0, q_ev_1, q_ev_2, q_ev_3, q_ev_4, q_ev_5, q_ev_6, q_ev_7, q_ev_8, q_ev_9, q_ev_10, q_ev_11, q_ev_12, q_ev_13, q_ev_14, q_ev_15, q_ev_16, q_ev_17, q_ev_18, q_ev_19, q_ev_20, q_ev_21, q_ev_22, q_ev_23, q_ev_24, q_ev_25, q_ev_26, q_ev_27, q_ev_29, q_ev_30, q_evC_0, q_evC_1, q_evAnd_0, q_evAnd_1, q_evOr_0, q_evOr_1, q_evO_0, q_evO_1, q_evA_0, q_evA_1, q_evD_0, q_evD_1, q_evI_0, q_evI_1, q_evI_2, q_evI_3, q_evI_4, q_exec_0, q_exec_1, q_exec_2, q_exec_3, q_exec_4, q_exec_5, q_exec_6, q_exec_7, q_exec_8, q_exec_9, q_exec_10, q_exec_11, q_exec_12, q_exec_13, q_exec_14, q_tst, bd_ok, bq_ok, R.bind, rdv, mvv, pkv, put, chg, Vl.fz, Vl.res, B.dat, asBool, Dat.asInt?, handed, Dat.backTo, refsOf, noDup, okO, newIo, newCount, startG, outsG, stP, stQ, stVs, x_items1, x_items2, items_tp, items_ls, x_ty1, x_ty2, x_ty3, isTy_tp, x_len1, x_len2, x_len3, len_tp, len_ls, x_tup1, x_tup2, tuple_ls, x_lst1, x_lst2, list_ls, list_tp, x_neg, x_add, x_sub, x_lt, x_le, x_gt, x_ge, x_eqI, x_neI, x_eqB, x_neB, x_eqT, x_neT, x_neL, x_neL0, x_notin, x_memL, x_frz1, x_frz2, frz_tp, frz_ls, x_isL, isLst_ls, x_seq1, x_slot, x_slotf, x_sloto,
  List.getElem?_cons_zero, List.getElem?_cons_succ, List.set_cons_zero, List.set_cons_succ, List.zip_cons_cons, List.zip_nil_right, List.zip_nil_left, List.map_cons, List.map_nil, List.nil_append, List.cons_append, List.length_cons, List.length_nil, List.replicate, if_true, if_false, ite_true, ite_false, Bool.not_true, Bool.not_false, Bool.not_eq_true', Bool.true_or, Bool.false_or, Bool.or_true, Bool.or_false, Bool.true_and, Bool.false_and, Bool.and_true, Bool.and_false, reduceCtorEq, Nat.reduceSub, Nat.reduceAdd, Nat.zero_add, Nat.reduceLeDiff, List.contains_nil, List.contains_cons, decide_true, decide_false, Bool.false_eq_true, and_self, and_true, true_and, ↓reduceIte, io_is_between, io_is_exchange, io_walk, io_is_round, io_check_round, io_back, io_with_names, io_renamed, io_ring_from, io_rings_of, io_around, io_found_turns, io_found_corners, io_corners, io_check_square, io_turns, io__law_town, io__law_draw, io__law_order, io__law_hangs, io__law_round, io__law_back, io_law]
    simp only [List.filter, h1, h2, decide_true, decide_false, Bool.not_true, Bool.not_false]
    rfl
  · simp only [C__law_hangs_1, a1, a2, l2, h1, h2, lcF, R.quiet, Pat.slots, wipeG, rst, Option.getD, q_ev_0, q_ev_1, q_ev_2, q_ev_3, q_ev_4, q_ev_5, q_ev_6, q_ev_7, q_ev_8, q_ev_9, q_ev_10, q_ev_11, q_ev_12, q_ev_13, q_ev_14, q_ev_15, q_ev_16, q_ev_17, q_ev_18, q_ev_19, q_ev_20, q_ev_21, q_ev_22, q_ev_23, q_ev_24, q_ev_25, q_ev_26, q_ev_27, q_ev_29, q_ev_30, q_evC_0, q_evC_1, q_evAnd_0, q_evAnd_1, q_evOr_0, q_evOr_1, q_evO_0, q_evO_1, q_evA_0, q_evA_1, q_evD_0, q_evD_1, q_evI_0, q_evI_1, q_evI_2, q_evI_3, q_evI_4, q_exec_0, q_exec_1, q_exec_2, q_exec_3, q_exec_4, q_exec_5, q_exec_6, q_exec_7, q_exec_8, q_exec_9, q_exec_10, q_exec_11, q_exec_12, q_exec_13, q_exec_14, q_tst, bd_ok, bq_ok, R.bind, rdv, mvv, pkv, put, chg, Vl.fz, Vl.res, B.dat, asBool, Dat.asInt?, handed, Dat.backTo, refsOf, noDup, okO, newIo, newCount, startG, outsG, stP, stQ, stVs, x_items1, x_items2, items_tp, items_ls, x_ty1, x_ty2, x_ty3, isTy_tp, x_len1, x_len2, x_len3, len_tp, len_ls, x_tup1, x_tup2, tuple_ls, x_lst1, x_lst2, list_ls, list_tp, x_neg, x_add, x_sub, x_lt, x_le, x_gt, x_ge, x_eqI, x_neI, x_eqB, x_neB, x_eqT, x_neT, x_neL, x_neL0, x_notin, x_memL, x_frz1, x_frz2, frz_tp, frz_ls, x_isL, isLst_ls, x_seq1, x_slot, x_slotf, x_sloto,
  List.getElem?_cons_zero, List.getElem?_cons_succ, List.set_cons_zero, List.set_cons_succ, List.zip_cons_cons, List.zip_nil_right, List.zip_nil_left, List.map_cons, List.map_nil, List.nil_append, List.cons_append, List.length_cons, List.length_nil, List.replicate, if_true, if_false, ite_true, ite_false, Bool.not_true, Bool.not_false, Bool.not_eq_true', Bool.true_or, Bool.false_or, Bool.or_true, Bool.or_false, Bool.true_and, Bool.false_and, Bool.and_true, Bool.and_false, reduceCtorEq, Nat.reduceSub, Nat.reduceAdd, Nat.zero_add, Nat.reduceLeDiff, List.contains_nil, List.contains_cons, decide_true, decide_false, Bool.false_eq_true, and_self, and_true, true_and, ↓reduceIte, io_is_between, io_is_exchange, io_walk, io_is_round, io_check_round, io_back, io_with_names, io_renamed, io_ring_from, io_rings_of, io_around, io_found_turns, io_found_corners, io_corners, io_check_square, io_turns, io__law_town, io__law_draw, io__law_order, io__law_hangs, io__law_round, io__law_back, io_law]
    simp only [List.filter, h1, h2, decide_true, decide_false, Bool.not_true, Bool.not_false]
    rfl
  · simp only [C__law_hangs_1, a1, a2, l2, h1, h2, lcF, R.quiet, Pat.slots, wipeG, rst, Option.getD, q_ev_0, q_ev_1, q_ev_2, q_ev_3, q_ev_4, q_ev_5, q_ev_6, q_ev_7, q_ev_8, q_ev_9, q_ev_10, q_ev_11, q_ev_12, q_ev_13, q_ev_14, q_ev_15, q_ev_16, q_ev_17, q_ev_18, q_ev_19, q_ev_20, q_ev_21, q_ev_22, q_ev_23, q_ev_24, q_ev_25, q_ev_26, q_ev_27, q_ev_29, q_ev_30, q_evC_0, q_evC_1, q_evAnd_0, q_evAnd_1, q_evOr_0, q_evOr_1, q_evO_0, q_evO_1, q_evA_0, q_evA_1, q_evD_0, q_evD_1, q_evI_0, q_evI_1, q_evI_2, q_evI_3, q_evI_4, q_exec_0, q_exec_1, q_exec_2, q_exec_3, q_exec_4, q_exec_5, q_exec_6, q_exec_7, q_exec_8, q_exec_9, q_exec_10, q_exec_11, q_exec_12, q_exec_13, q_exec_14, q_tst, bd_ok, bq_ok, R.bind, rdv, mvv, pkv, put, chg, Vl.fz, Vl.res, B.dat, asBool, Dat.asInt?, handed, Dat.backTo, refsOf, noDup, okO, newIo, newCount, startG, outsG, stP, stQ, stVs, x_items1, x_items2, items_tp, items_ls, x_ty1, x_ty2, x_ty3, isTy_tp, x_len1, x_len2, x_len3, len_tp, len_ls, x_tup1, x_tup2, tuple_ls, x_lst1, x_lst2, list_ls, list_tp, x_neg, x_add, x_sub, x_lt, x_le, x_gt, x_ge, x_eqI, x_neI, x_eqB, x_neB, x_eqT, x_neT, x_neL, x_neL0, x_notin, x_memL, x_frz1, x_frz2, frz_tp, frz_ls, x_isL, isLst_ls, x_seq1, x_slot, x_slotf, x_sloto,
  List.getElem?_cons_zero, List.getElem?_cons_succ, List.set_cons_zero, List.set_cons_succ, List.zip_cons_cons, List.zip_nil_right, List.zip_nil_left, List.map_cons, List.map_nil, List.nil_append, List.cons_append, List.length_cons, List.length_nil, List.replicate, if_true, if_false, ite_true, ite_false, Bool.not_true, Bool.not_false, Bool.not_eq_true', Bool.true_or, Bool.false_or, Bool.or_true, Bool.or_false, Bool.true_and, Bool.false_and, Bool.and_true, Bool.and_false, reduceCtorEq, Nat.reduceSub, Nat.reduceAdd, Nat.zero_add, Nat.reduceLeDiff, List.contains_nil, List.contains_cons, decide_true, decide_false, Bool.false_eq_true, and_self, and_true, true_and, ↓reduceIte, io_is_between, io_is_exchange, io_walk, io_is_round, io_check_round, io_back, io_with_names, io_renamed, io_ring_from, io_rings_of, io_around, io_found_turns, io_found_corners, io_corners, io_check_square, io_turns, io__law_town, io__law_draw, io__law_order, io__law_hangs, io__law_round, io__law_back, io_law]
    simp only [List.filter, h1, h2, decide_true, decide_false, Bool.not_true, Bool.not_false]
    rfl
  · simp only [C__law_hangs_1, a1, a2, l2, h1, h2, lcF, R.quiet, Pat.slots, wipeG, rst, Option.getD, q_ev_0, q_ev_1, q_ev_2, q_ev_3, q_ev_4, q_ev_5, q_ev_6, q_ev_7, q_ev_8, q_ev_9, q_ev_10, q_ev_11, q_ev_12, q_ev_13, q_ev_14, q_ev_15, q_ev_16, q_ev_17, q_ev_18, q_ev_19, q_ev_20, q_ev_21, q_ev_22, q_ev_23, q_ev_24, q_ev_25, q_ev_26, q_ev_27, q_ev_29, q_ev_30, q_evC_0, q_evC_1, q_evAnd_0, q_evAnd_1, q_evOr_0, q_evOr_1, q_evO_0, q_evO_1, q_evA_0, q_evA_1, q_evD_0, q_evD_1, q_evI_0, q_evI_1, q_evI_2, q_evI_3, q_evI_4, q_exec_0, q_exec_1, q_exec_2, q_exec_3, q_exec_4, q_exec_5, q_exec_6, q_exec_7, q_exec_8, q_exec_9, q_exec_10, q_exec_11, q_exec_12, q_exec_13, q_exec_14, q_tst, bd_ok, bq_ok, R.bind, rdv, mvv, pkv, put, chg, Vl.fz, Vl.res, B.dat, asBool, Dat.asInt?, handed, Dat.backTo, refsOf, noDup, okO, newIo, newCount, startG, outsG, stP, stQ, stVs, x_items1, x_items2, items_tp, items_ls, x_ty1, x_ty2, x_ty3, isTy_tp, x_len1, x_len2, x_len3, len_tp, len_ls, x_tup1, x_tup2, tuple_ls, x_lst1, x_lst2, list_ls, list_tp, x_neg, x_add, x_sub, x_lt, x_le, x_gt, x_ge, x_eqI, x_neI, x_eqB, x_neB, x_eqT, x_neT, x_neL, x_neL0, x_notin, x_memL, x_frz1, x_frz2, frz_tp, frz_ls, x_isL, isLst_ls, x_seq1, x_slot, x_slotf, x_sloto,
  List.getElem?_cons_zero, List.getElem?_cons_succ, List.set_cons_zero, List.set_cons_succ, List.zip_cons_cons, List.zip_nil_right, List.zip_nil_left, List.map_cons, List.map_nil, List.nil_append, List.cons_append, List.length_cons, List.length_nil, List.replicate, if_true, if_false, ite_true, ite_false, Bool.not_true, Bool.not_false, Bool.not_eq_true', Bool.true_or, Bool.false_or, Bool.or_true, Bool.or_false, Bool.true_and, Bool.false_and, Bool.and_true, Bool.and_false, reduceCtorEq, Nat.reduceSub, Nat.reduceAdd, Nat.zero_add, Nat.reduceLeDiff, List.contains_nil, List.contains_cons, decide_true, decide_false, Bool.false_eq_true, and_self, and_true, true_and, ↓reduceIte, io_is_between, io_is_exchange, io_walk, io_is_round, io_check_round, io_back, io_with_names, io_renamed, io_ring_from, io_rings_of, io_around, io_found_turns, io_found_corners, io_corners, io_check_square, io_turns, io__law_town, io__law_draw, io__law_order, io__law_hangs, io__law_round, io__law_back, io_law]
    simp only [List.filter, h1, h2, decide_true, decide_false, Bool.not_true, Bool.not_false]
    rfl
end Law_shearsquares_k12_corners

namespace Law_shearsquares_k12_corners
open PySem (PyData)
open Dat Plain
def clo (n : Nat) (r u : List Nat) (S : Nat → Prop) : Prop := ∀ x, x < n → S x → S (at' r x) ∧ S (at' u x)
theorem mem_newN {r u met : List Nat} {s x : Nat} (h : x ∈ newN r u s met) : x = at' r s ∨ x = at' u s := by
  have := (List.mem_filter.mp h).1
  simpa using this
theorem len_newN (r u met : List Nat) (s : Nat) : (newN r u s met).length ≤ 2 := List.length_filter_le _ [at' r s, at' u s]
section
variable {n : Nat} {r u : List Nat} (h7 : n ≤ 7) (hr : IsP n r) (hu : IsP n u)
include h7 hr hu
theorem w_h1 (io : Io) (cf : Caller) (met : List Nat) (x3 : D) (j4 : Option B) (n4 : nio j4) (hm : ∀ x ∈ met, x < n) (ml : met.length ≤ 3000) :
    ∃ met' j4', Dat.exec io cf W__law_hangs_1 [some (.frz (tp r)), some (.frz (tp u)), some (.own (ls met)), some (.frz x3), j4, none] = .ok (.nx [some (.frz (tp r)), some (.frz (tp u)), some (.own (ls met')), some (.frz x3), j4', none]) ∧ nio j4' ∧ (∀ x ∈ met', x < n) ∧ (∀ S, clo n r u S → (∀ x ∈ met, S x) → ∀ x ∈ met', S x) ∧ met'.length ≤ 3 * met.length := by
  obtain ⟨g', e, rest, met', j4', hg, hds, n4', hrest, hm', hS, hlen⟩ := for_inv (io := io) (cf := cf) (W := W__law_hangs_1) (g := [some (.frz (tp r)), some (.frz (tp u)), some (.own (ls met)), some (.frz x3), j4, none]) (g1 := [some (.frz (tp r)), some (.frz (tp u)), some (.own (ls met)), some (.frz x3), j4, none]) (ds := met.map fun n : Nat => PyData.int (n : Int)) rfl (by simp only [q_ev_0, q_ev_1, q_ev_2, q_ev_3, q_ev_4, q_ev_5, q_ev_6, q_ev_7, q_ev_8, q_ev_9, q_ev_10, q_ev_11, q_ev_12, q_ev_13, q_ev_14, q_ev_15, q_ev_16, q_ev_17, q_ev_18, q_ev_19, q_ev_20, q_ev_21, q_ev_22, q_ev_23, q_ev_24, q_ev_25, q_ev_26, q_ev_27, q_ev_29, q_ev_30, q_evC_0, q_evC_1, q_evAnd_0, q_evAnd_1, q_evOr_0, q_evOr_1, q_evO_0, q_evO_1, q_evA_0, q_evA_1, q_evD_0, q_evD_1, q_evI_0, q_evI_1, q_evI_2, q_evI_3, q_evI_4, q_exec_0, q_exec_1, q_exec_2, q_exec_3, q_exec_4, q_exec_5, q_exec_6, q_exec_7, q_exec_8, q_exec_9, q_exec_10, q_exec_11, q_exec_12, q_exec_13, q_exec_14, q_tst, bd_ok, bq_ok, R.bind, rdv, mvv, pkv, put, chg, Vl.fz, Vl.res, B.dat, asBool, Dat.asInt?, handed, Dat.backTo, refsOf, noDup, okO, newIo, newCount, startG, outsG, stP, stQ, stVs, x_items1, x_items2, items_tp, items_ls, x_ty1, x_ty2, x_ty3, isTy_tp, x_len1, x_len2, x_len3, len_tp, len_ls, x_tup1, x_tup2, tuple_ls, x_lst1, x_lst2, list_ls, list_tp, x_neg, x_add, x_sub, x_lt, x_le, x_gt, x_ge, x_eqI, x_neI, x_eqB, x_neB, x_eqT, x_neT, x_neL, x_neL0, x_notin, x_memL, x_frz1, x_frz2, frz_tp, frz_ls, x_isL, isLst_ls, x_seq1, x_slot, x_slotf, x_sloto,
  List.getElem?_cons_zero, List.getElem?_cons_succ, List.set_cons_zero, List.set_cons_succ, List.zip_cons_cons, List.zip_nil_right, List.zip_nil_left, List.map_cons, List.map_nil, List.nil_append, List.cons_append, List.length_cons, List.length_nil, List.replicate, if_true, if_false, ite_true, ite_false, Bool.not_true, Bool.not_false, Bool.not_eq_true', Bool.true_or, Bool.false_or, Bool.or_true, Bool.or_false, Bool.true_and, Bool.false_and, Bool.and_true, Bool.and_false, reduceCtorEq, Nat.reduceSub, Nat.reduceAdd, Nat.zero_add, Nat.reduceLeDiff, List.contains_nil, List.contains_cons, decide_true, decide_false, Bool.false_eq_true, and_self, and_true, true_and, ↓reduceIte, io_is_between, io_is_exchange, io_walk, io_is_round, io_check_round, io_back, io_with_names, io_renamed, io_ring_from, io_rings_of, io_around, io_found_turns, io_found_corners, io_corners, io_check_square, io_turns, io__law_town, io__law_draw, io__law_order, io__law_hangs, io__law_round, io__law_back, io_law])
    (fun ds g => ∃ (rest met' : List Nat) (j4' : Option B), g = [some (.frz (tp r)), some (.frz (tp u)), some (.own (ls met')), some (.frz x3), j4', none] ∧ ds = rest.map (fun n : Nat => PyData.int (n : Int)) ∧ nio j4' ∧ (∀ x ∈ rest, x ∈ met) ∧ (∀ x ∈ met', x < n) ∧ (∀ S, clo n r u S → (∀ x ∈ met, S x) → ∀ x ∈ met', S x) ∧ met'.length + 2 * rest.length ≤ 3 * met.length)
    (fun d rr g ⟨rest, met', j4', hg, hds, n4', hrest, hm', hS, hlen⟩ => by
      cases rest with
      | nil => cases hds
      | cons s rest =>
        rw [List.map_cons] at hds
        injection hds with h1 h2
        subst hg h1
        have hsm := hrest s (by simp)
        have hs := hm s hsm
        have a1 := c_hang io cf r u met' s x3 (by rw [hr.len]; exact hs) (by rw [hu.len]; exact hs)
        have l2 := len_newN r u met' s
        simp only [List.length_cons] at hlen
        have a2 := x_cat met' (newN r u s met') (by omega)
        refine ⟨[some (.frz (tp r)), some (.frz (tp u)), some (.own (ls met')), some (.frz x3), some (.frz (.int (s : Int))), none], [some (.frz (tp r)), some (.frz (tp u)), some (.own (ls (met' ++ newN r u s met'))), some (.frz x3), some (.frz (.int (s : Int))), none], ?_, ?_, rest, met' ++ newN r u s met', _, rfl, h2, nio_f _, fun x hx => hrest x (by simp [hx]), ?_, ?_, ?_⟩
        · rcases nio_cases n4' with rfl | ⟨d, rfl⟩ | ⟨d, rfl⟩ <;> simp only [q_ev_0, q_ev_1, q_ev_2, q_ev_3, q_ev_4, q_ev_5, q_ev_6, q_ev_7, q_ev_8, q_ev_9, q_ev_10, q_ev_11, q_ev_12, q_ev_13, q_ev_14, q_ev_15, q_ev_16, q_ev_17, q_ev_18, q_ev_19, q_ev_20, q_ev_21, q_ev_22, q_ev_23, q_ev_24, q_ev_25, q_ev_26, q_ev_27, q_ev_29, q_ev_30, q_evC_0, q_evC_1, q_evAnd_0, q_evAnd_1, q_evOr_0, q_evOr_1, q_evO_0, q_evO_1, q_evA_0, q_evA_1, q_evD_0, q_evD_1, q_evI_0, q_evI_1, q_evI_2, q_evI_3, q_evI_4, q_exec_0, q_exec_1, q_exec_2, q_exec_3, q_exec_4, q_exec_5, q_exec_6, q_exec_7, q_exec_8, q_exec_9, q_exec_10, q_exec_11, q_exec_12, q_exec_13, q_exec_14, q_tst, bd_ok, bq_ok, R.bind, rdv, mvv, pkv, put, chg, Vl.fz, Vl.res, B.dat, asBool, Dat.asInt?, handed, Dat.backTo, refsOf, noDup, okO, newIo, newCount, startG, outsG, stP, stQ, stVs, x_items1, x_items2, items_tp, items_ls, x_ty1, x_ty2, x_ty3, isTy_tp, x_len1, x_len2, x_len3, len_tp, len_ls, x_tup1, x_tup2, tuple_ls, x_lst1, x_lst2, list_ls, list_tp, x_neg, x_add, x_sub, x_lt, x_le, x_gt, x_ge, x_eqI, x_neI, x_eqB, x_neB, x_eqT, x_neT, x_neL, x_neL0, x_notin, x_memL, x_frz1, x_frz2, frz_tp, frz_ls, x_isL, isLst_ls, x_seq1, x_slot, x_slotf, x_sloto,
  List.getElem?_cons_zero, List.getElem?_cons_succ, List.set_cons_zero, List.set_cons_succ, List.zip_cons_cons, List.zip_nil_right, List.zip_nil_left, List.map_cons, List.map_nil, List.nil_append, List.cons_append, List.length_cons, List.length_nil, List.replicate, if_true, if_false, ite_true, ite_false, Bool.not_true, Bool.not_false, Bool.not_eq_true', Bool.true_or, Bool.false_or, Bool.or_true, Bool.or_false, Bool.true_and, Bool.false_and, Bool.and_true, Bool.and_false, reduceCtorEq, Nat.reduceSub, Nat.reduceAdd, Nat.zero_add, Nat.reduceLeDiff, List.contains_nil, List.contains_cons, decide_true, decide_false, Bool.false_eq_true, and_self, and_true, true_and, ↓reduceIte, io_is_between, io_is_exchange, io_walk, io_is_round, io_check_round, io_back, io_with_names, io_renamed, io_ring_from, io_rings_of, io_around, io_found_turns, io_found_corners, io_corners, io_check_square, io_turns, io__law_town, io__law_draw, io__law_order, io__law_hangs, io__law_round, io__law_back, io_law]
        · simp only [a1, a2, q_ev_0, q_ev_1, q_ev_2, q_ev_3, q_ev_4, q_ev_5, q_ev_6, q_ev_7, q_ev_8, q_ev_9, q_ev_10, q_ev_11, q_ev_12, q_ev_13, q_ev_14, q_ev_15, q_ev_16, q_ev_17, q_ev_18, q_ev_19, q_ev_20, q_ev_21, q_ev_22, q_ev_23, q_ev_24, q_ev_25, q_ev_26, q_ev_27, q_ev_29, q_ev_30, q_evC_0, q_evC_1, q_evAnd_0, q_evAnd_1, q_evOr_0, q_evOr_1, q_evO_0, q_evO_1, q_evA_0, q_evA_1, q_evD_0, q_evD_1, q_evI_0, q_evI_1, q_evI_2, q_evI_3, q_evI_4, q_exec_0, q_exec_1, q_exec_2, q_exec_3, q_exec_4, q_exec_5, q_exec_6, q_exec_7, q_exec_8, q_exec_9, q_exec_10, q_exec_11, q_exec_12, q_exec_13, q_exec_14, q_tst, bd_ok, bq_ok, R.bind, rdv, mvv, pkv, put, chg, Vl.fz, Vl.res, B.dat, asBool, Dat.asInt?, handed, Dat.backTo, refsOf, noDup, okO, newIo, newCount, startG, outsG, stP, stQ, stVs, x_items1, x_items2, items_tp, items_ls, x_ty1, x_ty2, x_ty3, isTy_tp, x_len1, x_len2, x_len3, len_tp, len_ls, x_tup1, x_tup2, tuple_ls, x_lst1, x_lst2, list_ls, list_tp, x_neg, x_add, x_sub, x_lt, x_le, x_gt, x_ge, x_eqI, x_neI, x_eqB, x_neB, x_eqT, x_neT, x_neL, x_neL0, x_notin, x_memL, x_frz1, x_frz2, frz_tp, frz_ls, x_isL, isLst_ls, x_seq1, x_slot, x_slotf, x_sloto,
  List.getElem?_cons_zero, List.getElem?_cons_succ, List.set_cons_zero, List.set_cons_succ, List.zip_cons_cons, List.zip_nil_right, List.zip_nil_left, List.map_cons, List.map_nil, List.nil_append, List.cons_append, List.length_cons, List.length_nil, List.replicate, if_true, if_false, ite_true, ite_false, Bool.not_true, Bool.not_false, Bool.not_eq_true', Bool.true_or, Bool.false_or, Bool.or_true, Bool.or_false, Bool.true_and, Bool.false_and, Bool.and_true, Bool.and_false, reduceCtorEq, Nat.reduceSub, Nat.reduceAdd, Nat.zero_add, Nat.reduceLeDiff, List.contains_nil, List.contains_cons, decide_true, decide_false, Bool.false_eq_true, and_self, and_true, true_and, ↓reduceIte, io_is_between, io_is_exchange, io_walk, io_is_round, io_check_round, io_back, io_with_names, io_renamed, io_ring_from, io_rings_of, io_around, io_found_turns, io_found_corners, io_corners, io_check_square, io_turns, io__law_town, io__law_draw, io__law_order, io__law_hangs, io__law_round, io__law_back, io_law]
        · intro x hx
          rcases List.mem_append.mp hx with hx | hx
          · exact hm' x hx
          · rcases mem_newN hx with rfl | rfl
            · exact hr.atlt hs
            · exact hu.atlt hs
        · intro S cS mS x hx
          rcases List.mem_append.mp hx with hx | hx
          · exact hS S cS mS x hx
          · have := cS s hs (mS s hsm)
            rcases mem_newN hx with rfl | rfl
            · exact this.1
            · exact this.2
        · rw [List.length_append]; omega)
    ⟨met, met, j4, rfl, rfl, n4, fun x hx => hx, hm, fun S _ h => h, by omega⟩
  cases rest with
  | cons s rest => cases hds
  | nil =>
    subst hg
    exact ⟨met', j4', e, n4', hm', hS, by simpa using hlen⟩
theorem w_h2 (io : Io) (cf : Caller) (h1 : 1 ≤ n) : ∃ met j3 j4, Dat.exec io cf W__law_hangs_2 [some (.frz (tp r)), some (.frz (tp u)), some (.own (ls [0])), none, none, none] = .ok (.nx [some (.frz (tp r)), some (.frz (tp u)), some (.own (ls met)), j3, j4, none]) ∧ (∀ x ∈ met, x < n) ∧ (∀ S : Nat → Prop, clo n r u S → S 0 → ∀ x ∈ met, S x) ∧ met.length ≤ 2187 := by
  obtain ⟨g', e, i, met, j3, j4, hg, hds, hi, n3, n4, hm, hS, hl⟩ := for_inv (io := io) (cf := cf) (W := W__law_hangs_2) (g := [some (.frz (tp r)), some (.frz (tp u)), some (.own (ls [0])), none, none, none]) (g1 := [some (.frz (tp r)), some (.frz (tp u)), some (.own (ls [0])), none, none, none]) (ds := (List.range n).map fun i : Nat => PyData.int (i : Int)) rfl (by simp only [hr.len, rng1 n (by omega), q_ev_0, q_ev_1, q_ev_2, q_ev_3, q_ev_4, q_ev_5, q_ev_6, q_ev_7, q_ev_8, q_ev_9, q_ev_10, q_ev_11, q_ev_12, q_ev_13, q_ev_14, q_ev_15, q_ev_16, q_ev_17, q_ev_18, q_ev_19, q_ev_20, q_ev_21, q_ev_22, q_ev_23, q_ev_24, q_ev_25, q_ev_26, q_ev_27, q_ev_29, q_ev_30, q_evC_0, q_evC_1, q_evAnd_0, q_evAnd_1, q_evOr_0, q_evOr_1, q_evO_0, q_evO_1, q_evA_0, q_evA_1, q_evD_0, q_evD_1, q_evI_0, q_evI_1, q_evI_2, q_evI_3, q_evI_4, q_exec_0, q_exec_1, q_exec_2, q_exec_3, q_exec_4, q_exec_5, q_exec_6, q_exec_7, q_exec_8, q_exec_9, q_exec_10, q_exec_11, q_exec_12, q_exec_13, q_exec_14, q_tst, bd_ok, bq_ok, R.bind, rdv, mvv, pkv, put, chg, Vl.fz, Vl.res, B.dat, asBool, Dat.asInt?, handed, Dat.backTo, refsOf, noDup, okO, newIo, newCount, startG, outsG, stP, stQ, stVs, x_items1, x_items2, items_tp, items_ls, x_ty1, x_ty2, x_ty3, isTy_tp, x_len1, x_len2, x_len3, len_tp, len_ls, x_tup1, x_tup2, tuple_ls, x_lst1, x_lst2, list_ls, list_tp, x_neg, x_add, x_sub, x_lt, x_le, x_gt, x_ge, x_eqI, x_neI, x_eqB, x_neB, x_eqT, x_neT, x_neL, x_neL0, x_notin, x_memL, x_frz1, x_frz2, frz_tp, frz_ls, x_isL, isLst_ls, x_seq1, x_slot, x_slotf, x_sloto,
  List.getElem?_cons_zero, List.getElem?_cons_succ, List.set_cons_zero, List.set_cons_succ, List.zip_cons_cons, List.zip_nil_right, List.zip_nil_left, List.map_cons, List.map_nil, List.nil_append, List.cons_append, List.length_cons, List.length_nil, List.replicate, if_true, if_false, ite_true, ite_false, Bool.not_true, Bool.not_false, Bool.not_eq_true', Bool.true_or, Bool.false_or, Bool.or_true, Bool.or_false, Bool.true_and, Bool.false_and, Bool.and_true, Bool.and_false, reduceCtorEq, Nat.reduceSub, Nat.reduceAdd, Nat.zero_add, Nat.reduceLeDiff, List.contains_nil, List.contains_cons, decide_true, decide_false, Bool.false_eq_true, and_self, and_true, true_and, ↓reduceIte, io_is_between, io_is_exchange, io_walk, io_is_round, io_check_round, io_back, io_with_names, io_renamed, io_ring_from, io_rings_of, io_around, io_found_turns, io_found_corners, io_corners, io_check_square, io_turns, io__law_town, io__law_draw, io__law_order, io__law_hangs, io__law_round, io__law_back, io_law])
    (fun ds g => ∃ (i : Nat) (met : List Nat) (j3 j4 : Option B), g = [some (.frz (tp r)), some (.frz (tp u)), some (.own (ls met)), j3, j4, none] ∧ ds = (List.range' i (n - i)).map (fun i : Nat => PyData.int (i : Int)) ∧ i ≤ n ∧ nio j3 ∧ nio j4 ∧ (∀ x ∈ met, x < n) ∧ (∀ S : Nat → Prop, clo n r u S → S 0 → ∀ x ∈ met, S x) ∧ met.length ≤ 3 ^ i)
    (fun d rr g ⟨i, met, j3, j4, hg, hds, hi, n3, n4, hm, hS, hl⟩ => by
      by_cases hin : i < n
      · have z : n - i = (n - (i + 1)) + 1 := by omega
        rw [z, List.range'_succ, List.map_cons] at hds
        injection hds with q1 q2
        subst hg q1
        have p3 : 3 ^ i ≤ 3 ^ 6 := Nat.pow_le_pow_right (by omega) (by omega)
        have p36 : (3 : Nat) ^ 6 = 729 := by decide
        obtain ⟨met', j4', e', n4', hm', hS', hl'⟩ := w_h1 h7 hr hu io cf met (.int (i : Int)) j4 n4 hm (by omega)
        refine ⟨[some (.frz (tp r)), some (.frz (tp u)), some (.own (ls met)), some (.frz (.int (i : Int))), j4, none], _, ?_, e', i + 1, met', _, j4', rfl, q2, by omega, nio_f _, n4', hm', fun S cS s0 => hS' S cS (hS S cS s0), ?_⟩
        · rcases nio_cases n3 with rfl | ⟨d, rfl⟩ | ⟨d, rfl⟩ <;> simp only [q_ev_0, q_ev_1, q_ev_2, q_ev_3, q_ev_4, q_ev_5, q_ev_6, q_ev_7, q_ev_8, q_ev_9, q_ev_10, q_ev_11, q_ev_12, q_ev_13, q_ev_14, q_ev_15, q_ev_16, q_ev_17, q_ev_18, q_ev_19, q_ev_20, q_ev_21, q_ev_22, q_ev_23, q_ev_24, q_ev_25, q_ev_26, q_ev_27, q_ev_29, q_ev_30, q_evC_0, q_evC_1, q_evAnd_0, q_evAnd_1, q_evOr_0, q_evOr_1, q_evO_0, q_evO_1, q_evA_0, q_evA_1, q_evD_0, q_evD_1, q_evI_0, q_evI_1, q_evI_2, q_evI_3, q_evI_4, q_exec_0, q_exec_1, q_exec_2, q_exec_3, q_exec_4, q_exec_5, q_exec_6, q_exec_7, q_exec_8, q_exec_9, q_exec_10, q_exec_11, q_exec_12, q_exec_13, q_exec_14, q_tst, bd_ok, bq_ok, R.bind, rdv, mvv, pkv, put, chg, Vl.fz, Vl.res, B.dat, asBool, Dat.asInt?, handed, Dat.backTo, refsOf, noDup, okO, newIo, newCount, startG, outsG, stP, stQ, stVs, x_items1, x_items2, items_tp, items_ls, x_ty1, x_ty2, x_ty3, isTy_tp, x_len1, x_len2, x_len3, len_tp, len_ls, x_tup1, x_tup2, tuple_ls, x_lst1, x_lst2, list_ls, list_tp, x_neg, x_add, x_sub, x_lt, x_le, x_gt, x_ge, x_eqI, x_neI, x_eqB, x_neB, x_eqT, x_neT, x_neL, x_neL0, x_notin, x_memL, x_frz1, x_frz2, frz_tp, frz_ls, x_isL, isLst_ls, x_seq1, x_slot, x_slotf, x_sloto,
  List.getElem?_cons_zero, List.getElem?_cons_succ, List.set_cons_zero, List.set_cons_succ, List.zip_cons_cons, List.zip_nil_right, List.zip_nil_left, List.map_cons, List.map_nil, List.nil_append, List.cons_append, List.length_cons, List.length_nil, List.replicate, if_true, if_false, ite_true, ite_false, Bool.not_true, Bool.not_false, Bool.not_eq_true', Bool.true_or, Bool.false_or, Bool.or_true, Bool.or_false, Bool.true_and, Bool.false_and, Bool.and_true, Bool.and_false, reduceCtorEq, Nat.reduceSub, Nat.reduceAdd, Nat.zero_add, Nat.reduceLeDiff, List.contains_nil, List.contains_cons, decide_true, decide_false, Bool.false_eq_true, and_self, and_true, true_and, ↓reduceIte, io_is_between, io_is_exchange, io_walk, io_is_round, io_check_round, io_back, io_with_names, io_renamed, io_ring_from, io_rings_of, io_around, io_found_turns, io_found_corners, io_corners, io_check_square, io_turns, io__law_town, io__law_draw, io__law_order, io__law_hangs, io__law_round, io__law_back, io_law]
        · rw [Nat.pow_succ]; omega
      · have z : n - i = 0 := by omega
        rw [z] at hds
        cases hds)
    ⟨0, [0], none, none, rfl, by rw [List.range_eq_range']; rfl, by omega, nio_none, nio_none, by simp; omega, fun S _ s0 x hx => by simp at hx; subst hx; exact s0, by simp⟩
  subst hg
  have p3 : 3 ^ i ≤ 3 ^ 7 := Nat.pow_le_pow_right (by omega) (by omega)
  have : (3 : Nat) ^ 7 = 2187 := by decide
  exact ⟨met, j3, j4, e, hm, hS, by omega⟩
theorem r_hangs (k : Nat) (h1 : 1 ≤ n) : ∃ b : Bool, run P (k + 1) 19 [tp r, tp u] = .ok (.f (.bool b), []) ∧ (b = true → conn n r u) := by
  obtain ⟨met, j3, j4, e, hm, hS, hl⟩ := w_h2 h7 hr hu (ioOf P) (run P k) h1
  obtain ⟨q, q1, q2, q3⟩ := lenset_ls met (by omega)
  refine ⟨decide (((q.length : Nat) : Int) = ((n : Nat) : Int)), ?_, fun hb => ?_⟩
  · rw [run_at at__law_hangs rfl rfl]
    have e0 : ls [0] = .list [.int 0] := rfl
    rw [e0] at e
    simp only [bodyR, F__law_hangs, e, q1, hr.len, q_ev_0, q_ev_1, q_ev_2, q_ev_3, q_ev_4, q_ev_5, q_ev_6, q_ev_7, q_ev_8, q_ev_9, q_ev_10, q_ev_11, q_ev_12, q_ev_13, q_ev_14, q_ev_15, q_ev_16, q_ev_17, q_ev_18, q_ev_19, q_ev_20, q_ev_21, q_ev_22, q_ev_23, q_ev_24, q_ev_25, q_ev_26, q_ev_27, q_ev_29, q_ev_30, q_evC_0, q_evC_1, q_evAnd_0, q_evAnd_1, q_evOr_0, q_evOr_1, q_evO_0, q_evO_1, q_evA_0, q_evA_1, q_evD_0, q_evD_1, q_evI_0, q_evI_1, q_evI_2, q_evI_3, q_evI_4, q_exec_0, q_exec_1, q_exec_2, q_exec_3, q_exec_4, q_exec_5, q_exec_6, q_exec_7, q_exec_8, q_exec_9, q_exec_10, q_exec_11, q_exec_12, q_exec_13, q_exec_14, q_tst, bd_ok, bq_ok, R.bind, rdv, mvv, pkv, put, chg, Vl.fz, Vl.res, B.dat, asBool, Dat.asInt?, handed, Dat.backTo, refsOf, noDup, okO, newIo, newCount, startG, outsG, stP, stQ, stVs, x_items1, x_items2, items_tp, items_ls, x_ty1, x_ty2, x_ty3, isTy_tp, x_len1, x_len2, x_len3, len_tp, len_ls, x_tup1, x_tup2, tuple_ls, x_lst1, x_lst2, list_ls, list_tp, x_neg, x_add, x_sub, x_lt, x_le, x_gt, x_ge, x_eqI, x_neI, x_eqB, x_neB, x_eqT, x_neT, x_neL, x_neL0, x_notin, x_memL, x_frz1, x_frz2, frz_tp, frz_ls, x_isL, isLst_ls, x_seq1, x_slot, x_slotf, x_sloto,
  List.getElem?_cons_zero, List.getElem?_cons_succ, List.set_cons_zero, List.set_cons_succ, List.zip_cons_cons, List.zip_nil_right, List.zip_nil_left, List.map_cons, List.map_nil, List.nil_append, List.cons_append, List.length_cons, List.length_nil, List.replicate, if_true, if_false, ite_true, ite_false, Bool.not_true, Bool.not_false, Bool.not_eq_true', Bool.true_or, Bool.false_or, Bool.or_true, Bool.or_false, Bool.true_and, Bool.false_and, Bool.and_true, Bool.and_false, reduceCtorEq, Nat.reduceSub, Nat.reduceAdd, Nat.zero_add, Nat.reduceLeDiff, List.contains_nil, List.contains_cons, decide_true, decide_false, Bool.false_eq_true, and_self, and_true, true_and, ↓reduceIte, io_is_between, io_is_exchange, io_walk, io_is_round, io_check_round, io_back, io_with_names, io_renamed, io_ring_from, io_rings_of, io_around, io_found_turns, io_found_corners, io_corners, io_check_square, io_turns, io__law_town, io__law_draw, io__law_order, io__law_hangs, io__law_round, io__law_back, io_law]
  · have hb := of_decide_eq_true hb
    have all := nd_all (n := n) q2 (fun x hx => hm x ((q3 x).mp hx)) (by omega)
    intro S s0 cS x hx
    exact hS S cS s0 x ((q3 x).mp (all x hx))
end
/-- the squares in a row -/
def sh (n : Nat) : List Nat := ofF n fun k => (k + 1) % n
theorem sh_isP {n : Nat} (h1 : 1 ≤ n) : IsP n (sh n) := isP_ofF (fun i hi => Nat.mod_lt _ h1) fun i j hi hj e => by
  by_cases a : i + 1 = n <;> by_cases b : j + 1 = n
  · omega
  · rw [a, Nat.mod_self, Nat.mod_eq_of_lt (show j + 1 < n by omega)] at e; omega
  · rw [b, Nat.mod_self, Nat.mod_eq_of_lt (show i + 1 < n by omega)] at e; omega
  · rw [Nat.mod_eq_of_lt (show i + 1 < n by omega), Nat.mod_eq_of_lt (show j + 1 < n by omega)] at e; omega
theorem sh_conn {n : Nat} (h1 : 1 ≤ n) (u : List Nat) : conn n (sh n) u := fun S s0 cS => by
  intro x
  induction x with
  | zero => intro _; exact s0
  | succ x ih =>
    intro hx
    have := (cS x (by omega) (ih (by omega))).1
    have e : at' (sh n) x = (x + 1) % n := at_ofF (f := fun k => (k + 1) % n) (show x < n by omega)
    rw [e, Nat.mod_eq_of_lt hx] at this
    exact this
theorem c_shift (io : Io) (cf : Caller) {C : E} {s m : Nat} {g : G} {n : Nat} (hC : C = .lc (.bin .mod (.bin .add (.pv s) (.cst (.int 1))) (.pv m)) (.v s) (.rng (.cons (.var m) .nil)) .no) (h1 : 1 ≤ n) (h7 : n ≤ 7) (hm : g[m]? = some (some (.frz (.int (n : Int))))) (hs : s < g.length) (hsm : s ≠ m) (hn : ∀ d, g[s]? ≠ some (some (.io d))) : ev io cf C g = .ok (.o (ls (sh n)), g) := by
  have e := lc_map (io := io) (cf := cf) (C := C) (g := g) (g1 := g) (xs := List.range n) hC (fun i : Nat => .int (i : Int)) (fun i => .int (((i + 1) % n : Nat) : Int)) (by simp only [hm, rng1 n (by omega), q_ev_0, q_ev_1, q_ev_2, q_ev_3, q_ev_4, q_ev_5, q_ev_6, q_ev_7, q_ev_8, q_ev_9, q_ev_10, q_ev_11, q_ev_12, q_ev_13, q_ev_14, q_ev_15, q_ev_16, q_ev_17, q_ev_18, q_ev_19, q_ev_20, q_ev_21, q_ev_22, q_ev_23, q_ev_24, q_ev_25, q_ev_26, q_ev_27, q_ev_29, q_ev_30, q_evC_0, q_evC_1, q_evAnd_0, q_evAnd_1, q_evOr_0, q_evOr_1, q_evO_0, q_evO_1, q_evA_0, q_evA_1, q_evD_0, q_evD_1, q_evI_0, q_evI_1, q_evI_2, q_evI_3, q_evI_4, q_exec_0, q_exec_1, q_exec_2, q_exec_3, q_exec_4, q_exec_5, q_exec_6, q_exec_7, q_exec_8, q_exec_9, q_exec_10, q_exec_11, q_exec_12, q_exec_13, q_exec_14, q_tst, bd_ok, bq_ok, R.bind, rdv, mvv, pkv, put, chg, Vl.fz, Vl.res, B.dat, asBool, Dat.asInt?, handed, Dat.backTo, refsOf, noDup, okO, newIo, newCount, startG, outsG, stP, stQ, stVs, x_items1, x_items2, items_tp, items_ls, x_ty1, x_ty2, x_ty3, isTy_tp, x_len1, x_len2, x_len3, len_tp, len_ls, x_tup1, x_tup2, tuple_ls, x_lst1, x_lst2, list_ls, list_tp, x_neg, x_add, x_sub, x_lt, x_le, x_gt, x_ge, x_eqI, x_neI, x_eqB, x_neB, x_eqT, x_neT, x_neL, x_neL0, x_notin, x_memL, x_frz1, x_frz2, frz_tp, frz_ls, x_isL, isLst_ls, x_seq1, x_slot, x_slotf, x_sloto,
  List.getElem?_cons_zero, List.getElem?_cons_succ, List.set_cons_zero, List.set_cons_succ, List.zip_cons_cons, List.zip_nil_right, List.zip_nil_left, List.map_cons, List.map_nil, List.nil_append, List.cons_append, List.length_cons, List.length_nil, List.replicate, if_true, if_false, ite_true, ite_false, Bool.not_true, Bool.not_false, Bool.not_eq_true', Bool.true_or, Bool.false_or, Bool.or_true, Bool.or_false, Bool.true_and, Bool.false_and, Bool.and_true, Bool.and_false, reduceCtorEq, Nat.reduceSub, Nat.reduceAdd, Nat.zero_add, Nat.reduceLeDiff, List.contains_nil, List.contains_cons, decide_true, decide_false, Bool.false_eq_true, and_self, and_true, true_and, ↓reduceIte, io_is_between, io_is_exchange, io_walk, io_is_round, io_check_round, io_back, io_with_names, io_renamed, io_ring_from, io_rings_of, io_around, io_found_turns, io_found_corners, io_corners, io_check_square, io_turns, io__law_town, io__law_draw, io__law_order, io__law_hangs, io__law_round, io__law_back, io_law]) (by simp; omega) hs hn fun x hx => ⟨.f (.int (((x + 1) % n : Nat) : Int)), by
    have a1 : (g.set s (some (.frz (.int (x : Int)))))[s]? = some (some (.frz (.int (x : Int)))) := List.getElem?_set_self hs
    have a2 : (g.set s (some (.frz (.int (x : Int)))))[m]? = some (some (.frz (.int (n : Int)))) := by rw [List.getElem?_set_ne hsm]; exact hm
    have a3 := x_mod ((x : Int) + 1) (n : Int) (by omega)
    have a4 : ((x : Int) + 1) % (n : Int) = (((x + 1) % n : Nat) : Int) := by push_cast; rfl
    rw [a4] at a3
    simp only [a1, a2, a3, q_ev_0, q_ev_1, q_ev_2, q_ev_3, q_ev_4, q_ev_5, q_ev_6, q_ev_7, q_ev_8, q_ev_9, q_ev_10, q_ev_11, q_ev_12, q_ev_13, q_ev_14, q_ev_15, q_ev_16, q_ev_17, q_ev_18, q_ev_19, q_ev_20, q_ev_21, q_ev_22, q_ev_23, q_ev_24, q_ev_25, q_ev_26, q_ev_27, q_ev_29, q_ev_30, q_evC_0, q_evC_1, q_evAnd_0, q_evAnd_1, q_evOr_0, q_evOr_1, q_evO_0, q_evO_1, q_evA_0, q_evA_1, q_evD_0, q_evD_1, q_evI_0, q_evI_1, q_evI_2, q_evI_3, q_evI_4, q_exec_0, q_exec_1, q_exec_2, q_exec_3, q_exec_4, q_exec_5, q_exec_6, q_exec_7, q_exec_8, q_exec_9, q_exec_10, q_exec_11, q_exec_12, q_exec_13, q_exec_14, q_tst, bd_ok, bq_ok, R.bind, rdv, mvv, pkv, put, chg, Vl.fz, Vl.res, B.dat, asBool, Dat.asInt?, handed, Dat.backTo, refsOf, noDup, okO, newIo, newCount, startG, outsG, stP, stQ, stVs, x_items1, x_items2, items_tp, items_ls, x_ty1, x_ty2, x_ty3, isTy_tp, x_len1, x_len2, x_len3, len_tp, len_ls, x_tup1, x_tup2, tuple_ls, x_lst1, x_lst2, list_ls, list_tp, x_neg, x_add, x_sub, x_lt, x_le, x_gt, x_ge, x_eqI, x_neI, x_eqB, x_neB, x_eqT, x_neT, x_neL, x_neL0, x_notin, x_memL, x_frz1, x_frz2, frz_tp, frz_ls, x_isL, isLst_ls, x_seq1, x_slot, x_slotf, x_sloto,
  List.getElem?_cons_zero, List.getElem?_cons_succ, List.set_cons_zero, List.set_cons_succ, List.zip_cons_cons, List.zip_nil_right, List.zip_nil_left, List.map_cons, List.map_nil, List.nil_append, List.cons_append, List.length_cons, List.length_nil, List.replicate, if_true, if_false, ite_true, ite_false, Bool.not_true, Bool.not_false, Bool.not_eq_true', Bool.true_or, Bool.false_or, Bool.or_true, Bool.or_false, Bool.true_and, Bool.false_and, Bool.and_true, Bool.and_false, reduceCtorEq, Nat.reduceSub, Nat.reduceAdd, Nat.zero_add, Nat.reduceLeDiff, List.contains_nil, List.contains_cons, decide_true, decide_false, Bool.false_eq_true, and_self, and_true, true_and, ↓reduceIte, io_is_between, io_is_exchange, io_walk, io_is_round, io_check_round, io_back, io_with_names, io_renamed, io_ring_from, io_rings_of, io_around, io_found_turns, io_found_corners, io_corners, io_check_square, io_turns, io__law_town, io__law_draw, io__law_order, io__law_hangs, io__law_round, io__law_back, io_law], rfl⟩
  rw [ls_map (List.range n) fun i => (i + 1) % n] at e
  exact e
theorem Town.mono {ns t : List Int} {b b' : Nat} (h : Town ns t b) (hb : b ≤ b') : Town ns t b' := ⟨h.1, h.2.1, by have := h.2.2; omega⟩
theorem r_lround (k : Nat) (ns t : List Int) (b : Nat) (hb : b ≤ 1000) (ht : Town ns t b) : ∃ (n : Nat) (r u : List Nat) (t' : List Int), run P (k + 3) 20 [sc ns, li t, .int 7] = .ok (.f (pr r u), [li t']) ∧ 1 ≤ n ∧ n ≤ 7 ∧ IsP n r ∧ IsP n u ∧ conn n r u ∧ Town ns t' (b + 200) := by
  obtain ⟨v, t1, e1, hv, T1⟩ := r_draw (k + 1) ns t 7 b (by omega) (by omega) (by omega) ht
  have z7 : ((7 : Nat) : Int) = 7 := rfl
  rw [z7] at e1
  obtain ⟨n, hn⟩ : ∃ n, n = 1 + v := ⟨_, rfl⟩
  have h1 : 1 ≤ n := by omega
  have h7 : n ≤ 7 := by omega
  have en : (1 : Int) + (v : Int) = (n : Int) := by omega
  have a6 : rngD [.int 6] = .ok ((List.range 6).map fun i : Nat => PyData.int (i : Int)) := rng1 6 (by omega)
  have main := for_ret (io := ioOf P) (cf := run P (k + 2)) (W := W__law_round_1) (g := [some (.frz (sc ns)), some (.io (li t1)), some (.frz (.int 7)), some (.frz (.int (n : Int))), none, none, none, none]) (g1 := [some (.frz (sc ns)), some (.io (li t1)), some (.frz (.int 7)), some (.frz (.int (n : Int))), none, none, none, none]) (ds := (List.range 6).map fun i : Nat => PyData.int (i : Int)) rfl (by simp only [a6, q_ev_0, q_ev_1, q_ev_2, q_ev_3, q_ev_4, q_ev_5, q_ev_6, q_ev_7, q_ev_8, q_ev_9, q_ev_10, q_ev_11, q_ev_12, q_ev_13, q_ev_14, q_ev_15, q_ev_16, q_ev_17, q_ev_18, q_ev_19, q_ev_20, q_ev_21, q_ev_22, q_ev_23, q_ev_24, q_ev_25, q_ev_26, q_ev_27, q_ev_29, q_ev_30, q_evC_0, q_evC_1, q_evAnd_0, q_evAnd_1, q_evOr_0, q_evOr_1, q_evO_0, q_evO_1, q_evA_0, q_evA_1, q_evD_0, q_evD_1, q_evI_0, q_evI_1, q_evI_2, q_evI_3, q_evI_4, q_exec_0, q_exec_1, q_exec_2, q_exec_3, q_exec_4, q_exec_5, q_exec_6, q_exec_7, q_exec_8, q_exec_9, q_exec_10, q_exec_11, q_exec_12, q_exec_13, q_exec_14, q_tst, bd_ok, bq_ok, R.bind, rdv, mvv, pkv, put, chg, Vl.fz, Vl.res, B.dat, asBool, Dat.asInt?, handed, Dat.backTo, refsOf, noDup, okO, newIo, newCount, startG, outsG, stP, stQ, stVs, x_items1, x_items2, items_tp, items_ls, x_ty1, x_ty2, x_ty3, isTy_tp, x_len1, x_len2, x_len3, len_tp, len_ls, x_tup1, x_tup2, tuple_ls, x_lst1, x_lst2, list_ls, list_tp, x_neg, x_add, x_sub, x_lt, x_le, x_gt, x_ge, x_eqI, x_neI, x_eqB, x_neB, x_eqT, x_neT, x_neL, x_neL0, x_notin, x_memL, x_frz1, x_frz2, frz_tp, frz_ls, x_isL, isLst_ls, x_seq1, x_slot, x_slotf, x_sloto,
  List.getElem?_cons_zero, List.getElem?_cons_succ, List.set_cons_zero, List.set_cons_succ, List.zip_cons_cons, List.zip_nil_right, List.zip_nil_left, List.map_cons, List.map_nil, List.nil_append, List.cons_append, List.length_cons, List.length_nil, List.replicate, if_true, if_false, ite_true, ite_false, Bool.not_true, Bool.not_false, Bool.not_eq_true', Bool.true_or, Bool.false_or, Bool.or_true, Bool.or_false, Bool.true_and, Bool.false_and, Bool.and_true, Bool.and_false, reduceCtorEq, Nat.reduceSub, Nat.reduceAdd, Nat.zero_add, Nat.reduceLeDiff, List.contains_nil, List.contains_cons, decide_true, decide_false, Bool.false_eq_true, and_self, and_true, true_and, ↓reduceIte, io_is_between, io_is_exchange, io_walk, io_is_round, io_check_round, io_back, io_with_names, io_renamed, io_ring_from, io_rings_of, io_around, io_found_turns, io_found_corners, io_corners, io_check_square, io_turns, io__law_town, io__law_draw, io__law_order, io__law_hangs, io__law_round, io__law_back, io_law])
    (fun ds g => ∃ (i : Nat) (t2 : List Int) (j4 j5 j6 : Option B), g = [some (.frz (sc ns)), some (.io (li t2)), some (.frz (.int 7)), some (.frz (.int (n : Int))), j4, j5, j6, none] ∧ ((j4 = none ∧ j5 = none ∧ j6 = none) ∨ ∃ d4 d5 d6, j4 = some (.frz d4) ∧ j5 = some (.frz d5) ∧ j6 = some (.frz d6)) ∧ i + ds.length = 6 ∧ Town ns t2 (b + 1 + 15 * i))
    (fun v g => ∃ (r u : List Nat) (t2 : List Int) (rest : G) (x : Option B), v = .f (pr r u) ∧ g = some (.frz (sc ns)) :: some (.io (li t2)) :: x :: rest ∧ IsP n r ∧ IsP n u ∧ conn n r u ∧ Town ns t2 (b + 200))
    (fun d rr g ⟨i, t2, j4, j5, j6, hg, hj, hi, T2⟩ => by
      subst hg
      simp only [List.length_cons] at hi
      obtain ⟨p1, t3, e3, ip1, T3⟩ := r_order k ns t2 n (b + 1 + 15 * i) h1 h7 (by omega) T2
      obtain ⟨p2, t4, e4, ip2, T4⟩ := r_order k ns t3 n (b + 1 + 15 * i + n) h1 h7 (by omega) T3
      obtain ⟨w, t5, e5, hw, T5⟩ := r_draw (k + 1) ns t4 4 (b + 1 + 15 * i + n + n) (by omega) (by omega) (by omega) T4
      have z4 : ((4 : Nat) : Int) = 4 := rfl
      rw [z4] at e5
      have cs := c_shift (ioOf P) (run P (k + 2)) (C := C__law_round_2) (s := 7) (m := 3) (n := n) (g := [some (.frz (sc ns)), some (.io (li t5)), some (.frz (.int 7)), some (.frz (.int (n : Int))), some (.frz d), some (.frz (tp p1)), some (.frz (tp p2)), none]) rfl h1 h7 rfl (by simp) (by omega) (by simp)
      obtain ⟨q, hq, iq⟩ : ∃ q : List Nat, q = (if w = 0 then sh n else p1) ∧ IsP n q := by
        by_cases c : w = 0
        · exact ⟨sh n, by rw [if_pos c], sh_isP h1⟩
        · exact ⟨p1, by rw [if_neg c], ip1⟩
      obtain ⟨bb, e6, hbb⟩ := r_hangs h7 iq ip2 (k + 1) h1
      refine ⟨[some (.frz (sc ns)), some (.io (li t2)), some (.frz (.int 7)), some (.frz (.int (n : Int))), some (.frz d), j5, j6, none], ?_, ?_⟩
      · rcases hj with ⟨rfl, rfl, rfl⟩ | ⟨d4, d5, d6, rfl, rfl, rfl⟩ <;> simp only [q_ev_0, q_ev_1, q_ev_2, q_ev_3, q_ev_4, q_ev_5, q_ev_6, q_ev_7, q_ev_8, q_ev_9, q_ev_10, q_ev_11, q_ev_12, q_ev_13, q_ev_14, q_ev_15, q_ev_16, q_ev_17, q_ev_18, q_ev_19, q_ev_20, q_ev_21, q_ev_22, q_ev_23, q_ev_24, q_ev_25, q_ev_26, q_ev_27, q_ev_29, q_ev_30, q_evC_0, q_evC_1, q_evAnd_0, q_evAnd_1, q_evOr_0, q_evOr_1, q_evO_0, q_evO_1, q_evA_0, q_evA_1, q_evD_0, q_evD_1, q_evI_0, q_evI_1, q_evI_2, q_evI_3, q_evI_4, q_exec_0, q_exec_1, q_exec_2, q_exec_3, q_exec_4, q_exec_5, q_exec_6, q_exec_7, q_exec_8, q_exec_9, q_exec_10, q_exec_11, q_exec_12, q_exec_13, q_exec_14, q_tst, bd_ok, bq_ok, R.bind, rdv, mvv, pkv, put, chg, Vl.fz, Vl.res, B.dat, asBool, Dat.asInt?, handed, Dat.backTo, refsOf, noDup, okO, newIo, newCount, startG, outsG, stP, stQ, stVs, x_items1, x_items2, items_tp, items_ls, x_ty1, x_ty2, x_ty3, isTy_tp, x_len1, x_len2, x_len3, len_tp, len_ls, x_tup1, x_tup2, tuple_ls, x_lst1, x_lst2, list_ls, list_tp, x_neg, x_add, x_sub, x_lt, x_le, x_gt, x_ge, x_eqI, x_neI, x_eqB, x_neB, x_eqT, x_neT, x_neL, x_neL0, x_notin, x_memL, x_frz1, x_frz2, frz_tp, frz_ls, x_isL, isLst_ls, x_seq1, x_slot, x_slotf, x_sloto,
  List.getElem?_cons_zero, List.getElem?_cons_succ, List.set_cons_zero, List.set_cons_succ, List.zip_cons_cons, List.zip_nil_right, List.zip_nil_left, List.map_cons, List.map_nil, List.nil_append, List.cons_append, List.length_cons, List.length_nil, List.replicate, if_true, if_false, ite_true, ite_false, Bool.not_true, Bool.not_false, Bool.not_eq_true', Bool.true_or, Bool.false_or, Bool.or_true, Bool.or_false, Bool.true_and, Bool.false_and, Bool.and_true, Bool.and_false, reduceCtorEq, Nat.reduceSub, Nat.reduceAdd, Nat.zero_add, Nat.reduceLeDiff, List.contains_nil, List.contains_cons, decide_true, decide_false, Bool.false_eq_true, and_self, and_true, true_and, ↓reduceIte, io_is_between, io_is_exchange, io_walk, io_is_round, io_check_round, io_back, io_with_names, io_renamed, io_ring_from, io_rings_of, io_around, io_found_turns, io_found_corners, io_corners, io_check_square, io_turns, io__law_town, io__law_draw, io__law_order, io__law_hangs, io__law_round, io__law_back, io_law]
      · cases bb with
        | false =>
          left
          refine ⟨[some (.frz (sc ns)), some (.io (li t5)), some (.frz (.int 7)), some (.frz (.int (n : Int))), some (.frz d), some (.frz (tp q)), some (.frz (tp p2)), none], ?_, i + 1, t5, _, _, _, rfl, .inr ⟨_, _, _, rfl, rfl, rfl⟩, by omega, T5.mono (by omega)⟩
          by_cases c : w = 0
          · rw [if_pos c] at hq
            subst hq
            have d0 : decide ((w : Int) = 0) = true := decide_eq_true (by omega)
            rcases hj with ⟨rfl, rfl, rfl⟩ | ⟨d4, d5, d6, rfl, rfl, rfl⟩ <;> simp only [e3, e4, e5, e6, d0, cs, q_ev_0, q_ev_1, q_ev_2, q_ev_3, q_ev_4, q_ev_5, q_ev_6, q_ev_7, q_ev_8, q_ev_9, q_ev_10, q_ev_11, q_ev_12, q_ev_13, q_ev_14, q_ev_15, q_ev_16, q_ev_17, q_ev_18, q_ev_19, q_ev_20, q_ev_21, q_ev_22, q_ev_23, q_ev_24, q_ev_25, q_ev_26, q_ev_27, q_ev_29, q_ev_30, q_evC_0, q_evC_1, q_evAnd_0, q_evAnd_1, q_evOr_0, q_evOr_1, q_evO_0, q_evO_1, q_evA_0, q_evA_1, q_evD_0, q_evD_1, q_evI_0, q_evI_1, q_evI_2, q_evI_3, q_evI_4, q_exec_0, q_exec_1, q_exec_2, q_exec_3, q_exec_4, q_exec_5, q_exec_6, q_exec_7, q_exec_8, q_exec_9, q_exec_10, q_exec_11, q_exec_12, q_exec_13, q_exec_14, q_tst, bd_ok, bq_ok, R.bind, rdv, mvv, pkv, put, chg, Vl.fz, Vl.res, B.dat, asBool, Dat.asInt?, handed, Dat.backTo, refsOf, noDup, okO, newIo, newCount, startG, outsG, stP, stQ, stVs, x_items1, x_items2, items_tp, items_ls, x_ty1, x_ty2, x_ty3, isTy_tp, x_len1, x_len2, x_len3, len_tp, len_ls, x_tup1, x_tup2, tuple_ls, x_lst1, x_lst2, list_ls, list_tp, x_neg, x_add, x_sub, x_lt, x_le, x_gt, x_ge, x_eqI, x_neI, x_eqB, x_neB, x_eqT, x_neT, x_neL, x_neL0, x_notin, x_memL, x_frz1, x_frz2, frz_tp, frz_ls, x_isL, isLst_ls, x_seq1, x_slot, x_slotf, x_sloto,
  List.getElem?_cons_zero, List.getElem?_cons_succ, List.set_cons_zero, List.set_cons_succ, List.zip_cons_cons, List.zip_nil_right, List.zip_nil_left, List.map_cons, List.map_nil, List.nil_append, List.cons_append, List.length_cons, List.length_nil, List.replicate, if_true, if_false, ite_true, ite_false, Bool.not_true, Bool.not_false, Bool.not_eq_true', Bool.true_or, Bool.false_or, Bool.or_true, Bool.or_false, Bool.true_and, Bool.false_and, Bool.and_true, Bool.and_false, reduceCtorEq, Nat.reduceSub, Nat.reduceAdd, Nat.zero_add, Nat.reduceLeDiff, List.contains_nil, List.contains_cons, decide_true, decide_false, Bool.false_eq_true, and_self, and_true, true_and, ↓reduceIte, io_is_between, io_is_exchange, io_walk, io_is_round, io_check_round, io_back, io_with_names, io_renamed, io_ring_from, io_rings_of, io_around, io_found_turns, io_found_corners, io_corners, io_check_square, io_turns, io__law_town, io__law_draw, io__law_order, io__law_hangs, io__law_round, io__law_back, io_law]
          · rw [if_neg c] at hq
            subst hq
            have d0 : decide ((w : Int) = 0) = false := decide_eq_false (by omega)
            rcases hj with ⟨rfl, rfl, rfl⟩ | ⟨d4, d5, d6, rfl, rfl, rfl⟩ <;> simp only [e3, e4, e5, e6, d0, q_ev_0, q_ev_1, q_ev_2, q_ev_3, q_ev_4, q_ev_5, q_ev_6, q_ev_7, q_ev_8, q_ev_9, q_ev_10, q_ev_11, q_ev_12, q_ev_13, q_ev_14, q_ev_15, q_ev_16, q_ev_17, q_ev_18, q_ev_19, q_ev_20, q_ev_21, q_ev_22, q_ev_23, q_ev_24, q_ev_25, q_ev_26, q_ev_27, q_ev_29, q_ev_30, q_evC_0, q_evC_1, q_evAnd_0, q_evAnd_1, q_evOr_0, q_evOr_1, q_evO_0, q_evO_1, q_evA_0, q_evA_1, q_evD_0, q_evD_1, q_evI_0, q_evI_1, q_evI_2, q_evI_3, q_evI_4, q_exec_0, q_exec_1, q_exec_2, q_exec_3, q_exec_4, q_exec_5, q_exec_6, q_exec_7, q_exec_8, q_exec_9, q_exec_10, q_exec_11, q_exec_12, q_exec_13, q_exec_14, q_tst, bd_ok, bq_ok, R.bind, rdv, mvv, pkv, put, chg, Vl.fz, Vl.res, B.dat, asBool, Dat.asInt?, handed, Dat.backTo, refsOf, noDup, okO, newIo, newCount, startG, outsG, stP, stQ, stVs, x_items1, x_items2, items_tp, items_ls, x_ty1, x_ty2, x_ty3, isTy_tp, x_len1, x_len2, x_len3, len_tp, len_ls, x_tup1, x_tup2, tuple_ls, x_lst1, x_lst2, list_ls, list_tp, x_neg, x_add, x_sub, x_lt, x_le, x_gt, x_ge, x_eqI, x_neI, x_eqB, x_neB, x_eqT, x_neT, x_neL, x_neL0, x_notin, x_memL, x_frz1, x_frz2, frz_tp, frz_ls, x_isL, isLst_ls, x_seq1, x_slot, x_slotf, x_sloto,
  List.getElem?_cons_zero, List.getElem?_cons_succ, List.set_cons_zero, List.set_cons_succ, List.zip_cons_cons, List.zip_nil_right, List.zip_nil_left, List.map_cons, List.map_nil, List.nil_append, List.cons_append, List.length_cons, List.length_nil, List.replicate, if_true, if_false, ite_true, ite_false, Bool.not_true, Bool.not_false, Bool.not_eq_true', Bool.true_or, Bool.false_or, Bool.or_true, Bool.or_false, Bool.true_and, Bool.false_and, Bool.and_true, Bool.and_false, reduceCtorEq, Nat.reduceSub, Nat.reduceAdd, Nat.zero_add, Nat.reduceLeDiff, List.contains_nil, List.contains_cons, decide_true, decide_false, Bool.false_eq_true, and_self, and_true, true_and, ↓reduceIte, io_is_between, io_is_exchange, io_walk, io_is_round, io_check_round, io_back, io_with_names, io_renamed, io_ring_from, io_rings_of, io_around, io_found_turns, io_found_corners, io_corners, io_check_square, io_turns, io__law_town, io__law_draw, io__law_order, io__law_hangs, io__law_round, io__law_back, io_law]
        | true =>
          right
          refine ⟨.f (pr q p2), [some (.frz (sc ns)), some (.io (li t5)), some (.frz (.int 7)), some (.frz (.int (n : Int))), some (.frz d), some (.frz (tp q)), some (.frz (tp p2)), none], ?_, q, p2, t5, _, _, rfl, rfl, iq, ip2, hbb rfl, T5.mono (by omega)⟩
          by_cases c : w = 0
          · rw [if_pos c] at hq
            subst hq
            have d0 : decide ((w : Int) = 0) = true := decide_eq_true (by omega)
            rcases hj with ⟨rfl, rfl, rfl⟩ | ⟨d4, d5, d6, rfl, rfl, rfl⟩ <;> simp only [pr, e3, e4, e5, e6, d0, cs, q_ev_0, q_ev_1, q_ev_2, q_ev_3, q_ev_4, q_ev_5, q_ev_6, q_ev_7, q_ev_8, q_ev_9, q_ev_10, q_ev_11, q_ev_12, q_ev_13, q_ev_14, q_ev_15, q_ev_16, q_ev_17, q_ev_18, q_ev_19, q_ev_20, q_ev_21, q_ev_22, q_ev_23, q_ev_24, q_ev_25, q_ev_26, q_ev_27, q_ev_29, q_ev_30, q_evC_0, q_evC_1, q_evAnd_0, q_evAnd_1, q_evOr_0, q_evOr_1, q_evO_0, q_evO_1, q_evA_0, q_evA_1, q_evD_0, q_evD_1, q_evI_0, q_evI_1, q_evI_2, q_evI_3, q_evI_4, q_exec_0, q_exec_1, q_exec_2, q_exec_3, q_exec_4, q_exec_5, q_exec_6, q_exec_7, q_exec_8, q_exec_9, q_exec_10, q_exec_11, q_exec_12, q_exec_13, q_exec_14, q_tst, bd_ok, bq_ok, R.bind, rdv, mvv, pkv, put, chg, Vl.fz, Vl.res, B.dat, asBool, Dat.asInt?, handed, Dat.backTo, refsOf, noDup, okO, newIo, newCount, startG, outsG, stP, stQ, stVs, x_items1, x_items2, items_tp, items_ls, x_ty1, x_ty2, x_ty3, isTy_tp, x_len1, x_len2, x_len3, len_tp, len_ls, x_tup1, x_tup2, tuple_ls, x_lst1, x_lst2, list_ls, list_tp, x_neg, x_add, x_sub, x_lt, x_le, x_gt, x_ge, x_eqI, x_neI, x_eqB, x_neB, x_eqT, x_neT, x_neL, x_neL0, x_notin, x_memL, x_frz1, x_frz2, frz_tp, frz_ls, x_isL, isLst_ls, x_seq1, x_slot, x_slotf, x_sloto,
  List.getElem?_cons_zero, List.getElem?_cons_succ, List.set_cons_zero, List.set_cons_succ, List.zip_cons_cons, List.zip_nil_right, List.zip_nil_left, List.map_cons, List.map_nil, List.nil_append, List.cons_append, List.length_cons, List.length_nil, List.replicate, if_true, if_false, ite_true, ite_false, Bool.not_true, Bool.not_false, Bool.not_eq_true', Bool.true_or, Bool.false_or, Bool.or_true, Bool.or_false, Bool.true_and, Bool.false_and, Bool.and_true, Bool.and_false, reduceCtorEq, Nat.reduceSub, Nat.reduceAdd, Nat.zero_add, Nat.reduceLeDiff, List.contains_nil, List.contains_cons, decide_true, decide_false, Bool.false_eq_true, and_self, and_true, true_and, ↓reduceIte, io_is_between, io_is_exchange, io_walk, io_is_round, io_check_round, io_back, io_with_names, io_renamed, io_ring_from, io_rings_of, io_around, io_found_turns, io_found_corners, io_corners, io_check_square, io_turns, io__law_town, io__law_draw, io__law_order, io__law_hangs, io__law_round, io__law_back, io_law]
          · rw [if_neg c] at hq
            subst hq
            have d0 : decide ((w : Int) = 0) = false := decide_eq_false (by omega)
            rcases hj with ⟨rfl, rfl, rfl⟩ | ⟨d4, d5, d6, rfl, rfl, rfl⟩ <;> simp only [pr, e3, e4, e5, e6, d0, q_ev_0, q_ev_1, q_ev_2, q_ev_3, q_ev_4, q_ev_5, q_ev_6, q_ev_7, q_ev_8, q_ev_9, q_ev_10, q_ev_11, q_ev_12, q_ev_13, q_ev_14, q_ev_15, q_ev_16, q_ev_17, q_ev_18, q_ev_19, q_ev_20, q_ev_21, q_ev_22, q_ev_23, q_ev_24, q_ev_25, q_ev_26, q_ev_27, q_ev_29, q_ev_30, q_evC_0, q_evC_1, q_evAnd_0, q_evAnd_1, q_evOr_0, q_evOr_1, q_evO_0, q_evO_1, q_evA_0, q_evA_1, q_evD_0, q_evD_1, q_evI_0, q_evI_1, q_evI_2, q_evI_3, q_evI_4, q_exec_0, q_exec_1, q_exec_2, q_exec_3, q_exec_4, q_exec_5, q_exec_6, q_exec_7, q_exec_8, q_exec_9, q_exec_10, q_exec_11, q_exec_12, q_exec_13, q_exec_14, q_tst, bd_ok, bq_ok, R.bind, rdv, mvv, pkv, put, chg, Vl.fz, Vl.res, B.dat, asBool, Dat.asInt?, handed, Dat.backTo, refsOf, noDup, okO, newIo, newCount, startG, outsG, stP, stQ, stVs, x_items1, x_items2, items_tp, items_ls, x_ty1, x_ty2, x_ty3, isTy_tp, x_len1, x_len2, x_len3, len_tp, len_ls, x_tup1, x_tup2, tuple_ls, x_lst1, x_lst2, list_ls, list_tp, x_neg, x_add, x_sub, x_lt, x_le, x_gt, x_ge, x_eqI, x_neI, x_eqB, x_neB, x_eqT, x_neT, x_neL, x_neL0, x_notin, x_memL, x_frz1, x_frz2, frz_tp, frz_ls, x_isL, isLst_ls, x_seq1, x_slot, x_slotf, x_sloto,
  List.getElem?_cons_zero, List.getElem?_cons_succ, List.set_cons_zero, List.set_cons_succ, List.zip_cons_cons, List.zip_nil_right, List.zip_nil_left, List.map_cons, List.map_nil, List.nil_append, List.cons_append, List.length_cons, List.length_nil, List.replicate, if_true, if_false, ite_true, ite_false, Bool.not_true, Bool.not_false, Bool.not_eq_true', Bool.true_or, Bool.false_or, Bool.or_true, Bool.or_false, Bool.true_and, Bool.false_and, Bool.and_true, Bool.and_false, reduceCtorEq, Nat.reduceSub, Nat.reduceAdd, Nat.zero_add, Nat.reduceLeDiff, List.contains_nil, List.contains_cons, decide_true, decide_false, Bool.false_eq_true, and_self, and_true, true_and, ↓reduceIte, io_is_between, io_is_exchange, io_walk, io_is_round, io_check_round, io_back, io_with_names, io_renamed, io_ring_from, io_rings_of, io_around, io_found_turns, io_found_corners, io_corners, io_check_square, io_turns, io__law_town, io__law_draw, io__law_order, io__law_hangs, io__law_round, io__law_back, io_law])
    ⟨0, t1, none, none, none, rfl, .inl ⟨rfl, rfl, rfl⟩, by simp, T1⟩
  rw [run_at at__law_round rfl rfl]
  rcases main with ⟨g', e, i, t2, j4, j5, j6, hg, hj, hi, T2⟩ | ⟨vv, g', e, r, u, t2, rest, x, hv2, hg, ir, iu, cn, T2⟩
  · subst hg
    simp only [List.length_nil, Nat.add_zero] at hi
    subst hi
    obtain ⟨p1, t3, e3, ip1, T3⟩ := r_order k ns t2 n (b + 1 + 15 * 6) h1 h7 (by omega) T2
    have cs := c_shift (ioOf P) (run P (k + 2)) (C := C__law_round_1) (s := 7) (m := 3) (n := n) (g := [some (.frz (sc ns)), some (.io (li t2)), some (.frz (.int 7)), some (.frz (.int (n : Int))), j4, j5, j6, none]) rfl h1 h7 rfl (by simp) (by omega) (by simp)
    refine ⟨n, sh n, p1, t3, ?_, h1, h7, sh_isP h1, ip1, sh_conn h1 p1, T3.mono (by omega)⟩
    simp only [bodyR, F__law_round, pr, e1, en, e, cs, e3, q_ev_0, q_ev_1, q_ev_2, q_ev_3, q_ev_4, q_ev_5, q_ev_6, q_ev_7, q_ev_8, q_ev_9, q_ev_10, q_ev_11, q_ev_12, q_ev_13, q_ev_14, q_ev_15, q_ev_16, q_ev_17, q_ev_18, q_ev_19, q_ev_20, q_ev_21, q_ev_22, q_ev_23, q_ev_24, q_ev_25, q_ev_26, q_ev_27, q_ev_29, q_ev_30, q_evC_0, q_evC_1, q_evAnd_0, q_evAnd_1, q_evOr_0, q_evOr_1, q_evO_0, q_evO_1, q_evA_0, q_evA_1, q_evD_0, q_evD_1, q_evI_0, q_evI_1, q_evI_2, q_evI_3, q_evI_4, q_exec_0, q_exec_1, q_exec_2, q_exec_3, q_exec_4, q_exec_5, q_exec_6, q_exec_7, q_exec_8, q_exec_9, q_exec_10, q_exec_11, q_exec_12, q_exec_13, q_exec_14, q_tst, bd_ok, bq_ok, R.bind, rdv, mvv, pkv, put, chg, Vl.fz, Vl.res, B.dat, asBool, Dat.asInt?, handed, Dat.backTo, refsOf, noDup, okO, newIo, newCount, startG, outsG, stP, stQ, stVs, x_items1, x_items2, items_tp, items_ls, x_ty1, x_ty2, x_ty3, isTy_tp, x_len1, x_len2, x_len3, len_tp, len_ls, x_tup1, x_tup2, tuple_ls, x_lst1, x_lst2, list_ls, list_tp, x_neg, x_add, x_sub, x_lt, x_le, x_gt, x_ge, x_eqI, x_neI, x_eqB, x_neB, x_eqT, x_neT, x_neL, x_neL0, x_notin, x_memL, x_frz1, x_frz2, frz_tp, frz_ls, x_isL, isLst_ls, x_seq1, x_slot, x_slotf, x_sloto,
  List.getElem?_cons_zero, List.getElem?_cons_succ, List.set_cons_zero, List.set_cons_succ, List.zip_cons_cons, List.zip_nil_right, List.zip_nil_left, List.map_cons, List.map_nil, List.nil_append, List.cons_append, List.length_cons, List.length_nil, List.replicate, if_true, if_false, ite_true, ite_false, Bool.not_true, Bool.not_false, Bool.not_eq_true', Bool.true_or, Bool.false_or, Bool.or_true, Bool.or_false, Bool.true_and, Bool.false_and, Bool.and_true, Bool.and_false, reduceCtorEq, Nat.reduceSub, Nat.reduceAdd, Nat.zero_add, Nat.reduceLeDiff, List.contains_nil, List.contains_cons, decide_true, decide_false, Bool.false_eq_true, and_self, and_true, true_and, ↓reduceIte, io_is_between, io_is_exchange, io_walk, io_is_round, io_check_round, io_back, io_with_names, io_renamed, io_ring_from, io_rings_of, io_around, io_found_turns, io_found_corners, io_corners, io_check_square, io_turns, io__law_town, io__law_draw, io__law_order, io__law_hangs, io__law_round, io__law_back, io_law]
  · subst hg hv2
    refine ⟨n, r, u, t2, ?_, h1, h7, ir, iu, cn, T2⟩
    simp only [bodyR, F__law_round, e1, en, e, q_ev_0, q_ev_1, q_ev_2, q_ev_3, q_ev_4, q_ev_5, q_ev_6, q_ev_7, q_ev_8, q_ev_9, q_ev_10, q_ev_11, q_ev_12, q_ev_13, q_ev_14, q_ev_15, q_ev_16, q_ev_17, q_ev_18, q_ev_19, q_ev_20, q_ev_21, q_ev_22, q_ev_23, q_ev_24, q_ev_25, q_ev_26, q_ev_27, q_ev_29, q_ev_30, q_evC_0, q_evC_1, q_evAnd_0, q_evAnd_1, q_evOr_0, q_evOr_1, q_evO_0, q_evO_1, q_evA_0, q_evA_1, q_evD_0, q_evD_1, q_evI_0, q_evI_1, q_evI_2, q_evI_3, q_evI_4, q_exec_0, q_exec_1, q_exec_2, q_exec_3, q_exec_4, q_exec_5, q_exec_6, q_exec_7, q_exec_8, q_exec_9, q_exec_10, q_exec_11, q_exec_12, q_exec_13, q_exec_14, q_tst, bd_ok, bq_ok, R.bind, rdv, mvv, pkv, put, chg, Vl.fz, Vl.res, B.dat, asBool, Dat.asInt?, handed, Dat.backTo, refsOf, noDup, okO, newIo, newCount, startG, outsG, stP, stQ, stVs, x_items1, x_items2, items_tp, items_ls, x_ty1, x_ty2, x_ty3, isTy_tp, x_len1, x_len2, x_len3, len_tp, len_ls, x_tup1, x_tup2, tuple_ls, x_lst1, x_lst2, list_ls, list_tp, x_neg, x_add, x_sub, x_lt, x_le, x_gt, x_ge, x_eqI, x_neI, x_eqB, x_neB, x_eqT, x_neT, x_neL, x_neL0, x_notin, x_memL, x_frz1, x_frz2, frz_tp, frz_ls, x_isL, isLst_ls, x_seq1, x_slot, x_slotf, x_sloto,
  List.getElem?_cons_zero, List.getElem?_cons_succ, List.set_cons_zero, List.set_cons_succ, List.zip_cons_cons, List.zip_nil_right, List.zip_nil_left, List.map_cons, List.map_nil, List.nil_append, List.cons_append, List.length_cons, List.length_nil, List.replicate, if_true, if_false, ite_true, ite_false, Bool.not_true, Bool.not_false, Bool.not_eq_true', Bool.true_or, Bool.false_or, Bool.or_true, Bool.or_false, Bool.true_and, Bool.false_and, Bool.and_true, Bool.and_false, reduceCtorEq, Nat.reduceSub, Nat.reduceAdd, Nat.zero_add, Nat.reduceLeDiff, List.contains_nil, List.contains_cons, decide_true, decide_false, Bool.false_eq_true, and_self, and_true, true_and, ↓reduceIte, io_is_between, io_is_exchange, io_walk, io_is_round, io_check_round, io_back, io_with_names, io_renamed, io_ring_from, io_rings_of, io_around, io_found_turns, io_found_corners, io_corners, io_check_square, io_turns, io__law_town, io__law_draw, io__law_order, io__law_hangs, io__law_round, io__law_back, io_law]
end Law_shearsquares_k12_corners

namespace Law_shearsquares_k12_corners
open PySem (PyData)
open Dat Plain
theorem conn_swap {n : Nat} {r u : List Nat} (h : conn n r u) : conn n u r := fun S s0 cS => h S s0 fun x hx sx => (cS x hx sx).symm
theorem inv_inv {n : Nat} {r : List Nat} (hr : IsP n r) {x : Nat} (hx : x < n) : at' (inv (inv r)) x = at' r x := (inv_uniq (inv_isP hr) hx (hr.atlt hx) (inv_l hr hx)).symm
theorem conn_inv {n : Nat} {r u : List Nat} (h7 : n ≤ 7) (hr : IsP n r) (hu : IsP n u) (h : conn n r u) : conn n (inv r) (inv u) := fun S s0 cS => h S s0 fun x hx sx => by
  have a := closed_inv h7 (inv_isP hr) (fun y hy sy => (cS y hy sy).1) hx sx
  have b := closed_inv h7 (inv_isP hu) (fun y hy sy => (cS y hy sy).2) hx sx
  rw [inv_inv hr hx] at a
  rw [inv_inv hu hx] at b
  exact ⟨a, b⟩
theorem conn_any {n : Nat} {r u : List Nat} (h7 : n ≤ 7) (hr : IsP n r) (hu : IsP n u) (h : conn n r u) {S : Nat → Prop} (cS : ∀ x, x < n → S x → S (at' r x) ∧ S (at' u x)) {x0 : Nat} (h0 : x0 < n) (s0 : S x0) : ∀ x, x < n → S x := by
  have z : S 0 := by
    apply Classical.byContradiction
    intro hn
    have := h (fun x => ¬ S x) hn (fun x hx sx => ⟨fun q => sx ?_, fun q => sx ?_⟩) x0 h0
    · exact this s0
    · have := closed_inv h7 hr (fun y hy sy => (cS y hy sy).1) (hr.atlt hx) q
      rw [inv_l hr hx] at this
      exact this
    · have := closed_inv h7 hu (fun y hy sy => (cS y hy sy).2) (hu.atlt hx) q
      rw [inv_l hu hx] at this
      exact this
  exact h S z cS
theorem conn_cj {n : Nat} {r u σ : List Nat} (h1 : 1 ≤ n) (h7 : n ≤ 7) (hr : IsP n r) (hu : IsP n u) (hσ : IsP n σ) (h : conn n r u) : conn n (cj σ r) (cj σ u) := fun S s0 cS x hx => by
  have all := conn_any h7 hr hu h (S := fun y => S (at' σ y)) (fun y hy sy => by
    have := cS (at' σ y) (hσ.atlt hy) sy
    rw [cj_at hσ hy, cj_at hσ hy] at this
    exact this) (x0 := at' (inv σ) 0) (inv_lt hσ (by omega)) (by rw [inv_r hσ (by omega)]; exact s0)
  have := all (at' (inv σ) x) (inv_lt hσ hx)
  rw [inv_r hσ hx] at this
  exact this
theorem com_swap {n : Nat} {r u : List Nat} (hr : IsP n r) (hu : IsP n u) : com u r = inv (com r u) := by
  have hc := com_isP hr hu
  have hd := com_isP hu hr
  refine ext_at hd.len ((inv_len _).trans hc.len) fun i hi => ?_
  refine inv_uniq hc hi (hd.atlt hi) ?_
  have b1 := hr.atlt (hu.atlt hi)
  have b2 := inv_lt hu b1
  have b3 := inv_lt hr b2
  rw [at_com hu hi, at_com hr b3, inv_r hr b2, inv_r hu b1, inv_l hr (hu.atlt hi), inv_l hu hi]
theorem com_invs {n : Nat} {r u : List Nat} (hr : IsP n r) (hu : IsP n u) {s : Nat} (hs : s < n) : at' (com (inv r) (inv u)) (at' u (at' r s)) = at' u (at' r (at' (com r u) s)) := by
  have b1 := hu.atlt (hr.atlt hs)
  have b2 := inv_lt hr b1
  have b3 := inv_lt hu b2
  rw [at_com (inv_isP hr) b1, inv_inv hr b3, inv_inv hu (hr.atlt b3), at_com hr hs]
theorem inv_cj {n : Nat} {σ p : List Nat} (hσ : IsP n σ) (hp : IsP n p) {y : Nat} (hy : y < n) : at' (inv (cj σ p)) (at' σ y) = at' σ (at' (inv p) y) :=
  (inv_uniq (cj_isP hσ hp) (hσ.atlt hy) (hσ.atlt (inv_lt hp hy)) (by rw [cj_at hσ (inv_lt hp hy), inv_r hp hy])).symm
theorem com_cj {n : Nat} {r u σ : List Nat} (hr : IsP n r) (hu : IsP n u) (hσ : IsP n σ) {s : Nat} (hs : s < n) : at' (com (cj σ r) (cj σ u)) (at' σ s) = at' σ (at' (com r u) s) := by
  have b1 := hr.atlt hs
  have b2 := hu.atlt b1
  have b3 := inv_lt hr b2
  rw [at_com (cj_isP hσ hr) (hσ.atlt hs), cj_at hσ hs, cj_at hσ b1, inv_cj hσ hr b2, inv_cj hσ hu b3, at_com hr hs]
theorem corn_range : ∀ n, n ≤ 7 → corn (List.range n) = List.replicate n 1 := by decide +kernel
theorem isP_range (n : Nat) : IsP n (List.range n) := ⟨by simp, fun x hx => List.mem_range.mp hx, List.nodup_range⟩
theorem at_range {n i : Nat} (h : i < n) : at' (List.range n) i = i := by simp [at', List.getD, h]
theorem inv_range {n i : Nat} (h : i < n) : at' (inv (List.range n)) i = i := by
  have := inv_l (isP_range n) h
  rw [at_range h] at this
  exact this
theorem com_id {n : Nat} {r : List Nat} (hr : IsP n r) : com r (List.range n) = List.range n := by
  refine ext_at (com_isP hr (isP_range n)).len (by simp) fun i hi => ?_
  rw [at_com hr hi, at_range (hr.atlt hi), inv_l hr hi, inv_range hi, at_range hi]
theorem com_self {n : Nat} {r : List Nat} (hr : IsP n r) : com r r = List.range n := by
  refine ext_at (com_isP hr hr).len (by simp) fun i hi => ?_
  rw [at_com hr hi, inv_l hr (hr.atlt hi), inv_l hr hi, at_range hi]
theorem fold_le : ∀ (l : List Nat) (x : Nat), l.foldl (fun a y => if y < a then y else a) x ≤ x
  | [], x => Nat.le_refl x
  | y :: r, x => by
    rw [List.foldl_cons]
    have h := fold_le r (if y < x then y else x)
    by_cases c : y < x
    · rw [if_pos c] at h ⊢; omega
    · rw [if_neg c] at h ⊢; exact h
theorem fold_min : ∀ (l : List Nat) (x : Nat), l.foldl (fun a y => if y < a then y else a) x = x ↔ ∀ y ∈ l, x ≤ y
  | [], x => by simp
  | y :: r, x => by
    rw [List.foldl_cons]
    by_cases c : y < x
    · rw [if_pos c]
      have h := fold_le r y
      constructor
      · intro e; omega
      · intro e
        have := e y (by simp)
        omega
    · rw [if_neg c, fold_min r x]
      constructor
      · intro e z hz
        rcases List.mem_cons.mp hz with rfl | hz
        · omega
        · exact e z hz
      · intro e z hz
        exact e z (by simp [hz])
theorem min_dec (c : List Nat) (s : Nat) : decide ((s : Int) = (((go c s 8 (at' c s)).foldl (fun a y => if y < a then y else a) s : Nat) : Int)) = minO c s := by
  have h := fold_min (go c s 8 (at' c s)) s
  cases e : minO c s with
  | true =>
    have := List.all_eq_true.mp e
    refine decide_eq_true ?_
    have q := h.mpr fun y hy => Nat.le_of_ble_eq_true (this y (List.mem_cons_of_mem _ hy))
    omega
  | false =>
    refine decide_eq_false fun z => ?_
    have q := h.mp (by omega)
    have : minO c s = true := List.all_eq_true.mpr fun y hy => Nat.ble_eq_true_of_le (by
      unfold orb at hy
      rcases List.mem_cons.mp hy with rfl | hy
      · exact Nat.le_refl _
      · exact q y hy)
    rw [this] at e
    cases e
theorem one_iff {n : Nat} {r u : List Nat} (hr : IsP n r) (hu : IsP n u) {s : Nat} (hs : s < n) : decide ((((orb (com r u) s).length : Nat) : Int) = 1) = decide (((at' u (at' r s) : Nat) : Int) = ((at' r (at' u s) : Nat) : Int)) := by
  have e1 : (orb (com r u) s).length = 1 ↔ at' (com r u) s = s := by
    unfold orb go
    by_cases q : at' (com r u) s = s
    · rw [if_pos q]
      exact ⟨fun _ => q, fun _ => rfl⟩
    · rw [if_neg q]
      exact ⟨fun z => by simp at z, fun z => absurd z q⟩
  have e2 : at' (com r u) s = s ↔ at' u (at' r s) = at' r (at' u s) := by
    rw [at_com hr hs]
    have b1 := hu.atlt (hr.atlt hs)
    have b2 := inv_lt hr b1
    constructor
    · intro q
      have := inv_r hu b2
      rw [q] at this
      have z := inv_r hr b1
      rw [← this] at z
      exact z.symm
    · intro q
      rw [q, inv_l hr (hu.atlt hs), inv_l hu hs]
  by_cases q : at' u (at' r s) = at' r (at' u s)
  · have a := e1.mpr (e2.mpr q)
    rw [decide_eq_true (show (((orb (com r u) s).length : Nat) : Int) = 1 by omega), decide_eq_true (by omega)]
  · have a : ¬ (orb (com r u) s).length = 1 := fun z => q (e2.mp (e1.mp z))
    rw [decide_eq_false (show ¬ (((orb (com r u) s).length : Nat) : Int) = 1 by omega), decide_eq_false (by omega)]
/-! ### the law's own loops -/
section
variable {n : Nat} {r u : List Nat} (h7 : n ≤ 7) (hr : IsP n r) (hu : IsP n u)
include h7 hr hu
def GL (ns t : List Int) (n : Nat) (r u told grp : List Nat) (j10 j14 j15 : Option B) : G :=
  [some (.frz (sc ns)), some (.own (li t)), some (.frz (pr r u)), some (.frz (tp r)), some (.frz (tp u)), some (.frz (.int (n : Int))), some (.frz (tp (inv r))), some (.frz (tp (inv u))), some (.own (ls told)), some (.own (ls grp)), j10, none, none, none, j14, j15, none]
theorem w_law1 (io : Io) (cf : Caller) (ns t : List Int) (told grp : List Nat) {s : Nat} (hs : s < n) : ∃ h : Nat, Dat.exec io cf W_law_1 (GL ns t n r u told grp (some (.frz (.int (s : Int)))) (some (.own (ls [s]))) (some (.frz (.int ((at' (com r u) s : Nat) : Int))))) = .ok (.nx (GL ns t n r u told grp (some (.frz (.int (s : Int)))) (some (.own (ls (orb (com r u) s)))) (some (.frz (.int (h : Int)))))) := by
  have hc := com_isP hr hu
  have h8 := orb_le7 h7 hc hs
  obtain ⟨g', e, dn, h, k, hg, hh, he, hm, ho⟩ := whl_inv (io := io) (cf := cf) (W := W_law_1) rfl
    (fun m g => ∃ (dn : List Nat) (h k : Nat), g = GL ns t n r u told grp (some (.frz (.int (s : Int)))) (some (.own (ls dn))) (some (.frz (.int (h : Int)))) ∧ h < n ∧ ends (com r u) s k h = true ∧ m = (go (com r u) s k h).length ∧ dn ++ go (com r u) s k h = orb (com r u) s)
    (fun m g ⟨dn, h, k, hg, hh, he, hm, ho⟩ => by
      subst hg
      cases k with
      | zero => simp [ends] at he
      | succ k =>
        unfold ends at he
        unfold go at hm ho
        by_cases q : h = s
        · left
          have d1 : decide ((h : Int) = (s : Int)) = true := decide_eq_true (by omega)
          simp only [q, if_true] at hm ho
          refine ⟨_, by simp only [GL, d1, q_ev_0, q_ev_1, q_ev_2, q_ev_3, q_ev_4, q_ev_5, q_ev_6, q_ev_7, q_ev_8, q_ev_9, q_ev_10, q_ev_11, q_ev_12, q_ev_13, q_ev_14, q_ev_15, q_ev_16, q_ev_17, q_ev_18, q_ev_19, q_ev_20, q_ev_21, q_ev_22, q_ev_23, q_ev_24, q_ev_25, q_ev_26, q_ev_27, q_ev_29, q_ev_30, q_evC_0, q_evC_1, q_evAnd_0, q_evAnd_1, q_evOr_0, q_evOr_1, q_evO_0, q_evO_1, q_evA_0, q_evA_1, q_evD_0, q_evD_1, q_evI_0, q_evI_1, q_evI_2, q_evI_3, q_evI_4, q_exec_0, q_exec_1, q_exec_2, q_exec_3, q_exec_4, q_exec_5, q_exec_6, q_exec_7, q_exec_8, q_exec_9, q_exec_10, q_exec_11, q_exec_12, q_exec_13, q_exec_14, q_tst, bd_ok, bq_ok, R.bind, rdv, mvv, pkv, put, chg, Vl.fz, Vl.res, B.dat, asBool, Dat.asInt?, handed, Dat.backTo, refsOf, noDup, okO, newIo, newCount, startG, outsG, stP, stQ, stVs, x_items1, x_items2, items_tp, items_ls, x_ty1, x_ty2, x_ty3, isTy_tp, x_len1, x_len2, x_len3, len_tp, len_ls, x_tup1, x_tup2, tuple_ls, x_lst1, x_lst2, list_ls, list_tp, x_neg, x_add, x_sub, x_lt, x_le, x_gt, x_ge, x_eqI, x_neI, x_eqB, x_neB, x_eqT, x_neT, x_neL, x_neL0, x_notin, x_memL, x_frz1, x_frz2, frz_tp, frz_ls, x_isL, isLst_ls, x_seq1, x_slot, x_slotf, x_sloto,
  List.getElem?_cons_zero, List.getElem?_cons_succ, List.set_cons_zero, List.set_cons_succ, List.zip_cons_cons, List.zip_nil_right, List.zip_nil_left, List.map_cons, List.map_nil, List.nil_append, List.cons_append, List.length_cons, List.length_nil, List.replicate, if_true, if_false, ite_true, ite_false, Bool.not_true, Bool.not_false, Bool.not_eq_true', Bool.true_or, Bool.false_or, Bool.or_true, Bool.or_false, Bool.true_and, Bool.false_and, Bool.and_true, Bool.and_false, reduceCtorEq, Nat.reduceSub, Nat.reduceAdd, Nat.zero_add, Nat.reduceLeDiff, List.contains_nil, List.contains_cons, decide_true, decide_false, Bool.false_eq_true, and_self, and_true, true_and, ↓reduceIte, io_is_between, io_is_exchange, io_walk, io_is_round, io_check_round, io_back, io_with_names, io_renamed, io_ring_from, io_rings_of, io_around, io_found_turns, io_found_corners, io_corners, io_check_square, io_turns, io__law_town, io__law_draw, io__law_order, io__law_hangs, io__law_round, io__law_back, io_law], ⟨dn, h, 1, rfl, hh, by simp [ends, q], by simp [go, q], by simpa [go, q] using ho⟩, by simpa using hm⟩
        · right
          have d1 : decide ((h : Int) = (s : Int)) = false := decide_eq_false (by omega)
          simp only [q, if_false] at hm ho he
          have dl : dn.length ≤ 1000 := by
            have := congrArg List.length ho
            simp at this
            omega
          have b1 := hu.atlt (hr.atlt hh)
          have a1 := ix_tp r h (by rw [hr.len]; exact hh)
          have a2 := ix_tp u (at' r h) (by rw [hu.len]; exact hr.atlt hh)
          have a3 := ix_tp (inv r) (at' u (at' r h)) (by rw [inv_len, hr.len]; exact b1)
          have a4 := ix_tp (inv u) (at' (inv r) (at' u (at' r h))) (by rw [inv_len, hu.len]; exact inv_lt hr b1)
          have a5 : (inv u).getD (at' (inv r) (at' u (at' r h))) 0 = at' (com r u) h := (at_com hr hh).symm
          rw [a5] at a4
          refine ⟨(go (com r u) s k (at' (com r u) h)).length, _, GL ns t n r u told grp (some (.frz (.int (s : Int)))) (some (.own (ls (dn ++ [h])))) (some (.frz (.int ((at' (com r u) h : Nat) : Int)))), by simpa using hm, by simp only [GL, d1, q_ev_0, q_ev_1, q_ev_2, q_ev_3, q_ev_4, q_ev_5, q_ev_6, q_ev_7, q_ev_8, q_ev_9, q_ev_10, q_ev_11, q_ev_12, q_ev_13, q_ev_14, q_ev_15, q_ev_16, q_ev_17, q_ev_18, q_ev_19, q_ev_20, q_ev_21, q_ev_22, q_ev_23, q_ev_24, q_ev_25, q_ev_26, q_ev_27, q_ev_29, q_ev_30, q_evC_0, q_evC_1, q_evAnd_0, q_evAnd_1, q_evOr_0, q_evOr_1, q_evO_0, q_evO_1, q_evA_0, q_evA_1, q_evD_0, q_evD_1, q_evI_0, q_evI_1, q_evI_2, q_evI_3, q_evI_4, q_exec_0, q_exec_1, q_exec_2, q_exec_3, q_exec_4, q_exec_5, q_exec_6, q_exec_7, q_exec_8, q_exec_9, q_exec_10, q_exec_11, q_exec_12, q_exec_13, q_exec_14, q_tst, bd_ok, bq_ok, R.bind, rdv, mvv, pkv, put, chg, Vl.fz, Vl.res, B.dat, asBool, Dat.asInt?, handed, Dat.backTo, refsOf, noDup, okO, newIo, newCount, startG, outsG, stP, stQ, stVs, x_items1, x_items2, items_tp, items_ls, x_ty1, x_ty2, x_ty3, isTy_tp, x_len1, x_len2, x_len3, len_tp, len_ls, x_tup1, x_tup2, tuple_ls, x_lst1, x_lst2, list_ls, list_tp, x_neg, x_add, x_sub, x_lt, x_le, x_gt, x_ge, x_eqI, x_neI, x_eqB, x_neB, x_eqT, x_neT, x_neL, x_neL0, x_notin, x_memL, x_frz1, x_frz2, frz_tp, frz_ls, x_isL, isLst_ls, x_seq1, x_slot, x_slotf, x_sloto,
  List.getElem?_cons_zero, List.getElem?_cons_succ, List.set_cons_zero, List.set_cons_succ, List.zip_cons_cons, List.zip_nil_right, List.zip_nil_left, List.map_cons, List.map_nil, List.nil_append, List.cons_append, List.length_cons, List.length_nil, List.replicate, if_true, if_false, ite_true, ite_false, Bool.not_true, Bool.not_false, Bool.not_eq_true', Bool.true_or, Bool.false_or, Bool.or_true, Bool.or_false, Bool.true_and, Bool.false_and, Bool.and_true, Bool.and_false, reduceCtorEq, Nat.reduceSub, Nat.reduceAdd, Nat.zero_add, Nat.reduceLeDiff, List.contains_nil, List.contains_cons, decide_true, decide_false, Bool.false_eq_true, and_self, and_true, true_and, ↓reduceIte, io_is_between, io_is_exchange, io_walk, io_is_round, io_check_round, io_back, io_with_names, io_renamed, io_ring_from, io_rings_of, io_around, io_found_turns, io_found_corners, io_corners, io_check_square, io_turns, io__law_town, io__law_draw, io__law_order, io__law_hangs, io__law_round, io__law_back, io_law]; rfl, ?_, dn ++ [h], at' (com r u) h, k, rfl, hc.atlt hh, he, rfl, by simpa using ho⟩
          simp only [GL, app_ls dn h dl, a1, a2, a3, a4, q_ev_0, q_ev_1, q_ev_2, q_ev_3, q_ev_4, q_ev_5, q_ev_6, q_ev_7, q_ev_8, q_ev_9, q_ev_10, q_ev_11, q_ev_12, q_ev_13, q_ev_14, q_ev_15, q_ev_16, q_ev_17, q_ev_18, q_ev_19, q_ev_20, q_ev_21, q_ev_22, q_ev_23, q_ev_24, q_ev_25, q_ev_26, q_ev_27, q_ev_29, q_ev_30, q_evC_0, q_evC_1, q_evAnd_0, q_evAnd_1, q_evOr_0, q_evOr_1, q_evO_0, q_evO_1, q_evA_0, q_evA_1, q_evD_0, q_evD_1, q_evI_0, q_evI_1, q_evI_2, q_evI_3, q_evI_4, q_exec_0, q_exec_1, q_exec_2, q_exec_3, q_exec_4, q_exec_5, q_exec_6, q_exec_7, q_exec_8, q_exec_9, q_exec_10, q_exec_11, q_exec_12, q_exec_13, q_exec_14, q_tst, bd_ok, bq_ok, R.bind, rdv, mvv, pkv, put, chg, Vl.fz, Vl.res, B.dat, asBool, Dat.asInt?, handed, Dat.backTo, refsOf, noDup, okO, newIo, newCount, startG, outsG, stP, stQ, stVs, x_items1, x_items2, items_tp, items_ls, x_ty1, x_ty2, x_ty3, isTy_tp, x_len1, x_len2, x_len3, len_tp, len_ls, x_tup1, x_tup2, tuple_ls, x_lst1, x_lst2, list_ls, list_tp, x_neg, x_add, x_sub, x_lt, x_le, x_gt, x_ge, x_eqI, x_neI, x_eqB, x_neB, x_eqT, x_neT, x_neL, x_neL0, x_notin, x_memL, x_frz1, x_frz2, frz_tp, frz_ls, x_isL, isLst_ls, x_seq1, x_slot, x_slotf, x_sloto,
  List.getElem?_cons_zero, List.getElem?_cons_succ, List.set_cons_zero, List.set_cons_succ, List.zip_cons_cons, List.zip_nil_right, List.zip_nil_left, List.map_cons, List.map_nil, List.nil_append, List.cons_append, List.length_cons, List.length_nil, List.replicate, if_true, if_false, ite_true, ite_false, Bool.not_true, Bool.not_false, Bool.not_eq_true', Bool.true_or, Bool.false_or, Bool.or_true, Bool.or_false, Bool.true_and, Bool.false_and, Bool.and_true, Bool.and_false, reduceCtorEq, Nat.reduceSub, Nat.reduceAdd, Nat.zero_add, Nat.reduceLeDiff, List.contains_nil, List.contains_cons, decide_true, decide_false, Bool.false_eq_true, and_self, and_true, true_and, ↓reduceIte, io_is_between, io_is_exchange, io_walk, io_is_round, io_check_round, io_back, io_with_names, io_renamed, io_ring_from, io_rings_of, io_around, io_found_turns, io_found_corners, io_corners, io_check_square, io_turns, io__law_town, io__law_draw, io__law_order, io__law_hangs, io__law_round, io__law_back, io_law])
    (go (com r u) s 8 (at' (com r u) s)).length _ (by have : (orb (com r u) s).length = (go (com r u) s 8 (at' (com r u) s)).length + 1 := rfl; omega) ⟨[s], at' (com r u) s, 8, rfl, hc.atlt hs, orb_ends h7 hc hs, rfl, rfl⟩
  subst hg
  have : go (com r u) s k h = [] := List.length_eq_zero_iff.mp hm.symm
  rw [this, List.append_nil] at ho
  subst ho
  exact ⟨h, e⟩
end
end Law_shearsquares_k12_corners

namespace Law_shearsquares_k12_corners
open PySem (PyData)
open Dat Plain
section
variable {n : Nat} {r u : List Nat} (h1 : 1 ≤ n) (h7 : n ≤ 7) (hr : IsP n r) (hu : IsP n u) (cn : conn n r u)
include h1 h7 hr hu cn
def toldTo (c : List Nat) (i : Nat) : List Nat := (List.range i).map fun s => (orb c s).length
def grpTo (c : List Nat) (i : Nat) : List Nat := (ringsTo c i).map (·.length)
theorem w_law2 (k : Nat) (ns t : List Int) : ∃ x10 x14 x15, Dat.exec (ioOf P) (run P (k + 5)) W_law_2 (GL ns t n r u [] [] none none none) = .ok (.nx (GL ns t n r u (turnL (com r u)) (gl (com r u)) (some (.frz x10)) x14 x15)) := by
  have hc := com_isP hr hu
  obtain ⟨g', e, i, j10, j14, j15, hg, hds, hi, hj, hi0⟩ := for_inv (io := ioOf P) (cf := run P (k + 5)) (W := W_law_2) (g := GL ns t n r u [] [] none none none) (g1 := GL ns t n r u [] [] none none none) (ds := (List.range n).map fun i : Nat => PyData.int (i : Int)) rfl (by simp only [GL, rng1 n (by omega), q_ev_0, q_ev_1, q_ev_2, q_ev_3, q_ev_4, q_ev_5, q_ev_6, q_ev_7, q_ev_8, q_ev_9, q_ev_10, q_ev_11, q_ev_12, q_ev_13, q_ev_14, q_ev_15, q_ev_16, q_ev_17, q_ev_18, q_ev_19, q_ev_20, q_ev_21, q_ev_22, q_ev_23, q_ev_24, q_ev_25, q_ev_26, q_ev_27, q_ev_29, q_ev_30, q_evC_0, q_evC_1, q_evAnd_0, q_evAnd_1, q_evOr_0, q_evOr_1, q_evO_0, q_evO_1, q_evA_0, q_evA_1, q_evD_0, q_evD_1, q_evI_0, q_evI_1, q_evI_2, q_evI_3, q_evI_4, q_exec_0, q_exec_1, q_exec_2, q_exec_3, q_exec_4, q_exec_5, q_exec_6, q_exec_7, q_exec_8, q_exec_9, q_exec_10, q_exec_11, q_exec_12, q_exec_13, q_exec_14, q_tst, bd_ok, bq_ok, R.bind, rdv, mvv, pkv, put, chg, Vl.fz, Vl.res, B.dat, asBool, Dat.asInt?, handed, Dat.backTo, refsOf, noDup, okO, newIo, newCount, startG, outsG, stP, stQ, stVs, x_items1, x_items2, items_tp, items_ls, x_ty1, x_ty2, x_ty3, isTy_tp, x_len1, x_len2, x_len3, len_tp, len_ls, x_tup1, x_tup2, tuple_ls, x_lst1, x_lst2, list_ls, list_tp, x_neg, x_add, x_sub, x_lt, x_le, x_gt, x_ge, x_eqI, x_neI, x_eqB, x_neB, x_eqT, x_neT, x_neL, x_neL0, x_notin, x_memL, x_frz1, x_frz2, frz_tp, frz_ls, x_isL, isLst_ls, x_seq1, x_slot, x_slotf, x_sloto,
  List.getElem?_cons_zero, List.getElem?_cons_succ, List.set_cons_zero, List.set_cons_succ, List.zip_cons_cons, List.zip_nil_right, List.zip_nil_left, List.map_cons, List.map_nil, List.nil_append, List.cons_append, List.length_cons, List.length_nil, List.replicate, if_true, if_false, ite_true, ite_false, Bool.not_true, Bool.not_false, Bool.not_eq_true', Bool.true_or, Bool.false_or, Bool.or_true, Bool.or_false, Bool.true_and, Bool.false_and, Bool.and_true, Bool.and_false, reduceCtorEq, Nat.reduceSub, Nat.reduceAdd, Nat.zero_add, Nat.reduceLeDiff, List.contains_nil, List.contains_cons, decide_true, decide_false, Bool.false_eq_true, and_self, and_true, true_and, ↓reduceIte, io_is_between, io_is_exchange, io_walk, io_is_round, io_check_round, io_back, io_with_names, io_renamed, io_ring_from, io_rings_of, io_around, io_found_turns, io_found_corners, io_corners, io_check_square, io_turns, io__law_town, io__law_draw, io__law_order, io__law_hangs, io__law_round, io__law_back, io_law])
    (fun ds g => ∃ (i : Nat) (j10 j14 j15 : Option B), g = GL ns t n r u (toldTo (com r u) i) (grpTo (com r u) i) j10 j14 j15 ∧ ds = (List.range' i (n - i)).map (fun i : Nat => PyData.int (i : Int)) ∧ i ≤ n ∧ ((j10 = none ∧ j14 = none ∧ j15 = none) ∨ ∃ d10 d14 d15, j10 = some (.frz d10) ∧ j14 = some (.own d14) ∧ j15 = some (.frz d15)) ∧ (0 < i → ∃ d10, j10 = some (.frz d10)))
    (fun d rr g ⟨i, j10, j14, j15, hg, hds, hi, hj, hi0⟩ => by
      by_cases hin : i < n
      · have z : n - i = (n - (i + 1)) + 1 := by omega
        rw [z, List.range'_succ, List.map_cons] at hds
        injection hds with q1 q2
        subst hg q1
        obtain ⟨h, ew⟩ := w_law1 h7 hr hu (ioOf P) (run P (k + 5)) ns t (toldTo (com r u) i) (grpTo (com r u) i) hin
        have b1 := hu.atlt (hr.atlt hin)
        have a1 := ix_tp r i (by rw [hr.len]; exact hin)
        have a2 := ix_tp u (at' r i) (by rw [hu.len]; exact hr.atlt hin)
        have a3 := ix_tp (inv r) (at' u (at' r i)) (by rw [inv_len, hr.len]; exact b1)
        have a4 := ix_tp (inv u) (at' (inv r) (at' u (at' r i))) (by rw [inv_len, hu.len]; exact inv_lt hr b1)
        have a5 : (inv u).getD (at' (inv r) (at' u (at' r i))) 0 = at' (com r u) i := (at_com hr hin).symm
        rw [a5] at a4
        have a6 := ix_tp u i (by rw [hu.len]; exact hin)
        have a7 := ix_tp r (at' u i) (by rw [hr.len]; exact hu.atlt hin)
        have tl : (toldTo (com r u) i).length ≤ 1000 := by unfold toldTo; simp; omega
        have gll : (grpTo (com r u) i).length ≤ 1000 := by
          unfold grpTo
          rw [List.length_map]
          have := ringsTo_len h7 hc (n := n) (c := com r u) i
          omega
        have m1 := x_min i (go (com r u) i 8 (at' (com r u) i))
        have m2 := min_dec (com r u) i
        have m0 : ls (i :: go (com r u) i 8 (at' (com r u) i)) = ls (orb (com r u) i) := rfl
        rw [m0] at m1
        have rt := r_turns h7 hr hu h1 cn k hin
        have d0 : decide ((((orb (com r u) i).length : Nat) : Int) = (((orb (com r u) i).length : Nat) : Int)) = true := decide_eq_true rfl
        have oi := one_iff hr hu hin
        have toS : toldTo (com r u) (i + 1) = toldTo (com r u) i ++ [(orb (com r u) i).length] := by
          unfold toldTo
          rw [List.range_succ, List.map_append]
          rfl
        have grS : grpTo (com r u) (i + 1) = if minO (com r u) i = true then grpTo (com r u) i ++ [(orb (com r u) i).length] else grpTo (com r u) i := by
          unfold grpTo ringsTo
          rw [List.range_succ, List.filter_append, List.map_append, List.map_append]
          by_cases e : minO (com r u) i = true <;> simp [e]
        have e0 : ls [i] = .list [.int (i : Int)] := rfl
        rw [e0] at ew
        simp only [GL] at ew
        generalize hB : decide (((at' u (at' r i) : Nat) : Int) = ((at' r (at' u i) : Nat) : Int)) = bb at oi
        have bbb : (bb == bb) = true := by cases bb <;> rfl
        refine ⟨GL ns t n r u (toldTo (com r u) i) (grpTo (com r u) i) (some (.frz (.int (i : Int)))) j14 j15, GL ns t n r u (toldTo (com r u) (i + 1)) (grpTo (com r u) (i + 1)) (some (.frz (.int (i : Int)))) (some (.own (ls (orb (com r u) i)))) (some (.frz (.int (h : Int)))), ?_, ?_, i + 1, _, _, _, rfl, q2, by omega, .inr ⟨_, _, _, rfl, rfl, rfl⟩, fun _ => ⟨_, rfl⟩⟩
        · rcases hj with ⟨rfl, rfl, rfl⟩ | ⟨d10, d14, d15, rfl, rfl, rfl⟩ <;> simp only [GL, q_ev_0, q_ev_1, q_ev_2, q_ev_3, q_ev_4, q_ev_5, q_ev_6, q_ev_7, q_ev_8, q_ev_9, q_ev_10, q_ev_11, q_ev_12, q_ev_13, q_ev_14, q_ev_15, q_ev_16, q_ev_17, q_ev_18, q_ev_19, q_ev_20, q_ev_21, q_ev_22, q_ev_23, q_ev_24, q_ev_25, q_ev_26, q_ev_27, q_ev_29, q_ev_30, q_evC_0, q_evC_1, q_evAnd_0, q_evAnd_1, q_evOr_0, q_evOr_1, q_evO_0, q_evO_1, q_evA_0, q_evA_1, q_evD_0, q_evD_1, q_evI_0, q_evI_1, q_evI_2, q_evI_3, q_evI_4, q_exec_0, q_exec_1, q_exec_2, q_exec_3, q_exec_4, q_exec_5, q_exec_6, q_exec_7, q_exec_8, q_exec_9, q_exec_10, q_exec_11, q_exec_12, q_exec_13, q_exec_14, q_tst, bd_ok, bq_ok, R.bind, rdv, mvv, pkv, put, chg, Vl.fz, Vl.res, B.dat, asBool, Dat.asInt?, handed, Dat.backTo, refsOf, noDup, okO, newIo, newCount, startG, outsG, stP, stQ, stVs, x_items1, x_items2, items_tp, items_ls, x_ty1, x_ty2, x_ty3, isTy_tp, x_len1, x_len2, x_len3, len_tp, len_ls, x_tup1, x_tup2, tuple_ls, x_lst1, x_lst2, list_ls, list_tp, x_neg, x_add, x_sub, x_lt, x_le, x_gt, x_ge, x_eqI, x_neI, x_eqB, x_neB, x_eqT, x_neT, x_neL, x_neL0, x_notin, x_memL, x_frz1, x_frz2, frz_tp, frz_ls, x_isL, isLst_ls, x_seq1, x_slot, x_slotf, x_sloto,
  List.getElem?_cons_zero, List.getElem?_cons_succ, List.set_cons_zero, List.set_cons_succ, List.zip_cons_cons, List.zip_nil_right, List.zip_nil_left, List.map_cons, List.map_nil, List.nil_append, List.cons_append, List.length_cons, List.length_nil, List.replicate, if_true, if_false, ite_true, ite_false, Bool.not_true, Bool.not_false, Bool.not_eq_true', Bool.true_or, Bool.false_or, Bool.or_true, Bool.or_false, Bool.true_and, Bool.false_and, Bool.and_true, Bool.and_false, reduceCtorEq, Nat.reduceSub, Nat.reduceAdd, Nat.zero_add, Nat.reduceLeDiff, List.contains_nil, List.contains_cons, decide_true, decide_false, Bool.false_eq_true, and_self, and_true, true_and, ↓reduceIte, io_is_between, io_is_exchange, io_walk, io_is_round, io_check_round, io_back, io_with_names, io_renamed, io_ring_from, io_rings_of, io_around, io_found_turns, io_found_corners, io_corners, io_check_square, io_turns, io__law_town, io__law_draw, io__law_order, io__law_hangs, io__law_round, io__law_back, io_law]
        · cases em : minO (com r u) i with
          | true =>
            rw [em] at m2
            rw [grS, if_pos em, toS]
            rcases hj with ⟨rfl, rfl, rfl⟩ | ⟨d10, d14, d15, rfl, rfl, rfl⟩ <;> simp only [GL, a1, a2, a3, a4, a6, a7, ew, app_ls _ _ tl, m1, m2, app_ls _ _ gll, rt, d0, oi, hB, bbb, q_ev_0, q_ev_1, q_ev_2, q_ev_3, q_ev_4, q_ev_5, q_ev_6, q_ev_7, q_ev_8, q_ev_9, q_ev_10, q_ev_11, q_ev_12, q_ev_13, q_ev_14, q_ev_15, q_ev_16, q_ev_17, q_ev_18, q_ev_19, q_ev_20, q_ev_21, q_ev_22, q_ev_23, q_ev_24, q_ev_25, q_ev_26, q_ev_27, q_ev_29, q_ev_30, q_evC_0, q_evC_1, q_evAnd_0, q_evAnd_1, q_evOr_0, q_evOr_1, q_evO_0, q_evO_1, q_evA_0, q_evA_1, q_evD_0, q_evD_1, q_evI_0, q_evI_1, q_evI_2, q_evI_3, q_evI_4, q_exec_0, q_exec_1, q_exec_2, q_exec_3, q_exec_4, q_exec_5, q_exec_6, q_exec_7, q_exec_8, q_exec_9, q_exec_10, q_exec_11, q_exec_12, q_exec_13, q_exec_14, q_tst, bd_ok, bq_ok, R.bind, rdv, mvv, pkv, put, chg, Vl.fz, Vl.res, B.dat, asBool, Dat.asInt?, handed, Dat.backTo, refsOf, noDup, okO, newIo, newCount, startG, outsG, stP, stQ, stVs, x_items1, x_items2, items_tp, items_ls, x_ty1, x_ty2, x_ty3, isTy_tp, x_len1, x_len2, x_len3, len_tp, len_ls, x_tup1, x_tup2, tuple_ls, x_lst1, x_lst2, list_ls, list_tp, x_neg, x_add, x_sub, x_lt, x_le, x_gt, x_ge, x_eqI, x_neI, x_eqB, x_neB, x_eqT, x_neT, x_neL, x_neL0, x_notin, x_memL, x_frz1, x_frz2, frz_tp, frz_ls, x_isL, isLst_ls, x_seq1, x_slot, x_slotf, x_sloto,
  List.getElem?_cons_zero, List.getElem?_cons_succ, List.set_cons_zero, List.set_cons_succ, List.zip_cons_cons, List.zip_nil_right, List.zip_nil_left, List.map_cons, List.map_nil, List.nil_append, List.cons_append, List.length_cons, List.length_nil, List.replicate, if_true, if_false, ite_true, ite_false, Bool.not_true, Bool.not_false, Bool.not_eq_true', Bool.true_or, Bool.false_or, Bool.or_true, Bool.or_false, Bool.true_and, Bool.false_and, Bool.and_true, Bool.and_false, reduceCtorEq, Nat.reduceSub, Nat.reduceAdd, Nat.zero_add, Nat.reduceLeDiff, List.contains_nil, List.contains_cons, decide_true, decide_false, Bool.false_eq_true, and_self, and_true, true_and, ↓reduceIte, io_is_between, io_is_exchange, io_walk, io_is_round, io_check_round, io_back, io_with_names, io_renamed, io_ring_from, io_rings_of, io_around, io_found_turns, io_found_corners, io_corners, io_check_square, io_turns, io__law_town, io__law_draw, io__law_order, io__law_hangs, io__law_round, io__law_back, io_law]
          | false =>
            rw [em] at m2
            rw [grS, if_neg (by rw [em]; exact Bool.false_ne_true), toS]
            rcases hj with ⟨rfl, rfl, rfl⟩ | ⟨d10, d14, d15, rfl, rfl, rfl⟩ <;> simp only [GL, a1, a2, a3, a4, a6, a7, ew, app_ls _ _ tl, m1, m2, rt, d0, oi, hB, bbb, q_ev_0, q_ev_1, q_ev_2, q_ev_3, q_ev_4, q_ev_5, q_ev_6, q_ev_7, q_ev_8, q_ev_9, q_ev_10, q_ev_11, q_ev_12, q_ev_13, q_ev_14, q_ev_15, q_ev_16, q_ev_17, q_ev_18, q_ev_19, q_ev_20, q_ev_21, q_ev_22, q_ev_23, q_ev_24, q_ev_25, q_ev_26, q_ev_27, q_ev_29, q_ev_30, q_evC_0, q_evC_1, q_evAnd_0, q_evAnd_1, q_evOr_0, q_evOr_1, q_evO_0, q_evO_1, q_evA_0, q_evA_1, q_evD_0, q_evD_1, q_evI_0, q_evI_1, q_evI_2, q_evI_3, q_evI_4, q_exec_0, q_exec_1, q_exec_2, q_exec_3, q_exec_4, q_exec_5, q_exec_6, q_exec_7, q_exec_8, q_exec_9, q_exec_10, q_exec_11, q_exec_12, q_exec_13, q_exec_14, q_tst, bd_ok, bq_ok, R.bind, rdv, mvv, pkv, put, chg, Vl.fz, Vl.res, B.dat, asBool, Dat.asInt?, handed, Dat.backTo, refsOf, noDup, okO, newIo, newCount, startG, outsG, stP, stQ, stVs, x_items1, x_items2, items_tp, items_ls, x_ty1, x_ty2, x_ty3, isTy_tp, x_len1, x_len2, x_len3, len_tp, len_ls, x_tup1, x_tup2, tuple_ls, x_lst1, x_lst2, list_ls, list_tp, x_neg, x_add, x_sub, x_lt, x_le, x_gt, x_ge, x_eqI, x_neI, x_eqB, x_neB, x_eqT, x_neT, x_neL, x_neL0, x_notin, x_memL, x_frz1, x_frz2, frz_tp, frz_ls, x_isL, isLst_ls, x_seq1, x_slot, x_slotf, x_sloto,
  List.getElem?_cons_zero, List.getElem?_cons_succ, List.set_cons_zero, List.set_cons_succ, List.zip_cons_cons, List.zip_nil_right, List.zip_nil_left, List.map_cons, List.map_nil, List.nil_append, List.cons_append, List.length_cons, List.length_nil, List.replicate, if_true, if_false, ite_true, ite_false, Bool.not_true, Bool.not_false, Bool.not_eq_true', Bool.true_or, Bool.false_or, Bool.or_true, Bool.or_false, Bool.true_and, Bool.false_and, Bool.and_true, Bool.and_false, reduceCtorEq, Nat.reduceSub, Nat.reduceAdd, Nat.zero_add, Nat.reduceLeDiff, List.contains_nil, List.contains_cons, decide_true, decide_false, Bool.false_eq_true, and_self, and_true, true_and, ↓reduceIte, io_is_between, io_is_exchange, io_walk, io_is_round, io_check_round, io_back, io_with_names, io_renamed, io_ring_from, io_rings_of, io_around, io_found_turns, io_found_corners, io_corners, io_check_square, io_turns, io__law_town, io__law_draw, io__law_order, io__law_hangs, io__law_round, io__law_back, io_law]
      · have z : n - i = 0 := by omega
        rw [z] at hds
        cases hds)
    ⟨0, none, none, none, rfl, by rw [List.range_eq_range']; rfl, by omega, .inl ⟨rfl, rfl, rfl⟩, fun z => by omega⟩
  have hi' : i = n := by
    apply Classical.byContradiction
    intro hn
    have z : n - i = (n - (i + 1)) + 1 := by omega
    rw [z, List.range'_succ, List.map_cons] at hds
    cases hds
  subst hi'
  obtain ⟨d10, rfl⟩ := hi0 (by omega)
  have e1 : toldTo (com r u) i = turnL (com r u) := by unfold toldTo turnL; rw [hc.len]
  have e2 : grpTo (com r u) i = gl (com r u) := by unfold grpTo gl ringsTo rings; rw [hc.len]
  rw [e1, e2] at hg
  subst hg
  exact ⟨d10, j14, j15, e⟩
end
end Law_shearsquares_k12_corners

namespace Law_shearsquares_k12_corners
open PySem (PyData)
open Dat Plain
theorem seq_nx {io : Io} {cf : Caller} {s t : S} {g g1 : G} {x : R Fl} (h : Dat.exec io cf s g = .ok (.nx g1)) (h2 : Dat.exec io cf t g1 = x) : Dat.exec io cf (.seq s t) g = x := by
  rw [q_exec_1, h, bd_ok]
  exact h2
theorem st_pr (r u : List Nat) (g : G) : stP (.tc (.v 3) (.tc (.v 4) .t0)) (pr r u) g = bd (put g 3 (.f (tp r))) fun g => bd (put g 4 (.f (tp u))) fun g => .ok g := rfl
theorem fold_pr (r u : List Nat) : PyData.tuple [tp r, tp u] = pr r u := rfl
theorem fold_tp (n : Nat) : PyData.tuple ((List.range n).map fun i : Nat => PyData.int (i : Int)) = tp (List.range n) := rfl
theorem rngl_n (n : Nat) (h : n ≤ 7) : rngD [.int (n : Int)] = .ok ((List.range n).map fun i : Nat => PyData.int (i : Int)) := rng1 n (by omega)
theorem r_law (k : Nat) (ns : List Int) (h : ns.length ≤ 63) : run P (k + 6) 22 [sc ns] = .ok (.f (.bool true), []) := by
  have et := r_town (k + 4) ns h
  obtain ⟨n, r, u, t1, er, h1, h7, hr, hu, cn, T1⟩ := r_lround (k + 2) ns (0 :: ns) 0 (by omega) ⟨by simp, by simp, by simp⟩
  have hc := com_isP hr hu
  have eb1 := r_lback (k + 4) hr h7
  have eb2 := r_lback (k + 4) hu h7
  obtain ⟨d10, j14, j15, el⟩ := w_law2 h1 h7 hr hu cn k ns t1
  obtain ⟨σ, t2, eo, hσ, T2⟩ := r_order (k + 3) ns t1 n (0 + 200) h1 h7 (by omega) T1
  have hr' := cj_isP hσ hr
  have hu' := cj_isP hσ hu
  have cn' := conn_cj h1 h7 hr hu hσ cn
  have en := r_ren k h7 hr hu hσ h1 cn
  -- corners
  have c0 := r_corners h7 hr hu h1 cn k
  have c1 := r_corners h7 hr' hu' h1 cn' k
  rw [corn_conj h1 h7 hc (com_isP hr' hu') hσ.pm fun s hs => com_cj hr hu hσ hs] at c1
  have c2 := r_corners h7 hu hr h1 (conn_swap cn) k
  rw [com_swap hr hu, corn_inv h1 h7 hc] at c2
  have c3 := r_corners h7 (inv_isP hr) (inv_isP hu) h1 (conn_inv h7 hr hu cn) k
  rw [corn_conj h1 h7 hc (com_isP (inv_isP hr) (inv_isP hu)) (pm_comp hu.pm hr.pm) fun s hs => com_invs hr hu hs] at c3
  have hs := sh_isP h1
  have c4 := r_corners h7 hs (isP_range n) h1 (sh_conn h1 _) k
  rw [com_id hs, corn_range n h7] at c4
  have c5 := r_corners h7 hs hs h1 (sh_conn h1 _) k
  rw [com_self hs, corn_range n h7] at c5
  -- numbers
  obtain ⟨_, k2, k3⟩ := chk_use h1 h7 hc
  have ev0 := com_even hr hu
  have gll : (gl (com r u)).length ≤ 7 := by
    unfold gl rings
    rw [List.length_map, List.length_map]
    have := List.length_filter_le (minO (com r u)) (List.range (com r u).length)
    rw [hc.len] at this ⊢
    simp at this
    omega
  have s1 := x_sort (gl (com r u)) (by omega)
  have s2 : srtN' (gl (com r u)) = corn (com r u) := srt_eq _
  rw [s2] at s1
  have s3 := x_sum (gl (com r u))
  rw [k3] at s3
  have s4 := x_mod ((n : Int) - (((gl (com r u)).length : Nat) : Int)) 2 (by omega)
  have s5 : ((n : Int) - (((gl (com r u)).length : Nat) : Int)) % 2 = 0 := by omega
  rw [s5] at s4
  have dn : decide ((n : Int) = (n : Int)) = true := decide_eq_true rfl
  have d00 : decide ((0 : Int) = 0) = true := rfl
  have dc : decide (corn (com r u) = corn (com r u)) = true := decide_eq_true rfl
  have dt : decide (turnL (com r u) = turnL (com r u)) = true := decide_eq_true rfl
  have dr : decide (List.replicate n 1 = List.replicate n 1) = true := decide_eq_true rfl
  have rp := x_rep1 n h1 (by omega)
  have e2 := lc_map (io := ioOf P) (cf := run P (k + 5)) (C := C_law_2) (g := [some (.frz (sc ns)), some (.own (li t2)), some (.frz (pr r u)), some (.frz (tp r)), some (.frz (tp u)), some (.frz (.int (n : Int))), some (.frz (tp (inv r))), some (.frz (tp (inv u))), some (.own (ls (turnL (com r u)))), some (.own (ls (gl (com r u)))), some (.frz d10), some (.frz (tp σ)), some (.frz (pr (cj σ r) (cj σ u))), none, j14, j15, none])
    (g1 := [some (.frz (sc ns)), some (.own (li t2)), some (.frz (pr r u)), some (.frz (tp r)), some (.frz (tp u)), some (.frz (.int (n : Int))), some (.frz (tp (inv r))), some (.frz (tp (inv u))), some (.own (ls (turnL (com r u)))), some (.own (ls (gl (com r u)))), some (.frz d10), some (.frz (tp σ)), some (.frz (pr (cj σ r) (cj σ u))), none, j14, j15, none]) (xs := List.range n) rfl (fun i : Nat => .int (i : Int)) (fun s => .int (((orb (com r u) s).length : Nat) : Int)) (by simp only [rngl_n n h7, q_ev_0, q_ev_1, q_ev_2, q_ev_3, q_ev_4, q_ev_5, q_ev_6, q_ev_7, q_ev_8, q_ev_9, q_ev_10, q_ev_11, q_ev_12, q_ev_13, q_ev_14, q_ev_15, q_ev_16, q_ev_17, q_ev_18, q_ev_19, q_ev_20, q_ev_21, q_ev_22, q_ev_23, q_ev_24, q_ev_25, q_ev_26, q_ev_27, q_ev_29, q_ev_30, q_evC_0, q_evC_1, q_evAnd_0, q_evAnd_1, q_evOr_0, q_evOr_1, q_evO_0, q_evO_1, q_evA_0, q_evA_1, q_evD_0, q_evD_1, q_evI_0, q_evI_1, q_evI_2, q_evI_3, q_evI_4, q_exec_0, q_exec_1, q_exec_2, q_exec_3, q_exec_4, q_exec_5, q_exec_6, q_exec_7, q_exec_8, q_exec_9, q_exec_10, q_exec_11, q_exec_12, q_exec_13, q_exec_14, q_tst, bd_ok, bq_ok, R.bind, rdv, mvv, pkv, put, chg, Vl.fz, Vl.res, B.dat, asBool, Dat.asInt?, handed, Dat.backTo, refsOf, noDup, okO, newIo, newCount, startG, outsG, stP, stQ, stVs, x_items1, x_items2, items_tp, items_ls, x_ty1, x_ty2, x_ty3, isTy_tp, x_len1, x_len2, x_len3, len_tp, len_ls, x_tup1, x_tup2, tuple_ls, x_lst1, x_lst2, list_ls, list_tp, x_neg, x_add, x_sub, x_lt, x_le, x_gt, x_ge, x_eqI, x_neI, x_eqB, x_neB, x_eqT, x_neT, x_neL, x_neL0, x_notin, x_memL, x_frz1, x_frz2, frz_tp, frz_ls, x_isL, isLst_ls, x_seq1, x_slot, x_slotf, x_sloto,
  List.getElem?_cons_zero, List.getElem?_cons_succ, List.set_cons_zero, List.set_cons_succ, List.zip_cons_cons, List.zip_nil_right, List.zip_nil_left, List.map_cons, List.map_nil, List.nil_append, List.cons_append, List.length_cons, List.length_nil, List.replicate, if_true, if_false, ite_true, ite_false, Bool.not_true, Bool.not_false, Bool.not_eq_true', Bool.true_or, Bool.false_or, Bool.or_true, Bool.or_false, Bool.true_and, Bool.false_and, Bool.and_true, Bool.and_false, reduceCtorEq, Nat.reduceSub, Nat.reduceAdd, Nat.zero_add, Nat.reduceLeDiff, List.contains_nil, List.contains_cons, decide_true, decide_false, Bool.false_eq_true, and_self, and_true, true_and, ↓reduceIte, io_is_between, io_is_exchange, io_walk, io_is_round, io_check_round, io_back, io_with_names, io_renamed, io_ring_from, io_rings_of, io_around, io_found_turns, io_found_corners, io_corners, io_check_square, io_turns, io__law_town, io__law_draw, io__law_order, io__law_hangs, io__law_round, io__law_back, io_law]) (by simp; omega) (by simp) (by simp) fun x hx => ⟨.f (.int (((orb (com r u) x).length : Nat) : Int)), by
      have hx := List.mem_range.mp hx
      have a1 := ix_tp σ x (by rw [hσ.len]; exact hx)
      have a2 := r_turns h7 hr' hu' h1 cn' k (hσ.atlt hx)
      rw [orb_conj h7 hc (com_isP hr' hu') hσ.pm (fun s hs => com_cj hr hu hσ hs) hx] at a2
      simp only [a1, a2, q_ev_0, q_ev_1, q_ev_2, q_ev_3, q_ev_4, q_ev_5, q_ev_6, q_ev_7, q_ev_8, q_ev_9, q_ev_10, q_ev_11, q_ev_12, q_ev_13, q_ev_14, q_ev_15, q_ev_16, q_ev_17, q_ev_18, q_ev_19, q_ev_20, q_ev_21, q_ev_22, q_ev_23, q_ev_24, q_ev_25, q_ev_26, q_ev_27, q_ev_29, q_ev_30, q_evC_0, q_evC_1, q_evAnd_0, q_evAnd_1, q_evOr_0, q_evOr_1, q_evO_0, q_evO_1, q_evA_0, q_evA_1, q_evD_0, q_evD_1, q_evI_0, q_evI_1, q_evI_2, q_evI_3, q_evI_4, q_exec_0, q_exec_1, q_exec_2, q_exec_3, q_exec_4, q_exec_5, q_exec_6, q_exec_7, q_exec_8, q_exec_9, q_exec_10, q_exec_11, q_exec_12, q_exec_13, q_exec_14, q_tst, bd_ok, bq_ok, R.bind, rdv, mvv, pkv, put, chg, Vl.fz, Vl.res, B.dat, asBool, Dat.asInt?, handed, Dat.backTo, refsOf, noDup, okO, newIo, newCount, startG, outsG, stP, stQ, stVs, x_items1, x_items2, items_tp, items_ls, x_ty1, x_ty2, x_ty3, isTy_tp, x_len1, x_len2, x_len3, len_tp, len_ls, x_tup1, x_tup2, tuple_ls, x_lst1, x_lst2, list_ls, list_tp, x_neg, x_add, x_sub, x_lt, x_le, x_gt, x_ge, x_eqI, x_neI, x_eqB, x_neB, x_eqT, x_neT, x_neL, x_neL0, x_notin, x_memL, x_frz1, x_frz2, frz_tp, frz_ls, x_isL, isLst_ls, x_seq1, x_slot, x_slotf, x_sloto,
  List.getElem?_cons_zero, List.getElem?_cons_succ, List.set_cons_zero, List.set_cons_succ, List.zip_cons_cons, List.zip_nil_right, List.zip_nil_left, List.map_cons, List.map_nil, List.nil_append, List.cons_append, List.length_cons, List.length_nil, List.replicate, if_true, if_false, ite_true, ite_false, Bool.not_true, Bool.not_false, Bool.not_eq_true', Bool.true_or, Bool.false_or, Bool.or_true, Bool.or_false, Bool.true_and, Bool.false_and, Bool.and_true, Bool.and_false, reduceCtorEq, Nat.reduceSub, Nat.reduceAdd, Nat.zero_add, Nat.reduceLeDiff, List.contains_nil, List.contains_cons, decide_true, decide_false, Bool.false_eq_true, and_self, and_true, true_and, ↓reduceIte, io_is_between, io_is_exchange, io_walk, io_is_round, io_check_round, io_back, io_with_names, io_renamed, io_ring_from, io_rings_of, io_around, io_found_turns, io_found_corners, io_corners, io_check_square, io_turns, io__law_town, io__law_draw, io__law_order, io__law_hangs, io__law_round, io__law_back, io_law], rfl⟩
  rw [ls_map (List.range n) fun s => (orb (com r u) s).length] at e2
  have e3 : (List.range n).map (fun s => (orb (com r u) s).length) = turnL (com r u) := by unfold turnL; rw [hc.len]
  rw [e3] at e2
  have cs := c_shift (ioOf P) (run P (k + 5)) (C := C_law_1) (s := 16) (m := 5) (n := n) (g := [some (.frz (sc ns)), some (.own (li t2)), some (.frz (pr r u)), some (.frz (tp r)), some (.frz (tp u)), some (.frz (.int (n : Int))), some (.frz (tp (inv r))), some (.frz (tp (inv u))), some (.own (ls (turnL (com r u)))), some (.own (ls (gl (com r u)))), some (.frz d10), some (.frz (tp σ)), some (.frz (pr (cj σ r) (cj σ u))), none, j14, j15, none]) rfl h1 h7 rfl (by simp) (by omega) (by simp)
  rw [run_at at_law rfl rfl]
  have body : Dat.exec (ioOf P) (run P (k + 5)) F_law.body [some (.frz (sc ns)), none, none, none, none, none, none, none, none, none, none, none, none, none, none, none, none] = .ok (.rt (.f (.bool true)) [some (.frz (sc ns)), some (.own (li t2)), some (.frz (pr r u)), some (.frz (tp r)), some (.frz (tp u)), some (.frz (.int (n : Int))), some (.frz (tp (inv r))), some (.frz (tp (inv u))), some (.own (ls (turnL (com r u)))), some (.own (ls (gl (com r u)))), some (.frz d10), some (.frz (tp σ)), some (.frz (pr (cj σ r) (cj σ u))), some (.frz (pr (sh n) (List.range n))), j14, j15, none]) := by
    refine seq_nx (g1 := [some (.frz (sc ns)), some (.own (li (0 :: ns))), none, none, none, none, none, none, none, none, none, none, none, none, none, none, none]) (by simp only [et, q_ev_0, q_ev_1, q_ev_2, q_ev_3, q_ev_4, q_ev_5, q_ev_6, q_ev_7, q_ev_8, q_ev_9, q_ev_10, q_ev_11, q_ev_12, q_ev_13, q_ev_14, q_ev_15, q_ev_16, q_ev_17, q_ev_18, q_ev_19, q_ev_20, q_ev_21, q_ev_22, q_ev_23, q_ev_24, q_ev_25, q_ev_26, q_ev_27, q_ev_29, q_ev_30, q_evC_0, q_evC_1, q_evAnd_0, q_evAnd_1, q_evOr_0, q_evOr_1, q_evO_0, q_evO_1, q_evA_0, q_evA_1, q_evD_0, q_evD_1, q_evI_0, q_evI_1, q_evI_2, q_evI_3, q_evI_4, q_exec_0, q_exec_1, q_exec_2, q_exec_3, q_exec_4, q_exec_5, q_exec_6, q_exec_7, q_exec_8, q_exec_9, q_exec_10, q_exec_11, q_exec_12, q_exec_13, q_exec_14, q_tst, bd_ok, bq_ok, R.bind, rdv, mvv, pkv, put, chg, Vl.fz, Vl.res, B.dat, asBool, Dat.asInt?, handed, Dat.backTo, refsOf, noDup, okO, newIo, newCount, startG, outsG, stP, stQ, stVs, x_items1, x_items2, items_tp, items_ls, x_ty1, x_ty2, x_ty3, isTy_tp, x_len1, x_len2, x_len3, len_tp, len_ls, x_tup1, x_tup2, tuple_ls, x_lst1, x_lst2, list_ls, list_tp, x_neg, x_add, x_sub, x_lt, x_le, x_gt, x_ge, x_eqI, x_neI, x_eqB, x_neB, x_eqT, x_neT, x_neL, x_neL0, x_notin, x_memL, x_frz1, x_frz2, frz_tp, frz_ls, x_isL, isLst_ls, x_seq1, x_slot, x_slotf, x_sloto,
  List.getElem?_cons_zero, List.getElem?_cons_succ, List.set_cons_zero, List.set_cons_succ, List.zip_cons_cons, List.zip_nil_right, List.zip_nil_left, List.map_cons, List.map_nil, List.nil_append, List.cons_append, List.length_cons, List.length_nil, List.replicate, if_true, if_false, ite_true, ite_false, Bool.not_true, Bool.not_false, Bool.not_eq_true', Bool.true_or, Bool.false_or, Bool.or_true, Bool.or_false, Bool.true_and, Bool.false_and, Bool.and_true, Bool.and_false, reduceCtorEq, Nat.reduceSub, Nat.reduceAdd, Nat.zero_add, Nat.reduceLeDiff, List.contains_nil, List.contains_cons, decide_true, decide_false, Bool.false_eq_true, and_self, and_true, true_and, ↓reduceIte, io_is_between, io_is_exchange, io_walk, io_is_round, io_check_round, io_back, io_with_names, io_renamed, io_ring_from, io_rings_of, io_around, io_found_turns, io_found_corners, io_corners, io_check_square, io_turns, io__law_town, io__law_draw, io__law_order, io__law_hangs, io__law_round, io__law_back, io_law]) ?_
    refine seq_nx (g1 := [some (.frz (sc ns)), some (.own (li t1)), some (.frz (pr r u)), none, none, none, none, none, none, none, none, none, none, none, none, none, none]) (by simp only [er, q_ev_0, q_ev_1, q_ev_2, q_ev_3, q_ev_4, q_ev_5, q_ev_6, q_ev_7, q_ev_8, q_ev_9, q_ev_10, q_ev_11, q_ev_12, q_ev_13, q_ev_14, q_ev_15, q_ev_16, q_ev_17, q_ev_18, q_ev_19, q_ev_20, q_ev_21, q_ev_22, q_ev_23, q_ev_24, q_ev_25, q_ev_26, q_ev_27, q_ev_29, q_ev_30, q_evC_0, q_evC_1, q_evAnd_0, q_evAnd_1, q_evOr_0, q_evOr_1, q_evO_0, q_evO_1, q_evA_0, q_evA_1, q_evD_0, q_evD_1, q_evI_0, q_evI_1, q_evI_2, q_evI_3, q_evI_4, q_exec_0, q_exec_1, q_exec_2, q_exec_3, q_exec_4, q_exec_5, q_exec_6, q_exec_7, q_exec_8, q_exec_9, q_exec_10, q_exec_11, q_exec_12, q_exec_13, q_exec_14, q_tst, bd_ok, bq_ok, R.bind, rdv, mvv, pkv, put, chg, Vl.fz, Vl.res, B.dat, asBool, Dat.asInt?, handed, Dat.backTo, refsOf, noDup, okO, newIo, newCount, startG, outsG, stP, stQ, stVs, x_items1, x_items2, items_tp, items_ls, x_ty1, x_ty2, x_ty3, isTy_tp, x_len1, x_len2, x_len3, len_tp, len_ls, x_tup1, x_tup2, tuple_ls, x_lst1, x_lst2, list_ls, list_tp, x_neg, x_add, x_sub, x_lt, x_le, x_gt, x_ge, x_eqI, x_neI, x_eqB, x_neB, x_eqT, x_neT, x_neL, x_neL0, x_notin, x_memL, x_frz1, x_frz2, frz_tp, frz_ls, x_isL, isLst_ls, x_seq1, x_slot, x_slotf, x_sloto,
  List.getElem?_cons_zero, List.getElem?_cons_succ, List.set_cons_zero, List.set_cons_succ, List.zip_cons_cons, List.zip_nil_right, List.zip_nil_left, List.map_cons, List.map_nil, List.nil_append, List.cons_append, List.length_cons, List.length_nil, List.replicate, if_true, if_false, ite_true, ite_false, Bool.not_true, Bool.not_false, Bool.not_eq_true', Bool.true_or, Bool.false_or, Bool.or_true, Bool.or_false, Bool.true_and, Bool.false_and, Bool.and_true, Bool.and_false, reduceCtorEq, Nat.reduceSub, Nat.reduceAdd, Nat.zero_add, Nat.reduceLeDiff, List.contains_nil, List.contains_cons, decide_true, decide_false, Bool.false_eq_true, and_self, and_true, true_and, ↓reduceIte, io_is_between, io_is_exchange, io_walk, io_is_round, io_check_round, io_back, io_with_names, io_renamed, io_ring_from, io_rings_of, io_around, io_found_turns, io_found_corners, io_corners, io_check_square, io_turns, io__law_town, io__law_draw, io__law_order, io__law_hangs, io__law_round, io__law_back, io_law]) ?_
    refine seq_nx (g1 := [some (.frz (sc ns)), some (.own (li t1)), some (.frz (pr r u)), some (.frz (tp r)), some (.frz (tp u)), some (.frz (.int (n : Int))), none, none, none, none, none, none, none, none, none, none, none]) (by simp only [ix_pr0, hr.len, st_pr, q_ev_0, q_ev_1, q_ev_2, q_ev_3, q_ev_4, q_ev_5, q_ev_6, q_ev_7, q_ev_8, q_ev_9, q_ev_10, q_ev_11, q_ev_12, q_ev_13, q_ev_14, q_ev_15, q_ev_16, q_ev_17, q_ev_18, q_ev_19, q_ev_20, q_ev_21, q_ev_22, q_ev_23, q_ev_24, q_ev_25, q_ev_26, q_ev_27, q_ev_29, q_ev_30, q_evC_0, q_evC_1, q_evAnd_0, q_evAnd_1, q_evOr_0, q_evOr_1, q_evO_0, q_evO_1, q_evA_0, q_evA_1, q_evD_0, q_evD_1, q_evI_0, q_evI_1, q_evI_2, q_evI_3, q_evI_4, q_exec_0, q_exec_1, q_exec_2, q_exec_3, q_exec_4, q_exec_5, q_exec_6, q_exec_7, q_exec_8, q_exec_9, q_exec_10, q_exec_11, q_exec_12, q_exec_13, q_exec_14, q_tst, bd_ok, bq_ok, R.bind, rdv, mvv, pkv, put, chg, Vl.fz, Vl.res, B.dat, asBool, Dat.asInt?, handed, Dat.backTo, refsOf, noDup, okO, newIo, newCount, startG, outsG, stP, stQ, stVs, x_items1, x_items2, items_tp, items_ls, x_ty1, x_ty2, x_ty3, isTy_tp, x_len1, x_len2, x_len3, len_tp, len_ls, x_tup1, x_tup2, tuple_ls, x_lst1, x_lst2, list_ls, list_tp, x_neg, x_add, x_sub, x_lt, x_le, x_gt, x_ge, x_eqI, x_neI, x_eqB, x_neB, x_eqT, x_neT, x_neL, x_neL0, x_notin, x_memL, x_frz1, x_frz2, frz_tp, frz_ls, x_isL, isLst_ls, x_seq1, x_slot, x_slotf, x_sloto,
  List.getElem?_cons_zero, List.getElem?_cons_succ, List.set_cons_zero, List.set_cons_succ, List.zip_cons_cons, List.zip_nil_right, List.zip_nil_left, List.map_cons, List.map_nil, List.nil_append, List.cons_append, List.length_cons, List.length_nil, List.replicate, if_true, if_false, ite_true, ite_false, Bool.not_true, Bool.not_false, Bool.not_eq_true', Bool.true_or, Bool.false_or, Bool.or_true, Bool.or_false, Bool.true_and, Bool.false_and, Bool.and_true, Bool.and_false, reduceCtorEq, Nat.reduceSub, Nat.reduceAdd, Nat.zero_add, Nat.reduceLeDiff, List.contains_nil, List.contains_cons, decide_true, decide_false, Bool.false_eq_true, and_self, and_true, true_and, ↓reduceIte, io_is_between, io_is_exchange, io_walk, io_is_round, io_check_round, io_back, io_with_names, io_renamed, io_ring_from, io_rings_of, io_around, io_found_turns, io_found_corners, io_corners, io_check_square, io_turns, io__law_town, io__law_draw, io__law_order, io__law_hangs, io__law_round, io__law_back, io_law]) ?_
    refine seq_nx (g1 := [some (.frz (sc ns)), some (.own (li t1)), some (.frz (pr r u)), some (.frz (tp r)), some (.frz (tp u)), some (.frz (.int (n : Int))), some (.frz (tp (inv r))), some (.frz (tp (inv u))), none, none, none, none, none, none, none, none, none]) (by simp only [eb1, eb2, q_ev_0, q_ev_1, q_ev_2, q_ev_3, q_ev_4, q_ev_5, q_ev_6, q_ev_7, q_ev_8, q_ev_9, q_ev_10, q_ev_11, q_ev_12, q_ev_13, q_ev_14, q_ev_15, q_ev_16, q_ev_17, q_ev_18, q_ev_19, q_ev_20, q_ev_21, q_ev_22, q_ev_23, q_ev_24, q_ev_25, q_ev_26, q_ev_27, q_ev_29, q_ev_30, q_evC_0, q_evC_1, q_evAnd_0, q_evAnd_1, q_evOr_0, q_evOr_1, q_evO_0, q_evO_1, q_evA_0, q_evA_1, q_evD_0, q_evD_1, q_evI_0, q_evI_1, q_evI_2, q_evI_3, q_evI_4, q_exec_0, q_exec_1, q_exec_2, q_exec_3, q_exec_4, q_exec_5, q_exec_6, q_exec_7, q_exec_8, q_exec_9, q_exec_10, q_exec_11, q_exec_12, q_exec_13, q_exec_14, q_tst, bd_ok, bq_ok, R.bind, rdv, mvv, pkv, put, chg, Vl.fz, Vl.res, B.dat, asBool, Dat.asInt?, handed, Dat.backTo, refsOf, noDup, okO, newIo, newCount, startG, outsG, stP, stQ, stVs, x_items1, x_items2, items_tp, items_ls, x_ty1, x_ty2, x_ty3, isTy_tp, x_len1, x_len2, x_len3, len_tp, len_ls, x_tup1, x_tup2, tuple_ls, x_lst1, x_lst2, list_ls, list_tp, x_neg, x_add, x_sub, x_lt, x_le, x_gt, x_ge, x_eqI, x_neI, x_eqB, x_neB, x_eqT, x_neT, x_neL, x_neL0, x_notin, x_memL, x_frz1, x_frz2, frz_tp, frz_ls, x_isL, isLst_ls, x_seq1, x_slot, x_slotf, x_sloto,
  List.getElem?_cons_zero, List.getElem?_cons_succ, List.set_cons_zero, List.set_cons_succ, List.zip_cons_cons, List.zip_nil_right, List.zip_nil_left, List.map_cons, List.map_nil, List.nil_append, List.cons_append, List.length_cons, List.length_nil, List.replicate, if_true, if_false, ite_true, ite_false, Bool.not_true, Bool.not_false, Bool.not_eq_true', Bool.true_or, Bool.false_or, Bool.or_true, Bool.or_false, Bool.true_and, Bool.false_and, Bool.and_true, Bool.and_false, reduceCtorEq, Nat.reduceSub, Nat.reduceAdd, Nat.zero_add, Nat.reduceLeDiff, List.contains_nil, List.contains_cons, decide_true, decide_false, Bool.false_eq_true, and_self, and_true, true_and, ↓reduceIte, io_is_between, io_is_exchange, io_walk, io_is_round, io_check_round, io_back, io_with_names, io_renamed, io_ring_from, io_rings_of, io_around, io_found_turns, io_found_corners, io_corners, io_check_square, io_turns, io__law_town, io__law_draw, io__law_order, io__law_hangs, io__law_round, io__law_back, io_law]) ?_
    refine seq_nx (g1 := GL ns t1 n r u [] [] none none none) (by simp only [GL, q_ev_0, q_ev_1, q_ev_2, q_ev_3, q_ev_4, q_ev_5, q_ev_6, q_ev_7, q_ev_8, q_ev_9, q_ev_10, q_ev_11, q_ev_12, q_ev_13, q_ev_14, q_ev_15, q_ev_16, q_ev_17, q_ev_18, q_ev_19, q_ev_20, q_ev_21, q_ev_22, q_ev_23, q_ev_24, q_ev_25, q_ev_26, q_ev_27, q_ev_29, q_ev_30, q_evC_0, q_evC_1, q_evAnd_0, q_evAnd_1, q_evOr_0, q_evOr_1, q_evO_0, q_evO_1, q_evA_0, q_evA_1, q_evD_0, q_evD_1, q_evI_0, q_evI_1, q_evI_2, q_evI_3, q_evI_4, q_exec_0, q_exec_1, q_exec_2, q_exec_3, q_exec_4, q_exec_5, q_exec_6, q_exec_7, q_exec_8, q_exec_9, q_exec_10, q_exec_11, q_exec_12, q_exec_13, q_exec_14, q_tst, bd_ok, bq_ok, R.bind, rdv, mvv, pkv, put, chg, Vl.fz, Vl.res, B.dat, asBool, Dat.asInt?, handed, Dat.backTo, refsOf, noDup, okO, newIo, newCount, startG, outsG, stP, stQ, stVs, x_items1, x_items2, items_tp, items_ls, x_ty1, x_ty2, x_ty3, isTy_tp, x_len1, x_len2, x_len3, len_tp, len_ls, x_tup1, x_tup2, tuple_ls, x_lst1, x_lst2, list_ls, list_tp, x_neg, x_add, x_sub, x_lt, x_le, x_gt, x_ge, x_eqI, x_neI, x_eqB, x_neB, x_eqT, x_neT, x_neL, x_neL0, x_notin, x_memL, x_frz1, x_frz2, frz_tp, frz_ls, x_isL, isLst_ls, x_seq1, x_slot, x_slotf, x_sloto,
  List.getElem?_cons_zero, List.getElem?_cons_succ, List.set_cons_zero, List.set_cons_succ, List.zip_cons_cons, List.zip_nil_right, List.zip_nil_left, List.map_cons, List.map_nil, List.nil_append, List.cons_append, List.length_cons, List.length_nil, List.replicate, if_true, if_false, ite_true, ite_false, Bool.not_true, Bool.not_false, Bool.not_eq_true', Bool.true_or, Bool.false_or, Bool.or_true, Bool.or_false, Bool.true_and, Bool.false_and, Bool.and_true, Bool.and_false, reduceCtorEq, Nat.reduceSub, Nat.reduceAdd, Nat.zero_add, Nat.reduceLeDiff, List.contains_nil, List.contains_cons, decide_true, decide_false, Bool.false_eq_true, and_self, and_true, true_and, ↓reduceIte, io_is_between, io_is_exchange, io_walk, io_is_round, io_check_round, io_back, io_with_names, io_renamed, io_ring_from, io_rings_of, io_around, io_found_turns, io_found_corners, io_corners, io_check_square, io_turns, io__law_town, io__law_draw, io__law_order, io__law_hangs, io__law_round, io__law_back, io_law]; rfl) ?_
    refine seq_nx el ?_
    refine seq_nx (g1 := GL ns t1 n r u (turnL (com r u)) (gl (com r u)) (some (.frz d10)) j14 j15) (by simp only [GL, c0, s1, s3, s4, dn, d00, dc, q_ev_0, q_ev_1, q_ev_2, q_ev_3, q_ev_4, q_ev_5, q_ev_6, q_ev_7, q_ev_8, q_ev_9, q_ev_10, q_ev_11, q_ev_12, q_ev_13, q_ev_14, q_ev_15, q_ev_16, q_ev_17, q_ev_18, q_ev_19, q_ev_20, q_ev_21, q_ev_22, q_ev_23, q_ev_24, q_ev_25, q_ev_26, q_ev_27, q_ev_29, q_ev_30, q_evC_0, q_evC_1, q_evAnd_0, q_evAnd_1, q_evOr_0, q_evOr_1, q_evO_0, q_evO_1, q_evA_0, q_evA_1, q_evD_0, q_evD_1, q_evI_0, q_evI_1, q_evI_2, q_evI_3, q_evI_4, q_exec_0, q_exec_1, q_exec_2, q_exec_3, q_exec_4, q_exec_5, q_exec_6, q_exec_7, q_exec_8, q_exec_9, q_exec_10, q_exec_11, q_exec_12, q_exec_13, q_exec_14, q_tst, bd_ok, bq_ok, R.bind, rdv, mvv, pkv, put, chg, Vl.fz, Vl.res, B.dat, asBool, Dat.asInt?, handed, Dat.backTo, refsOf, noDup, okO, newIo, newCount, startG, outsG, stP, stQ, stVs, x_items1, x_items2, items_tp, items_ls, x_ty1, x_ty2, x_ty3, isTy_tp, x_len1, x_len2, x_len3, len_tp, len_ls, x_tup1, x_tup2, tuple_ls, x_lst1, x_lst2, list_ls, list_tp, x_neg, x_add, x_sub, x_lt, x_le, x_gt, x_ge, x_eqI, x_neI, x_eqB, x_neB, x_eqT, x_neT, x_neL, x_neL0, x_notin, x_memL, x_frz1, x_frz2, frz_tp, frz_ls, x_isL, isLst_ls, x_seq1, x_slot, x_slotf, x_sloto,
  List.getElem?_cons_zero, List.getElem?_cons_succ, List.set_cons_zero, List.set_cons_succ, List.zip_cons_cons, List.zip_nil_right, List.zip_nil_left, List.map_cons, List.map_nil, List.nil_append, List.cons_append, List.length_cons, List.length_nil, List.replicate, if_true, if_false, ite_true, ite_false, Bool.not_true, Bool.not_false, Bool.not_eq_true', Bool.true_or, Bool.false_or, Bool.or_true, Bool.or_false, Bool.true_and, Bool.false_and, Bool.and_true, Bool.and_false, reduceCtorEq, Nat.reduceSub, Nat.reduceAdd, Nat.zero_add, Nat.reduceLeDiff, List.contains_nil, List.contains_cons, decide_true, decide_false, Bool.false_eq_true, and_self, and_true, true_and, ↓reduceIte, io_is_between, io_is_exchange, io_walk, io_is_round, io_check_round, io_back, io_with_names, io_renamed, io_ring_from, io_rings_of, io_around, io_found_turns, io_found_corners, io_corners, io_check_square, io_turns, io__law_town, io__law_draw, io__law_order, io__law_hangs, io__law_round, io__law_back, io_law]) ?_
    refine seq_nx (g1 := [some (.frz (sc ns)), some (.own (li t2)), some (.frz (pr r u)), some (.frz (tp r)), some (.frz (tp u)), some (.frz (.int (n : Int))), some (.frz (tp (inv r))), some (.frz (tp (inv u))), some (.own (ls (turnL (com r u)))), some (.own (ls (gl (com r u)))), some (.frz d10), some (.frz (tp σ)), none, none, j14, j15, none]) (by simp only [GL, eo, q_ev_0, q_ev_1, q_ev_2, q_ev_3, q_ev_4, q_ev_5, q_ev_6, q_ev_7, q_ev_8, q_ev_9, q_ev_10, q_ev_11, q_ev_12, q_ev_13, q_ev_14, q_ev_15, q_ev_16, q_ev_17, q_ev_18, q_ev_19, q_ev_20, q_ev_21, q_ev_22, q_ev_23, q_ev_24, q_ev_25, q_ev_26, q_ev_27, q_ev_29, q_ev_30, q_evC_0, q_evC_1, q_evAnd_0, q_evAnd_1, q_evOr_0, q_evOr_1, q_evO_0, q_evO_1, q_evA_0, q_evA_1, q_evD_0, q_evD_1, q_evI_0, q_evI_1, q_evI_2, q_evI_3, q_evI_4, q_exec_0, q_exec_1, q_exec_2, q_exec_3, q_exec_4, q_exec_5, q_exec_6, q_exec_7, q_exec_8, q_exec_9, q_exec_10, q_exec_11, q_exec_12, q_exec_13, q_exec_14, q_tst, bd_ok, bq_ok, R.bind, rdv, mvv, pkv, put, chg, Vl.fz, Vl.res, B.dat, asBool, Dat.asInt?, handed, Dat.backTo, refsOf, noDup, okO, newIo, newCount, startG, outsG, stP, stQ, stVs, x_items1, x_items2, items_tp, items_ls, x_ty1, x_ty2, x_ty3, isTy_tp, x_len1, x_len2, x_len3, len_tp, len_ls, x_tup1, x_tup2, tuple_ls, x_lst1, x_lst2, list_ls, list_tp, x_neg, x_add, x_sub, x_lt, x_le, x_gt, x_ge, x_eqI, x_neI, x_eqB, x_neB, x_eqT, x_neT, x_neL, x_neL0, x_notin, x_memL, x_frz1, x_frz2, frz_tp, frz_ls, x_isL, isLst_ls, x_seq1, x_slot, x_slotf, x_sloto,
  List.getElem?_cons_zero, List.getElem?_cons_succ, List.set_cons_zero, List.set_cons_succ, List.zip_cons_cons, List.zip_nil_right, List.zip_nil_left, List.map_cons, List.map_nil, List.nil_append, List.cons_append, List.length_cons, List.length_nil, List.replicate, if_true, if_false, ite_true, ite_false, Bool.not_true, Bool.not_false, Bool.not_eq_true', Bool.true_or, Bool.false_or, Bool.or_true, Bool.or_false, Bool.true_and, Bool.false_and, Bool.and_true, Bool.and_false, reduceCtorEq, Nat.reduceSub, Nat.reduceAdd, Nat.zero_add, Nat.reduceLeDiff, List.contains_nil, List.contains_cons, decide_true, decide_false, Bool.false_eq_true, and_self, and_true, true_and, ↓reduceIte, io_is_between, io_is_exchange, io_walk, io_is_round, io_check_round, io_back, io_with_names, io_renamed, io_ring_from, io_rings_of, io_around, io_found_turns, io_found_corners, io_corners, io_check_square, io_turns, io__law_town, io__law_draw, io__law_order, io__law_hangs, io__law_round, io__law_back, io_law]) ?_
    refine seq_nx (g1 := [some (.frz (sc ns)), some (.own (li t2)), some (.frz (pr r u)), some (.frz (tp r)), some (.frz (tp u)), some (.frz (.int (n : Int))), some (.frz (tp (inv r))), some (.frz (tp (inv u))), some (.own (ls (turnL (com r u)))), some (.own (ls (gl (com r u)))), some (.frz d10), some (.frz (tp σ)), some (.frz (pr (cj σ r) (cj σ u))), none, j14, j15, none]) (by simp only [en, q_ev_0, q_ev_1, q_ev_2, q_ev_3, q_ev_4, q_ev_5, q_ev_6, q_ev_7, q_ev_8, q_ev_9, q_ev_10, q_ev_11, q_ev_12, q_ev_13, q_ev_14, q_ev_15, q_ev_16, q_ev_17, q_ev_18, q_ev_19, q_ev_20, q_ev_21, q_ev_22, q_ev_23, q_ev_24, q_ev_25, q_ev_26, q_ev_27, q_ev_29, q_ev_30, q_evC_0, q_evC_1, q_evAnd_0, q_evAnd_1, q_evOr_0, q_evOr_1, q_evO_0, q_evO_1, q_evA_0, q_evA_1, q_evD_0, q_evD_1, q_evI_0, q_evI_1, q_evI_2, q_evI_3, q_evI_4, q_exec_0, q_exec_1, q_exec_2, q_exec_3, q_exec_4, q_exec_5, q_exec_6, q_exec_7, q_exec_8, q_exec_9, q_exec_10, q_exec_11, q_exec_12, q_exec_13, q_exec_14, q_tst, bd_ok, bq_ok, R.bind, rdv, mvv, pkv, put, chg, Vl.fz, Vl.res, B.dat, asBool, Dat.asInt?, handed, Dat.backTo, refsOf, noDup, okO, newIo, newCount, startG, outsG, stP, stQ, stVs, x_items1, x_items2, items_tp, items_ls, x_ty1, x_ty2, x_ty3, isTy_tp, x_len1, x_len2, x_len3, len_tp, len_ls, x_tup1, x_tup2, tuple_ls, x_lst1, x_lst2, list_ls, list_tp, x_neg, x_add, x_sub, x_lt, x_le, x_gt, x_ge, x_eqI, x_neI, x_eqB, x_neB, x_eqT, x_neT, x_neL, x_neL0, x_notin, x_memL, x_frz1, x_frz2, frz_tp, frz_ls, x_isL, isLst_ls, x_seq1, x_slot, x_slotf, x_sloto,
  List.getElem?_cons_zero, List.getElem?_cons_succ, List.set_cons_zero, List.set_cons_succ, List.zip_cons_cons, List.zip_nil_right, List.zip_nil_left, List.map_cons, List.map_nil, List.nil_append, List.cons_append, List.length_cons, List.length_nil, List.replicate, if_true, if_false, ite_true, ite_false, Bool.not_true, Bool.not_false, Bool.not_eq_true', Bool.true_or, Bool.false_or, Bool.or_true, Bool.or_false, Bool.true_and, Bool.false_and, Bool.and_true, Bool.and_false, reduceCtorEq, Nat.reduceSub, Nat.reduceAdd, Nat.zero_add, Nat.reduceLeDiff, List.contains_nil, List.contains_cons, decide_true, decide_false, Bool.false_eq_true, and_self, and_true, true_and, ↓reduceIte, io_is_between, io_is_exchange, io_walk, io_is_round, io_check_round, io_back, io_with_names, io_renamed, io_ring_from, io_rings_of, io_around, io_found_turns, io_found_corners, io_corners, io_check_square, io_turns, io__law_town, io__law_draw, io__law_order, io__law_hangs, io__law_round, io__law_back, io_law]) ?_
    refine seq_nx (g1 := [some (.frz (sc ns)), some (.own (li t2)), some (.frz (pr r u)), some (.frz (tp r)), some (.frz (tp u)), some (.frz (.int (n : Int))), some (.frz (tp (inv r))), some (.frz (tp (inv u))), some (.own (ls (turnL (com r u)))), some (.own (ls (gl (com r u)))), some (.frz d10), some (.frz (tp σ)), some (.frz (pr (cj σ r) (cj σ u))), none, j14, j15, none]) (by simp only [e2, c0, c1, dt, dc, q_ev_0, q_ev_1, q_ev_2, q_ev_3, q_ev_4, q_ev_5, q_ev_6, q_ev_7, q_ev_8, q_ev_9, q_ev_10, q_ev_11, q_ev_12, q_ev_13, q_ev_14, q_ev_15, q_ev_16, q_ev_17, q_ev_18, q_ev_19, q_ev_20, q_ev_21, q_ev_22, q_ev_23, q_ev_24, q_ev_25, q_ev_26, q_ev_27, q_ev_29, q_ev_30, q_evC_0, q_evC_1, q_evAnd_0, q_evAnd_1, q_evOr_0, q_evOr_1, q_evO_0, q_evO_1, q_evA_0, q_evA_1, q_evD_0, q_evD_1, q_evI_0, q_evI_1, q_evI_2, q_evI_3, q_evI_4, q_exec_0, q_exec_1, q_exec_2, q_exec_3, q_exec_4, q_exec_5, q_exec_6, q_exec_7, q_exec_8, q_exec_9, q_exec_10, q_exec_11, q_exec_12, q_exec_13, q_exec_14, q_tst, bd_ok, bq_ok, R.bind, rdv, mvv, pkv, put, chg, Vl.fz, Vl.res, B.dat, asBool, Dat.asInt?, handed, Dat.backTo, refsOf, noDup, okO, newIo, newCount, startG, outsG, stP, stQ, stVs, x_items1, x_items2, items_tp, items_ls, x_ty1, x_ty2, x_ty3, isTy_tp, x_len1, x_len2, x_len3, len_tp, len_ls, x_tup1, x_tup2, tuple_ls, x_lst1, x_lst2, list_ls, list_tp, x_neg, x_add, x_sub, x_lt, x_le, x_gt, x_ge, x_eqI, x_neI, x_eqB, x_neB, x_eqT, x_neT, x_neL, x_neL0, x_notin, x_memL, x_frz1, x_frz2, frz_tp, frz_ls, x_isL, isLst_ls, x_seq1, x_slot, x_slotf, x_sloto,
  List.getElem?_cons_zero, List.getElem?_cons_succ, List.set_cons_zero, List.set_cons_succ, List.zip_cons_cons, List.zip_nil_right, List.zip_nil_left, List.map_cons, List.map_nil, List.nil_append, List.cons_append, List.length_cons, List.length_nil, List.replicate, if_true, if_false, ite_true, ite_false, Bool.not_true, Bool.not_false, Bool.not_eq_true', Bool.true_or, Bool.false_or, Bool.or_true, Bool.or_false, Bool.true_and, Bool.false_and, Bool.and_true, Bool.and_false, reduceCtorEq, Nat.reduceSub, Nat.reduceAdd, Nat.zero_add, Nat.reduceLeDiff, List.contains_nil, List.contains_cons, decide_true, decide_false, Bool.false_eq_true, and_self, and_true, true_and, ↓reduceIte, io_is_between, io_is_exchange, io_walk, io_is_round, io_check_round, io_back, io_with_names, io_renamed, io_ring_from, io_rings_of, io_around, io_found_turns, io_found_corners, io_corners, io_check_square, io_turns, io__law_town, io__law_draw, io__law_order, io__law_hangs, io__law_round, io__law_back, io_law]) ?_
    refine seq_nx (g1 := [some (.frz (sc ns)), some (.own (li t2)), some (.frz (pr r u)), some (.frz (tp r)), some (.frz (tp u)), some (.frz (.int (n : Int))), some (.frz (tp (inv r))), some (.frz (tp (inv u))), some (.own (ls (turnL (com r u)))), some (.own (ls (gl (com r u)))), some (.frz d10), some (.frz (tp σ)), some (.frz (pr (cj σ r) (cj σ u))), none, j14, j15, none]) (by simp only [fold_pr, c0, c2, c3, dc, q_ev_0, q_ev_1, q_ev_2, q_ev_3, q_ev_4, q_ev_5, q_ev_6, q_ev_7, q_ev_8, q_ev_9, q_ev_10, q_ev_11, q_ev_12, q_ev_13, q_ev_14, q_ev_15, q_ev_16, q_ev_17, q_ev_18, q_ev_19, q_ev_20, q_ev_21, q_ev_22, q_ev_23, q_ev_24, q_ev_25, q_ev_26, q_ev_27, q_ev_29, q_ev_30, q_evC_0, q_evC_1, q_evAnd_0, q_evAnd_1, q_evOr_0, q_evOr_1, q_evO_0, q_evO_1, q_evA_0, q_evA_1, q_evD_0, q_evD_1, q_evI_0, q_evI_1, q_evI_2, q_evI_3, q_evI_4, q_exec_0, q_exec_1, q_exec_2, q_exec_3, q_exec_4, q_exec_5, q_exec_6, q_exec_7, q_exec_8, q_exec_9, q_exec_10, q_exec_11, q_exec_12, q_exec_13, q_exec_14, q_tst, bd_ok, bq_ok, R.bind, rdv, mvv, pkv, put, chg, Vl.fz, Vl.res, B.dat, asBool, Dat.asInt?, handed, Dat.backTo, refsOf, noDup, okO, newIo, newCount, startG, outsG, stP, stQ, stVs, x_items1, x_items2, items_tp, items_ls, x_ty1, x_ty2, x_ty3, isTy_tp, x_len1, x_len2, x_len3, len_tp, len_ls, x_tup1, x_tup2, tuple_ls, x_lst1, x_lst2, list_ls, list_tp, x_neg, x_add, x_sub, x_lt, x_le, x_gt, x_ge, x_eqI, x_neI, x_eqB, x_neB, x_eqT, x_neT, x_neL, x_neL0, x_notin, x_memL, x_frz1, x_frz2, frz_tp, frz_ls, x_isL, isLst_ls, x_seq1, x_slot, x_slotf, x_sloto,
  List.getElem?_cons_zero, List.getElem?_cons_succ, List.set_cons_zero, List.set_cons_succ, List.zip_cons_cons, List.zip_nil_right, List.zip_nil_left, List.map_cons, List.map_nil, List.nil_append, List.cons_append, List.length_cons, List.length_nil, List.replicate, if_true, if_false, ite_true, ite_false, Bool.not_true, Bool.not_false, Bool.not_eq_true', Bool.true_or, Bool.false_or, Bool.or_true, Bool.or_false, Bool.true_and, Bool.false_and, Bool.and_true, Bool.and_false, reduceCtorEq, Nat.reduceSub, Nat.reduceAdd, Nat.zero_add, Nat.reduceLeDiff, List.contains_nil, List.contains_cons, decide_true, decide_false, Bool.false_eq_true, and_self, and_true, true_and, ↓reduceIte, io_is_between, io_is_exchange, io_walk, io_is_round, io_check_round, io_back, io_with_names, io_renamed, io_ring_from, io_rings_of, io_around, io_found_turns, io_found_corners, io_corners, io_check_square, io_turns, io__law_town, io__law_draw, io__law_order, io__law_hangs, io__law_round, io__law_back, io_law]) ?_
    refine seq_nx (g1 := [some (.frz (sc ns)), some (.own (li t2)), some (.frz (pr r u)), some (.frz (tp r)), some (.frz (tp u)), some (.frz (.int (n : Int))), some (.frz (tp (inv r))), some (.frz (tp (inv u))), some (.own (ls (turnL (com r u)))), some (.own (ls (gl (com r u)))), some (.frz d10), some (.frz (tp σ)), some (.frz (pr (cj σ r) (cj σ u))), some (.frz (pr (sh n) (List.range n))), j14, j15, none]) (by simp only [cs, rngl_n n h7, fold_tp, fold_pr, q_ev_0, q_ev_1, q_ev_2, q_ev_3, q_ev_4, q_ev_5, q_ev_6, q_ev_7, q_ev_8, q_ev_9, q_ev_10, q_ev_11, q_ev_12, q_ev_13, q_ev_14, q_ev_15, q_ev_16, q_ev_17, q_ev_18, q_ev_19, q_ev_20, q_ev_21, q_ev_22, q_ev_23, q_ev_24, q_ev_25, q_ev_26, q_ev_27, q_ev_29, q_ev_30, q_evC_0, q_evC_1, q_evAnd_0, q_evAnd_1, q_evOr_0, q_evOr_1, q_evO_0, q_evO_1, q_evA_0, q_evA_1, q_evD_0, q_evD_1, q_evI_0, q_evI_1, q_evI_2, q_evI_3, q_evI_4, q_exec_0, q_exec_1, q_exec_2, q_exec_3, q_exec_4, q_exec_5, q_exec_6, q_exec_7, q_exec_8, q_exec_9, q_exec_10, q_exec_11, q_exec_12, q_exec_13, q_exec_14, q_tst, bd_ok, bq_ok, R.bind, rdv, mvv, pkv, put, chg, Vl.fz, Vl.res, B.dat, asBool, Dat.asInt?, handed, Dat.backTo, refsOf, noDup, okO, newIo, newCount, startG, outsG, stP, stQ, stVs, x_items1, x_items2, items_tp, items_ls, x_ty1, x_ty2, x_ty3, isTy_tp, x_len1, x_len2, x_len3, len_tp, len_ls, x_tup1, x_tup2, tuple_ls, x_lst1, x_lst2, list_ls, list_tp, x_neg, x_add, x_sub, x_lt, x_le, x_gt, x_ge, x_eqI, x_neI, x_eqB, x_neB, x_eqT, x_neT, x_neL, x_neL0, x_notin, x_memL, x_frz1, x_frz2, frz_tp, frz_ls, x_isL, isLst_ls, x_seq1, x_slot, x_slotf, x_sloto,
  List.getElem?_cons_zero, List.getElem?_cons_succ, List.set_cons_zero, List.set_cons_succ, List.zip_cons_cons, List.zip_nil_right, List.zip_nil_left, List.map_cons, List.map_nil, List.nil_append, List.cons_append, List.length_cons, List.length_nil, List.replicate, if_true, if_false, ite_true, ite_false, Bool.not_true, Bool.not_false, Bool.not_eq_true', Bool.true_or, Bool.false_or, Bool.or_true, Bool.or_false, Bool.true_and, Bool.false_and, Bool.and_true, Bool.and_false, reduceCtorEq, Nat.reduceSub, Nat.reduceAdd, Nat.zero_add, Nat.reduceLeDiff, List.contains_nil, List.contains_cons, decide_true, decide_false, Bool.false_eq_true, and_self, and_true, true_and, ↓reduceIte, io_is_between, io_is_exchange, io_walk, io_is_round, io_check_round, io_back, io_with_names, io_renamed, io_ring_from, io_rings_of, io_around, io_found_turns, io_found_corners, io_corners, io_check_square, io_turns, io__law_town, io__law_draw, io__law_order, io__law_hangs, io__law_round, io__law_back, io_law]) ?_
    simp only [fold_pr, ix_pr0, c4, c5, rp, dr, q_ev_0, q_ev_1, q_ev_2, q_ev_3, q_ev_4, q_ev_5, q_ev_6, q_ev_7, q_ev_8, q_ev_9, q_ev_10, q_ev_11, q_ev_12, q_ev_13, q_ev_14, q_ev_15, q_ev_16, q_ev_17, q_ev_18, q_ev_19, q_ev_20, q_ev_21, q_ev_22, q_ev_23, q_ev_24, q_ev_25, q_ev_26, q_ev_27, q_ev_29, q_ev_30, q_evC_0, q_evC_1, q_evAnd_0, q_evAnd_1, q_evOr_0, q_evOr_1, q_evO_0, q_evO_1, q_evA_0, q_evA_1, q_evD_0, q_evD_1, q_evI_0, q_evI_1, q_evI_2, q_evI_3, q_evI_4, q_exec_0, q_exec_1, q_exec_2, q_exec_3, q_exec_4, q_exec_5, q_exec_6, q_exec_7, q_exec_8, q_exec_9, q_exec_10, q_exec_11, q_exec_12, q_exec_13, q_exec_14, q_tst, bd_ok, bq_ok, R.bind, rdv, mvv, pkv, put, chg, Vl.fz, Vl.res, B.dat, asBool, Dat.asInt?, handed, Dat.backTo, refsOf, noDup, okO, newIo, newCount, startG, outsG, stP, stQ, stVs, x_items1, x_items2, items_tp, items_ls, x_ty1, x_ty2, x_ty3, isTy_tp, x_len1, x_len2, x_len3, len_tp, len_ls, x_tup1, x_tup2, tuple_ls, x_lst1, x_lst2, list_ls, list_tp, x_neg, x_add, x_sub, x_lt, x_le, x_gt, x_ge, x_eqI, x_neI, x_eqB, x_neB, x_eqT, x_neT, x_neL, x_neL0, x_notin, x_memL, x_frz1, x_frz2, frz_tp, frz_ls, x_isL, isLst_ls, x_seq1, x_slot, x_slotf, x_sloto,
  List.getElem?_cons_zero, List.getElem?_cons_succ, List.set_cons_zero, List.set_cons_succ, List.zip_cons_cons, List.zip_nil_right, List.zip_nil_left, List.map_cons, List.map_nil, List.nil_append, List.cons_append, List.length_cons, List.length_nil, List.replicate, if_true, if_false, ite_true, ite_false, Bool.not_true, Bool.not_false, Bool.not_eq_true', Bool.true_or, Bool.false_or, Bool.or_true, Bool.or_false, Bool.true_and, Bool.false_and, Bool.and_true, Bool.and_false, reduceCtorEq, Nat.reduceSub, Nat.reduceAdd, Nat.zero_add, Nat.reduceLeDiff, List.contains_nil, List.contains_cons, decide_true, decide_false, Bool.false_eq_true, and_self, and_true, true_and, ↓reduceIte, io_is_between, io_is_exchange, io_walk, io_is_round, io_check_round, io_back, io_with_names, io_renamed, io_ring_from, io_rings_of, io_around, io_found_turns, io_found_corners, io_corners, io_check_square, io_turns, io__law_town, io__law_draw, io__law_order, io__law_hangs, io__law_round, io__law_back, io_law]
  have e9 : startG F_law.io F_law.n [sc ns] = [some (.frz (sc ns)), none, none, none, none, none, none, none, none, none, none, none, none, none, none, none, none] := rfl
  unfold bodyR
  rw [e9, body]
  rfl
theorem plain12 (ns : List Int) (h : ns.length ≤ 63) : run P 20 22 [scr (ns.map .int)] = .ok (.f (.bool true), []) := r_law 14 ns h
end Law_shearsquares_k12_corners

namespace Law_shearsquares_k12_corners
open PySem PySem.Spec PyProof.Rows L2 Dat
def top (i : Nat) : Stmt := PySem.Challenge.pw_shearsquares_k12_corners.main.body.getD i (.Pass ⟨0, 0, 0, 0⟩)
def R_is_between : Dat.Row := ⟨F_is_between, top 6, [⟨#[118, 97, 108, 117, 101]⟩, ⟨#[108, 111, 119]⟩, ⟨#[104, 105, 103, 104]⟩], [⟨#[118, 97, 108, 117, 101]⟩, ⟨#[108, 111, 119]⟩, ⟨#[104, 105, 103, 104]⟩]⟩
def R_is_exchange : Dat.Row := ⟨F_is_exchange, top 7, [⟨#[118, 97, 108, 117, 101]⟩, ⟨#[109, 97, 110, 121]⟩, ⟨#[111, 110, 101]⟩], [⟨#[118, 97, 108, 117, 101]⟩, ⟨#[109, 97, 110, 121]⟩]⟩
def R_walk : Dat.Row := ⟨F_walk, top 8, [⟨#[114, 105, 103, 104, 116]⟩, ⟨#[117, 112]⟩, ⟨#[115, 116, 97, 114, 116]⟩, ⟨#[102, 111, 117, 110, 100]⟩, ⟨#[112, 108, 97, 99, 101]⟩, ⟨#[111, 116, 104, 101, 114]⟩], [⟨#[114, 105, 103, 104, 116]⟩, ⟨#[117, 112]⟩, ⟨#[115, 116, 97, 114, 116]⟩]⟩
def R_is_round : Dat.Row := ⟨F_is_round, top 9, [⟨#[118, 97, 108, 117, 101]⟩, ⟨#[109, 97, 110, 121]⟩], [⟨#[118, 97, 108, 117, 101]⟩]⟩
def R_check_round : Dat.Row := ⟨F_check_round, top 10, [⟨#[118, 97, 108, 117, 101]⟩], [⟨#[118, 97, 108, 117, 101]⟩]⟩
def R_back : Dat.Row := ⟨F_back, top 11, [⟨#[101, 120, 99, 104, 97, 110, 103, 101]⟩, ⟨#[102, 111, 117, 110, 100]⟩, ⟨#[115, 113, 117, 97, 114, 101]⟩, ⟨#[111, 116, 104, 101, 114]⟩], [⟨#[101, 120, 99, 104, 97, 110, 103, 101]⟩]⟩
def R_with_names : Dat.Row := ⟨F_with_names, top 12, [⟨#[112, 97, 105, 114]⟩, ⟨#[110, 97, 109, 101, 115]⟩, ⟨#[111, 110, 101]⟩, ⟨#[115, 113, 117, 97, 114, 101]⟩], [⟨#[112, 97, 105, 114]⟩, ⟨#[110, 97, 109, 101, 115]⟩]⟩
def R_renamed : Dat.Row := ⟨F_renamed, top 13, [⟨#[114, 111, 117, 110, 100, 95, 103, 105, 118, 101, 110]⟩, ⟨#[110, 97, 109, 101, 115]⟩], [⟨#[114, 111, 117, 110, 100, 95, 103, 105, 118, 101, 110]⟩, ⟨#[110, 97, 109, 101, 115]⟩]⟩
def R_ring_from : Dat.Row := ⟨F_ring_from, top 14, [⟨#[101, 120, 99, 104, 97, 110, 103, 101]⟩, ⟨#[115, 116, 97, 114, 116]⟩, ⟨#[102, 111, 117, 110, 100]⟩, ⟨#[104, 101, 114, 101]⟩], [⟨#[101, 120, 99, 104, 97, 110, 103, 101]⟩, ⟨#[115, 116, 97, 114, 116]⟩]⟩
def R_rings_of : Dat.Row := ⟨F_rings_of, top 15, [⟨#[101, 120, 99, 104, 97, 110, 103, 101]⟩, ⟨#[102, 111, 117, 110, 100]⟩, ⟨#[109, 101, 116]⟩, ⟨#[115, 116, 97, 114, 116]⟩, ⟨#[115, 113, 117, 97, 114, 101]⟩], [⟨#[101, 120, 99, 104, 97, 110, 103, 101]⟩]⟩
def R_around : Dat.Row := ⟨F_around, top 16, [⟨#[112, 97, 105, 114]⟩, ⟨#[114, 105, 103, 104, 116]⟩, ⟨#[117, 112]⟩, ⟨#[108, 101, 102, 116]⟩, ⟨#[100, 111, 119, 110]⟩, ⟨#[115, 113, 117, 97, 114, 101]⟩], [⟨#[112, 97, 105, 114]⟩]⟩
def R_found_turns : Dat.Row := ⟨F_found_turns, top 17, [⟨#[112, 97, 105, 114]⟩, ⟨#[102, 111, 117, 110, 100]⟩, ⟨#[114, 105, 110, 103]⟩, ⟨#[115, 113, 117, 97, 114, 101]⟩], [⟨#[112, 97, 105, 114]⟩]⟩
def R_found_corners : Dat.Row := ⟨F_found_corners, top 18, [⟨#[112, 97, 105, 114]⟩, ⟨#[114, 105, 110, 103]⟩], [⟨#[112, 97, 105, 114]⟩]⟩
def R_corners : Dat.Row := ⟨F_corners, top 19, [⟨#[114, 111, 117, 110, 100, 95, 103, 105, 118, 101, 110]⟩], [⟨#[114, 111, 117, 110, 100, 95, 103, 105, 118, 101, 110]⟩]⟩
def R_check_square : Dat.Row := ⟨F_check_square, top 20, [⟨#[114, 111, 117, 110, 100, 95, 103, 105, 118, 101, 110]⟩, ⟨#[115, 113, 117, 97, 114, 101]⟩], [⟨#[114, 111, 117, 110, 100, 95, 103, 105, 118, 101, 110]⟩, ⟨#[115, 113, 117, 97, 114, 101]⟩]⟩
def R_turns : Dat.Row := ⟨F_turns, top 21, [⟨#[114, 111, 117, 110, 100, 95, 103, 105, 118, 101, 110]⟩, ⟨#[115, 113, 117, 97, 114, 101]⟩], [⟨#[114, 111, 117, 110, 100, 95, 103, 105, 118, 101, 110]⟩, ⟨#[115, 113, 117, 97, 114, 101]⟩]⟩
def R__law_town : Dat.Row := ⟨F__law_town, top 23, [⟨#[115, 99, 114, 105, 112, 116]⟩], [⟨#[115, 99, 114, 105, 112, 116]⟩]⟩
def R__law_draw : Dat.Row := ⟨F__law_draw, top 24, [⟨#[115, 99, 114, 105, 112, 116]⟩, ⟨#[116, 111, 119, 110]⟩, ⟨#[108, 105, 109, 105, 116]⟩, ⟨#[97, 116]⟩, ⟨#[108, 101, 102, 116]⟩, ⟨#[110, 117, 109, 98, 101, 114]⟩], [⟨#[115, 99, 114, 105, 112, 116]⟩, ⟨#[116, 111, 119, 110]⟩, ⟨#[108, 105, 109, 105, 116]⟩]⟩
def R__law_order : Dat.Row := ⟨F__law_order, top 25, [⟨#[115, 99, 114, 105, 112, 116]⟩, ⟨#[116, 111, 119, 110]⟩, ⟨#[109, 97, 110, 121]⟩, ⟨#[111, 114, 100, 101, 114]⟩, ⟨#[108, 101, 102, 116]⟩], [⟨#[115, 99, 114, 105, 112, 116]⟩, ⟨#[116, 111, 119, 110]⟩, ⟨#[109, 97, 110, 121]⟩]⟩
def R__law_hangs : Dat.Row := ⟨F__law_hangs, top 26, [⟨#[114, 105, 103, 104, 116]⟩, ⟨#[117, 112]⟩, ⟨#[109, 101, 116]⟩, ⟨#[116, 117, 114, 110]⟩, ⟨#[115, 113, 117, 97, 114, 101]⟩, ⟨#[111, 116, 104, 101, 114]⟩], [⟨#[114, 105, 103, 104, 116]⟩, ⟨#[117, 112]⟩]⟩
def R__law_round : Dat.Row := ⟨F__law_round, top 27, [⟨#[115, 99, 114, 105, 112, 116]⟩, ⟨#[116, 111, 119, 110]⟩, ⟨#[109, 111, 115, 116]⟩, ⟨#[109, 97, 110, 121]⟩, ⟨#[116, 117, 114, 110]⟩, ⟨#[114, 105, 103, 104, 116]⟩, ⟨#[117, 112]⟩, ⟨#[107]⟩], [⟨#[115, 99, 114, 105, 112, 116]⟩, ⟨#[116, 111, 119, 110]⟩, ⟨#[109, 111, 115, 116]⟩]⟩
def R__law_back : Dat.Row := ⟨F__law_back, top 28, [⟨#[111, 110, 101]⟩, ⟨#[107]⟩], [⟨#[111, 110, 101]⟩]⟩
def R_law : Dat.Row := ⟨F_law, top 29, [⟨#[115, 99, 114, 105, 112, 116]⟩, ⟨#[116, 111, 119, 110]⟩, ⟨#[112, 97, 105, 114]⟩, ⟨#[114, 105, 103, 104, 116]⟩, ⟨#[117, 112]⟩, ⟨#[109, 97, 110, 121]⟩, ⟨#[108, 101, 102, 116]⟩, ⟨#[100, 111, 119, 110]⟩, ⟨#[116, 111, 108, 100]⟩, ⟨#[103, 114, 111, 117, 112, 115]⟩, ⟨#[115, 113, 117, 97, 114, 101]⟩, ⟨#[110, 97, 109, 101, 115]⟩, ⟨#[111, 116, 104, 101, 114]⟩, ⟨#[108, 105, 110, 101]⟩, ⟨#[114, 105, 110, 103]⟩, ⟨#[104, 101, 114, 101]⟩, ⟨#[107]⟩], [⟨#[115, 99, 114, 105, 112, 116]⟩]⟩
def T : List Dat.Row := [R_is_between, R_is_exchange, R_walk, R_is_round, R_check_round, R_back, R_with_names, R_renamed, R_ring_from, R_rings_of, R_around, R_found_turns, R_found_corners, R_corners, R_check_square, R_turns, R__law_town, R__law_draw, R__law_order, R__law_hangs, R__law_round, R__law_back, R_law]
def xs : List Str := [⟨#[73, 110, 118, 97, 108, 105, 100, 82, 111, 117, 110, 100]⟩, ⟨#[73, 110, 118, 97, 108, 105, 100, 78, 97, 109, 101, 115]⟩, ⟨#[73, 110, 118, 97, 108, 105, 100, 78, 117, 109, 98, 101, 114]⟩]
theorem B_is_between : R_is_between.Bd := fun _ _ _ _ _ _ us hl => match us, hl with | [_, _, _], _ => rfl
theorem B_is_exchange : R_is_exchange.Bd := fun _ _ _ _ _ _ us hl => match us, hl with | [_, _], _ => rfl
theorem B_walk : R_walk.Bd := fun _ _ _ _ _ _ us hl => match us, hl with | [_, _, _], _ => rfl
theorem B_is_round : R_is_round.Bd := fun _ _ _ _ _ _ us hl => match us, hl with | [_], _ => rfl
theorem B_check_round : R_check_round.Bd := fun _ _ _ _ _ _ us hl => match us, hl with | [_], _ => rfl
theorem B_back : R_back.Bd := fun _ _ _ _ _ _ us hl => match us, hl with | [_], _ => rfl
theorem B_with_names : R_with_names.Bd := fun _ _ _ _ _ _ us hl => match us, hl with | [_, _], _ => rfl
theorem B_renamed : R_renamed.Bd := fun _ _ _ _ _ _ us hl => match us, hl with | [_, _], _ => rfl
theorem B_ring_from : R_ring_from.Bd := fun _ _ _ _ _ _ us hl => match us, hl with | [_, _], _ => rfl
theorem B_rings_of : R_rings_of.Bd := fun _ _ _ _ _ _ us hl => match us, hl with | [_], _ => rfl
theorem B_around : R_around.Bd := fun _ _ _ _ _ _ us hl => match us, hl with | [_], _ => rfl
theorem B_found_turns : R_found_turns.Bd := fun _ _ _ _ _ _ us hl => match us, hl with | [_], _ => rfl
theorem B_found_corners : R_found_corners.Bd := fun _ _ _ _ _ _ us hl => match us, hl with | [_], _ => rfl
theorem B_corners : R_corners.Bd := fun _ _ _ _ _ _ us hl => match us, hl with | [_], _ => rfl
theorem B_check_square : R_check_square.Bd := fun _ _ _ _ _ _ us hl => match us, hl with | [_, _], _ => rfl
theorem B_turns : R_turns.Bd := fun _ _ _ _ _ _ us hl => match us, hl with | [_, _], _ => rfl
theorem B__law_town : R__law_town.Bd := fun _ _ _ _ _ _ us hl => match us, hl with | [_], _ => rfl
theorem B__law_draw : R__law_draw.Bd := fun _ _ _ _ _ _ us hl => match us, hl with | [_, _, _], _ => rfl
theorem B__law_order : R__law_order.Bd := fun _ _ _ _ _ _ us hl => match us, hl with | [_, _, _], _ => rfl
theorem B__law_hangs : R__law_hangs.Bd := fun _ _ _ _ _ _ us hl => match us, hl with | [_, _], _ => rfl
theorem B__law_round : R__law_round.Bd := fun _ _ _ _ _ _ us hl => match us, hl with | [_, _, _], _ => rfl
theorem B__law_back : R__law_back.Bd := fun _ _ _ _ _ _ us hl => match us, hl with | [_], _ => rfl
theorem B_law : R_law.Bd := fun _ _ _ _ _ _ us hl => match us, hl with | [_], _ => rfl

theorem ok : T.all (Row.ok (T.map (·.F)) xs) = true := by decide +kernel
theorem bd : ∀ r ∈ T, r.Bd := by
  intro r hr
  simp only [T, List.mem_cons, List.not_mem_nil, or_false] at hr
  rcases hr with rfl | rfl | rfl | rfl | rfl | rfl | rfl | rfl | rfl | rfl | rfl | rfl | rfl | rfl | rfl | rfl | rfl | rfl | rfl | rfl | rfl | rfl | rfl
  · exact B_is_between
  · exact B_is_exchange
  · exact B_walk
  · exact B_is_round
  · exact B_check_round
  · exact B_back
  · exact B_with_names
  · exact B_renamed
  · exact B_ring_from
  · exact B_rings_of
  · exact B_around
  · exact B_found_turns
  · exact B_found_corners
  · exact B_corners
  · exact B_check_square
  · exact B_turns
  · exact B__law_town
  · exact B__law_draw
  · exact B__law_order
  · exact B__law_hangs
  · exact B__law_round
  · exact B__law_back
  · exact B_law
abbrev R : PySem.W.OpenRow := PySem.W.OpenLaw.row PySem.Challenge.rw_shearsquares_k12_corners
abbrev hk : PySem.W.Hook := He.hookD 4 (facT T xs) (fnsT T)
def ob (s : PySem.W.SharedT) : He.AlD := He.obsDG 4 (facT T xs) (fnsT T) (HandSHeadRun.getT s)
theorem ob_eq (s : PySem.W.SharedT) : ob s = hk.obs s.abs := He.obsDG_eq (HandSHeadRun.getT_eq s)
theorem run (w : World) : HandSHeadRun.RunEq R (PySem.W.view R.prog [29]) hk ob 2500 ["SquareError", "InvalidRound", "InvalidNames", "InvalidNumber", "is_between", "is_exchange", "walk", "is_round", "check_round", "back", "with_names", "renamed", "ring_from", "rings_of", "around", "found_turns", "found_corners", "corners", "check_square", "turns", "_law_town", "_law_draw", "_law_order", "_law_hangs", "_law_round", "_law_back"] w := by
  intro os
  kernel_rfl
end Law_shearsquares_k12_corners

open PySem PySem.W PySem.Calls PyProof.Rows
theorem plain12 (ns : List Int) (h : ns.length ≤ 63) : Dat.run (Law_shearsquares_k12_corners.T.map (·.F)) 20 22 [Dat.scr (ns.map .int)] = .ok (.f (.bool true), []) := Law_shearsquares_k12_corners.plain12 ns h
theorem PySem.Challenge.cw_shearsquares_k12_corners_holds : PySem.Challenge.rw_shearsquares_k12_corners.Holds := by
  w_on; o_law
  refine HandSHeadRun.head_any (r := OpenLaw.row PySem.Challenge.rw_shearsquares_k12_corners) (q := view (OpenLaw.row PySem.Challenge.rw_shearsquares_k12_corners).prog [29]) (H := Law_shearsquares_k12_corners.hk) (ob := Law_shearsquares_k12_corners.ob) (M := 2500) (loose := ["SquareError", "InvalidRound", "InvalidNames", "InvalidNumber", "is_between", "is_exchange", "walk", "is_round", "check_round", "back", "with_names", "renamed", "ring_from", "rings_of", "around", "found_turns", "found_corners", "corners", "check_square", "turns", "_law_town", "_law_draw", "_law_order", "_law_hangs", "_law_round", "_law_back"]) (d := HandSHeadRun.topDef (OpenLaw.row PySem.Challenge.rw_shearsquares_k12_corners).prog 29) (kwd := []) Law_shearsquares_k12_corners.ob_eq
    (by kernel_rfl) (fun s => by kernel_rfl) Law_shearsquares_k12_corners.run (by kernel_rfl) (by kernel_rfl) (by kernel_rfl) (by rfl) (by first | assumption | decide +kernel) (by decide +kernel) ⟨rfl, rfl, rfl, rfl, rfl, by decide +kernel⟩ ?hw ?hc
  case hw => w_witness2
  case hc =>
    refine Dat.walkW (l := PySem.Challenge.rw_shearsquares_k12_corners) (n := 63) (k := 20) (x := "script") rfl (by decide) (by kernel_rfl) ⟨rfl, by decide, by decide⟩ ?F
    intro w mg fa h Y G hmg0
    obtain ⟨K, KX, c⟩ := Y
    have hmg : mg Law_shearsquares_k12_corners.R_law.F.name = some (.ref fa) := by
      have e : (HandSHeadRun.topDef (OpenLaw.row PySem.Challenge.rw_shearsquares_k12_corners).prog 29).name = Law_shearsquares_k12_corners.R_law.F.name := by kernel_rfl
      rw [← e]
      exact hmg0
    obtain ⟨fd, hb, hF⟩ := Dat.law_end (Pg := (PySem.Challenge.rw_shearsquares_k12_corners).prog) (w := w) (j := 19) (f := 22) Law_shearsquares_k12_corners.ok Law_shearsquares_k12_corners.bd KX G c rfl hmg rfl rfl
    exact ⟨K, fd, _, KX, hb, fun H a ns hl hS => Dat.law_sp hS (plain12 ns hl), hF⟩
